import PyProof.Rows.All
import Wide.All
import OpenK.AllK
import Wide.FinOn
import HandS.ForMost
import HandS.ForExc
import HandS.TupLe
import HandS.IsInst
import HandS.Small
import HandS.Wide
import HandS.ExcIs
import HandS.DictComp
import HandS.Rev
import HandS.Codes
import HandS.HotCalls
import HandS.SortInts
import KE.Datum
import PySem.Challenge.RW_laminae_k60_whole_commit_cut
set_option Elab.async false
set_option linter.all false
set_option maxRecDepth 100000
set_option maxHeartbeats 4000000
namespace U
open PySem PySem.Spec PyProof.Rows L2
section weaken
variable {X : Cx}
theorem orR {f : Value → Value → Sem Value} {r r' : R2} (h : OpR X f r) (g : OpR X f r') : OpR X f (fun x y H Q => r x y H Q ∨ r' x y H Q) :=
  fun pins s σ H x y v u Q I rx ry q => q.elim (h pins s σ H x y v u Q I rx ry) (g pins s σ H x y v u Q I rx ry)
theorem wR {f : Value → Value → Sem Value} {r r' : R2} (h : OpR X f r) (k : ∀ x y H Q, r' x y H Q → r x y H Q) : OpR X f r' :=
  fun pins s σ H x y v u Q I rx ry q => h pins s σ H x y v u Q I rx ry (k _ _ _ _ q)
theorem wC {f : Value} {r r' : List V → Hp → VK → Prop} (h : CallR X f r) (k : ∀ xs H Q, r' xs H Q → r xs H Q) : CallR X f r' :=
  fun pins s σ H xs us Q I rx q => h pins s σ H xs us Q I rx (k _ _ _ q)
theorem orC {f : Value} {r r' : List V → Hp → VK → Prop} (h : CallR X f r) (g : CallR X f r') : CallR X f (fun xs H Q => r xs H Q ∨ r' xs H Q) :=
  fun pins s σ H xs us Q I rx q => q.elim (h pins s σ H xs us Q I rx) (g pins s σ H xs us Q I rx)
end weaken
def tCut (t u : TS) : TS := C8.tCut t u
theorem pss_cut {X : Cx} {st : Stmt} {rest : List Stmt} {t u : TS} (h1 : PS X st t) (h2 : PSs X rest u) : PSs X (st :: rest) (tCut t u) := C8.pss_cut h1 h2
section ops
variable {X : Cx}
/-- text times number -/
theorem op_strmul : OpR X (binaryOp .Mult) (fun x y H Q => ∃ (z : Str) (n : Int), x = .str z ∧ y = .int n ∧ MulOk z n ∧ Q (.str (Txt.mul z n)) H) := by
  intro pins s σ H x y v u Q I rx ry h
  obtain ⟨z, n, rfl, rfl, ok, q⟩ := h
  obtain ⟨t, rfl⟩ := rx
  obtain ⟨t', rfl⟩ := ry
  exact SB.mul ok fun t1 k => ⟨.str (Txt.mul z n), H, I.tok _, ⟨_, rfl⟩, q⟩
def uAdd (K : PySem.W.Frag) : R2 := fun x y H Q => match x, y with
  | .int i, .int j => Q (.int (i + j)) H
  | .str i, .str j => i.length + j.length ≤ sizeLine ∧ Q (.str (i ++ j)) H
  | .ref a, .ref b => rCat (.ref a) (.ref b) H Q ∨ rCatT K (.ref a) (.ref b) H Q
  | _, _ => False
theorem o_add : OpR X (binaryOp .Add) (uAdd X.K) := by
  refine wR (orR op_add (orR op_add_str (orR op_cat op_catT))) fun x y H Q q => ?_
  unfold uAdd at q
  split at q
  · exact .inl ⟨_, _, rfl, rfl, q⟩
  · exact .inr (.inl ⟨_, _, rfl, rfl, q⟩)
  · exact .inr (.inr q)
  · exact q.elim
def uSub : R2 := fun x y H Q => match x, y with
  | .int i, .int j => Q (.int (i - j)) H
  | _, _ => False
theorem o_sub : OpR X (binaryOp .Sub) uSub := by
  refine wR op_sub fun x y H Q q => ?_
  unfold uSub at q
  split at q
  · exact ⟨_, _, rfl, rfl, q⟩
  · exact q.elim
def uMul : R2 := fun x y H Q => match x, y with
  | .int i, .int j => (CMul i j ∨ CMulW i j) ∧ Q (.int (i * j)) H
  | .str z, .int n => MulOk z n ∧ Q (.str (Txt.mul z n)) H
  | .ref a, .int n => rRep (.ref a) (.int n) H Q
  | _, _ => False
theorem o_mul : OpR X (binaryOp .Mult) uMul := by
  refine wR (orR op_mul (orR op_mulW (orR op_strmul op_rep))) fun x y H Q q => ?_
  unfold uMul at q
  split at q
  · obtain ⟨c | c, q⟩ := q
    · exact .inl ⟨_, _, rfl, rfl, c, q⟩
    · exact .inr (.inl ⟨_, _, rfl, rfl, c, q⟩)
  · exact .inr (.inr (.inl ⟨_, _, rfl, rfl, q⟩))
  · exact .inr (.inr (.inr q))
  · exact q.elim
def uDiv : R2 := fun x y H Q => match x, y with
  | .int i, .int j => (0 < j ∧ j < 2 ^ 200) ∧ Q (.int (i / j)) H
  | _, _ => False
theorem o_div : OpR X (binaryOp .FloorDiv) uDiv := by
  refine wR op_fdivW fun x y H Q q => ?_
  unfold uDiv at q
  split at q
  · obtain ⟨⟨c1, c2⟩, q⟩ := q
    exact ⟨_, _, rfl, rfl, wide_div (b := 200) c1 (by omega) (by decide) (by decide), q⟩
  · exact q.elim
def uMod : R2 := fun x y H Q => match x, y with
  | .int i, .int j => 0 < j ∧ Q (.int (i % j)) H
  | _, _ => False
theorem o_mod : OpR X (binaryOp .Mod) uMod := by
  refine wR op_mod fun x y H Q q => ?_
  unfold uMod at q
  split at q
  · exact ⟨_, _, rfl, rfl, q⟩
  · exact q.elim
def uPow : R2 := fun x y H Q => match x, y with
  | .int i, .int j => CPow i j ∧ Q (.int (i ^ j.toNat)) H
  | _, _ => False
theorem o_pow : OpR X (binaryOp .Pow) uPow := by
  refine wR op_pow fun x y H Q q => ?_
  unfold uPow at q
  split at q
  · exact ⟨_, _, rfl, rfl, q⟩
  · exact q.elim
def uNeg : V → Hp → VK → Prop := fun x H Q => match x with
  | .int i => Q (.int (-i)) H
  | _ => False
/-- == of data without dicts -/
def rEqP (K : PySem.W.Frag) : R2 := fun x y H Q => ∃ d e, Dp K H x d ∧ Dp K H y e ∧ (d.plain = true ∧ d.depth ≤ 60) ∧ e.plain = true ∧ Q (.bl (PyData.eqv d e)) H
def rNeP (K : PySem.W.Frag) : R2 := fun x y H Q => ∃ d e, Dp K H x d ∧ Dp K H y e ∧ (d.plain = true ∧ d.depth ≤ 60) ∧ e.plain = true ∧ Q (.bl (!PyData.eqv d e)) H
theorem op_eqP (hu : X.A.units + 64 < cLine) : OpR X (compareOp .Eq) (rEqP X.K) := by
  intro pins s σ H x y v u Q I rx ry h
  obtain ⟨d, e, hd, he, ⟨p1, dp⟩, p2, q⟩ := h
  obtain ⟨as, r1⟩ := Dp.reads I d x v hd rx
  obtain ⟨bs, r2⟩ := Dp.reads I e y u he ry
  exact PySem.SeqAt.eq_plain r1 r2 p1 p2 (by have := Nat.min_le_left d.depth e.depth; omega) ⟨.bl _, H, I, rfl, q⟩
theorem op_neP (hu : X.A.units + 64 < cLine) : OpR X (compareOp .NotEq) (rNeP X.K) := by
  intro pins s σ H x y v u Q I rx ry h
  obtain ⟨d, e, hd, he, ⟨p1, dp⟩, p2, q⟩ := h
  obtain ⟨as, r1⟩ := Dp.reads I d x v hd rx
  obtain ⟨bs, r2⟩ := Dp.reads I e y u he ry
  exact PySem.SeqAt.ne_plain r1 r2 p1 p2 (by have := Nat.min_le_left d.depth e.depth; omega) ⟨.bl _, H, I, rfl, q⟩
theorem d_int (i j : Int) : decide (V.int i = V.int j) = decide (i = j) := decide_eq_decide.mpr ⟨fun h => V.int.inj h, fun h => h ▸ rfl⟩
theorem d_str (i j : Str) : decide (V.str i = V.str j) = decide (i = j) := decide_eq_decide.mpr ⟨fun h => V.str.inj h, fun h => h ▸ rfl⟩
theorem d_bl (i j : Bool) : decide (V.bl i = V.bl j) = decide (i = j) := decide_eq_decide.mpr ⟨fun h => V.bl.inj h, fun h => h ▸ rfl⟩
/-- the same value, of two scalars -/
def sameS : V → V → Bool
  | .non, .non => true
  | .int i, .int j => decide (i = j)
  | .str i, .str j => decide (i = j)
  | .bl i, .bl j => decide (i = j)
  | .byt i, .byt j => decide (i = j)
  | _, _ => false
theorem sameS_eq {x y : V} (h : scal x y = true) : decide (x = y) = sameS x y := by
  cases x <;> cases y <;> first
    | (cases h; done)
    | exact d_int _ _
    | exact d_str _ _
    | exact d_bl _ _
    | rfl
    | (exact decide_eq_decide.mpr ⟨fun h => V.byt.inj h, fun h => h ▸ rfl⟩)
    | (exact decide_eq_false (fun q => nomatch q))
def uEq (K : PySem.W.Frag) : R2 := fun x y H Q => match x, y with
  | .int i, .int j => Q (.bl (decide (i = j))) H
  | .str i, .str j => Q (.bl (decide (i = j))) H
  | .bl i, .bl j => Q (.bl (decide (i = j))) H
  | x, y => (scal x y = true ∧ Q (.bl (sameS x y)) H) ∨ rEqP K x y H Q
theorem o_eq (hu : X.A.units + 64 < cLine) : OpR X (compareOp .Eq) (uEq X.K) := by
  refine wR (orR op_eq (op_eqP hu)) fun x y H Q q => ?_
  unfold uEq at q
  split at q
  · exact .inl ⟨rfl, (d_int _ _).symm ▸ q⟩
  · exact .inl ⟨rfl, (d_str _ _).symm ▸ q⟩
  · exact .inl ⟨rfl, (d_bl _ _).symm ▸ q⟩
  · rcases q with ⟨h, q⟩ | q
    · exact .inl ⟨h, (sameS_eq h).symm ▸ q⟩
    · exact .inr q
def uNe (K : PySem.W.Frag) : R2 := fun x y H Q => match x, y with
  | .int i, .int j => Q (.bl (!decide (i = j))) H
  | .str i, .str j => Q (.bl (!decide (i = j))) H
  | .bl i, .bl j => Q (.bl (!decide (i = j))) H
  | x, y => (scal x y = true ∧ Q (.bl (!sameS x y)) H) ∨ rNeP K x y H Q
theorem o_ne (hu : X.A.units + 64 < cLine) : OpR X (compareOp .NotEq) (uNe X.K) := by
  refine wR (orR op_ne (op_neP hu)) fun x y H Q q => ?_
  unfold uNe at q
  split at q
  · exact .inl ⟨rfl, (d_int _ _).symm ▸ q⟩
  · exact .inl ⟨rfl, (d_str _ _).symm ▸ q⟩
  · exact .inl ⟨rfl, (d_bl _ _).symm ▸ q⟩
  · rcases q with ⟨h, q⟩ | q
    · exact .inl ⟨h, (sameS_eq h).symm ▸ q⟩
    · exact .inr q
/-- tuples of ints in their order -/
theorem lexAt_eq (ns ms : List Int) (op : Int → Int → Bool) (z : Bool) (f : List Int → List Int → Bool)
    (h0 : ∀ i, i = ns.length ∨ i = ms.length → i ≤ ns.length → i ≤ ms.length → f (ns.drop i) (ms.drop i) = z)
    (h1 : ∀ x xs y ys, f (x :: xs) (y :: ys) = if x = y then f xs ys else op x y) :
    ∀ k i, i + k = min ns.length ms.length → Ob.lexAt (fun j => decide (ns.getD j 0 = ms.getD j 0)) (fun j => op (ns.getD j 0) (ms.getD j 0)) z i k = f (ns.drop i) (ms.drop i)
  | 0, i, h => by
    rw [Ob.lexAt_zero, h0 i (by omega) (by omega) (by omega)]
  | k + 1, i, h => by
    have a : i < ns.length := by omega
    have b : i < ms.length := by omega
    rw [Ob.lexAt_succ, List.drop_eq_getElem_cons a, List.drop_eq_getElem_cons b, h1, lexAt_eq ns ms op z f h0 h1 k (i + 1) (by omega)]
    simp only [List.getD_eq_getElem?_getD, List.getElem?_eq_getElem a, List.getElem?_eq_getElem b, Option.getD_some, decide_eq_true_eq]
def lexLe (a b : List Int) : Bool := !HT.lexLt b a
theorem lexLe_cons (x y : Int) (xs ys : List Int) : lexLe (x :: xs) (y :: ys) = if x = y then lexLe xs ys else decide (x ≤ y) := by
  unfold lexLe
  rw [HT.lexLt_cons]
  by_cases h : x = y
  · rw [if_pos h, if_pos h.symm]
  · rw [if_neg h, if_neg (fun e => h e.symm), ← decide_not]
    exact decide_eq_decide.mpr (by omega)
theorem lexLe_end (ns ms : List Int) (i : Nat) (h : i = ns.length ∨ i = ms.length) (h1 : i ≤ ns.length) (h2 : i ≤ ms.length) : lexLe (ns.drop i) (ms.drop i) = decide (ns.length ≤ ms.length) := by
  unfold lexLe
  by_cases a : i = ns.length
  · have e : ns.drop i = [] := List.drop_eq_nil_of_le (by omega)
    rw [e, decide_eq_true (by omega)]
    cases ms.drop i <;> rfl
  · have e : ms.drop i = [] := List.drop_eq_nil_of_le (by omega)
    rw [e, decide_eq_false (by omega)]
    cases e2 : ns.drop i with
    | nil => exact absurd (List.drop_eq_nil_iff.mp e2) (by omega)
    | cons x r => rfl
theorem lexAt_le (ns ms : List Int) : Ob.lexAt (fun j => decide (ns.getD j 0 = ms.getD j 0)) (fun j => decide (ns.getD j 0 ≤ ms.getD j 0)) (decide (ns.length ≤ ms.length)) 0 (min ns.length ms.length) = lexLe ns ms :=
  lexAt_eq ns ms (fun x y => decide (x ≤ y)) _ lexLe (fun i h a b => lexLe_end ns ms i h a b) (fun x xs y ys => lexLe_cons x y xs ys) _ 0 (by omega)
def lexGe (a b : List Int) : Bool := !HT.lexLt a b
theorem lexGe_le (a b : List Int) : lexGe a b = lexLe b a := rfl
theorem lexAt_ge (ns ms : List Int) : Ob.lexAt (fun j => decide (ns.getD j 0 = ms.getD j 0)) (fun j => decide (ns.getD j 0 ≥ ms.getD j 0)) (decide (ns.length ≥ ms.length)) 0 (min ns.length ms.length) = lexGe ns ms := by
  refine lexAt_eq ns ms (fun x y => decide (x ≥ y)) _ lexGe (fun i h a b => ?_) (fun x xs y ys => ?_) _ 0 (by omega)
  · rw [lexGe_le, lexLe_end ms ns i (by omega) b a]
  · rw [lexGe_le, lexLe_cons, lexGe_le]
    by_cases h : x = y
    · rw [if_pos h, if_pos h.symm]
    · rw [if_neg h, if_neg (fun e => h e.symm)]
def rGeT (K : PySem.W.Frag) : R2 := fun x y H Q => ∃ (a b : Addr) (ns ms : List Int), x = .ref a ∧ y = .ref b ∧ SqT K H a (ns.map V.int) ∧ SqT K H b (ms.map V.int) ∧ Q (.bl (lexGe ns ms)) H
theorem ints_at {us : List Value} {ns : List Int} (h : IntsAre us ns) (j : Nat) (h1 : j < us.toArray.size) : ∃ t, us.toArray[j] = .int (ns.getD j 0) t := PyProof.Rows.IntsAre.int_at h _ _ (by simp at h1; simp [h1])
theorem op_geT (hu : X.A.units < cLine) : OpR X (compareOp .GtE) (rGeT X.K) := by
  intro pins s σ H x y v u Q I rx ry h
  obtain ⟨a, b, ns, ms, rfl, rfl, ha, hb, q⟩ := h
  cases rx; cases ry
  obtain ⟨us, r1, p1, _⟩ := I.tuple ha
  obtain ⟨ws, r2, p2, _⟩ := I.tuple hb
  have j1 : IntsAre us ns := Vals.ints r1
  have j2 : IntsAre ws ms := Vals.ints r2
  have n1 : us.toArray.size = ns.length := List.size_toArray.trans j1.length
  have n2 : ws.toArray.size = ms.length := List.size_toArray.trans j2.length
  have R := Ob.RcOp.tuples_ge (A := X.A) (s := s) (e := fun j => decide (ns.getD j 0 = ms.getD j 0)) (r := fun j => decide (ns.getD j 0 ≥ ms.getD j 0)) p1 p2 hu
    (fun j h1 h2 => by
      obtain ⟨t, e1⟩ := ints_at j1 j h1
      obtain ⟨t', e2⟩ := ints_at j2 j h2
      rw [e1, e2, ← Bool.beq_eq_decide_eq]
      exact SeqAt.EqAt.int_int _ _ _ _)
    (fun j h1 h2 _ => by
      obtain ⟨t, e1⟩ := ints_at j1 j h1
      obtain ⟨t', e2⟩ := ints_at j2 j h2
      rw [e1, e2]
      exact Ob.RcOp.ge_int _ _ _ _)
  rw [n1, n2, lexAt_ge] at R
  exact R X.prog X.w X.xe (EP X pins σ Q) ⟨.bl _, H, I, rfl, q⟩
def uLt (K : PySem.W.Frag) : R2 := fun x y H Q => match x, y with
  | .int i, .int j => Q (.bl (decide (i < j))) H
  | .ref a, .ref b => ∃ ns ms : List Int, SqT K H a (ns.map V.int) ∧ SqT K H b (ms.map V.int) ∧ Q (.bl (HT.lexLt ns ms)) H
  | _, _ => False
theorem o_lt (hu : X.A.units < cLine) : OpR X (compareOp .Lt) (uLt X.K) := by
  refine wR (orR op_lt (op_ltT hu)) fun x y H Q q => ?_
  unfold uLt at q
  split at q
  · exact .inl ⟨_, _, rfl, rfl, q⟩
  · obtain ⟨ns, ms, a, b, q⟩ := q
    exact .inr ⟨_, _, ns, ms, rfl, rfl, a, b, q⟩
  · exact q.elim
def uLe (K : PySem.W.Frag) : R2 := fun x y H Q => match x, y with
  | .int i, .int j => Q (.bl (decide (i ≤ j))) H
  | .ref a, .ref b => ∃ ns ms : List Int, SqT K H a (ns.map V.int) ∧ SqT K H b (ms.map V.int) ∧ Q (.bl (lexLe ns ms)) H
  | _, _ => False
theorem o_le (hu : X.A.units < cLine) : OpR X (compareOp .LtE) (uLe X.K) := by
  refine wR (orR op_le (op_leT hu)) fun x y H Q q => ?_
  unfold uLe at q
  split at q
  · exact .inl ⟨_, _, rfl, rfl, q⟩
  · obtain ⟨ns, ms, a, b, q⟩ := q
    exact .inr ⟨_, _, ns, ms, rfl, rfl, a, b, by rw [lexAt_le]; exact q⟩
  · exact q.elim
def uGe (K : PySem.W.Frag) : R2 := fun x y H Q => match x, y with
  | .int i, .int j => Q (.bl (decide (j ≤ i))) H
  | .ref a, .ref b => ∃ ns ms : List Int, SqT K H a (ns.map V.int) ∧ SqT K H b (ms.map V.int) ∧ Q (.bl (lexGe ns ms)) H
  | _, _ => False
theorem o_ge (hu : X.A.units < cLine) : OpR X (compareOp .GtE) (uGe X.K) := by
  refine wR (orR op_ge (op_geT hu)) fun x y H Q q => ?_
  unfold uGe at q
  split at q
  · exact .inl ⟨_, _, rfl, rfl, q⟩
  · obtain ⟨ns, ms, a, b, q⟩ := q
    exact .inr ⟨_, _, ns, ms, rfl, rfl, a, b, q⟩
  · exact q.elim
def uGt : R2 := fun x y H Q => match x, y with
  | .int i, .int j => Q (.bl (decide (j < i))) H
  | _, _ => False
theorem o_gt : OpR X (compareOp .Gt) uGt := by
  refine wR op_gt fun x y H Q q => ?_
  unfold uGt at q
  split at q
  · exact ⟨_, _, rfl, rfl, q⟩
  · exact q.elim
def isNon : V → Bool
  | .non => true
  | _ => false
theorem isNon_eq (x : V) : decide (x = .non) = isNon x := by
  cases x <;> first | rfl | exact decide_eq_false (fun q => nomatch q)
def uIs : R2 := fun x y H Q => match y with
  | .non => Q (.bl (isNon x)) H
  | .bl b => ∃ a, x = .bl a ∧ Q (.bl (decide (a = b))) H
  | _ => False
theorem o_is : OpR X (compareOp .Is) uIs := by
  refine wR (orR op_isN op_is_bl) fun x y H Q q => ?_
  unfold uIs at q
  split at q
  · exact .inl ⟨rfl, (isNon_eq x).symm ▸ q⟩
  · obtain ⟨a, e, q⟩ := q
    exact .inr ⟨a, _, e, rfl, q⟩
  · exact q.elim
def uIsnt : R2 := fun x y H Q => match y with
  | .non => Q (.bl (!isNon x)) H
  | .bl b => ∃ a, x = .bl a ∧ Q (.bl (!decide (a = b))) H
  | _ => False
theorem o_isnt : OpR X (compareOp .IsNot) uIsnt := by
  refine wR (orR op_notN op_isnot_bl) fun x y H Q q => ?_
  unfold uIsnt at q
  split at q
  · exact .inl ⟨rfl, (isNon_eq x).symm ▸ q⟩
  · obtain ⟨a, e, q⟩ := q
    exact .inr ⟨a, _, e, rfl, q⟩
  · exact q.elim
theorem op_inD (hu : X.A.units + 1 < cLine) : OpR X (compareOp .In) (fun x y H Q => ∃ a o, y = .ref a ∧ DGet H a x o ∧ Q (.bl o.isSome) H) := by
  intro pins s σ H x y v u Q I rx ry h
  obtain ⟨a, o, rfl, g, q⟩ := h
  cases ry
  exact d_in hu I g rx fun s' I' => ⟨.bl o.isSome, H, I', rfl, q⟩
/-- in a list, a tuple of scalars; a dict -/
def uIn (K : PySem.W.Frag) : R2 := fun x y H Q => match y with
  | .ref a => (∃ xs, (SqL K H a xs ∨ SqT K H a xs) ∧ flatV x = true ∧ xs.all flatV = true ∧ Q (.bl (inV x xs)) H) ∨ ∃ o, DGet H a x o ∧ Q (.bl o.isSome) H
  | _ => False
theorem o_in (hu : X.A.units + 1 < cLine) : OpR X (compareOp .In) (uIn X.K) := by
  refine wR (orR op_in_seq (op_inD hu)) fun x y H Q q => ?_
  unfold uIn at q
  split at q
  · rcases q with ⟨xs, a, b, c, q⟩ | ⟨o, g, q⟩
    · exact .inl ⟨_, xs, rfl, a, b, c, q⟩
    · exact .inr ⟨_, o, rfl, g, q⟩
  · exact q.elim
def uNin (K : PySem.W.Frag) : R2 := fun x y H Q => match y with
  | .ref a => (∃ xs, (SqL K H a xs ∨ SqT K H a xs) ∧ flatV x = true ∧ xs.all flatV = true ∧ Q (.bl (!inV x xs)) H) ∨ ∃ o, DGet H a x o ∧ Q (.bl (!o.isSome)) H
  | _ => False
end ops
section subs
variable {X : Cx}
/-- a[b] of lists, tuples, texts -/
def uIx (K : PySem.W.Frag) : R2 := fun x y H Q => match x, y with
  | .ref p, .int i => ∃ xs v, (SqL K H p xs ∨ SqT K H p xs) ∧ atI xs i = some v ∧ Q v H
  | .str z, .int i => z.length ≤ sizeLine ∧ ∃ c, atI z.cps.toList i = some c ∧ Q (.str ⟨#[c]⟩) H
  | _, _ => False
theorem ix_u : IxR X (uIx X.K) := by
  intro value slice pins s σ H x y v u Q I rx ry h hs
  refine ix_seq value slice pins s σ H x y v u Q I rx ry ?_ hs
  unfold uIx at h
  split at h
  · obtain ⟨xs, v, e | e, g, q⟩ := h
    · exact .inl ⟨_, xs, _, v, rfl, rfl, e, g, q⟩
    · exact .inr (.inl ⟨_, xs, _, v, rfl, rfl, e, g, q⟩)
  · obtain ⟨z, c, e, q⟩ := h
    exact .inr (.inr ⟨_, _, c, rfl, rfl, z, e, q⟩)
  · exact h.elim
theorem e_ix {a b : Expr} {ta tb : TE} {pos : Pos} (ha : PE X a ta) (hb : PE X b tb) (hs : PlainIx b := by exact fun _ _ => rfl) : PE X (.Subscript a b pos) (tOp (uIx X.K) ta tb) := pe_ix ix_u ha hb hs
/-- a[lo:hi] -/
def uSl (K : PySem.W.Frag) : V → Option Int → Option Int → Hp → VK → Prop := fun x lo hi H Q => rSlL K x lo hi H Q ∨ rSlT K x lo hi H Q ∨ rSlS x lo hi H Q
theorem sl_u : SlR X (uSl X.K) := SlR.or sl_list (SlR.or sl_tup sl_str)
theorem e_sl {e : Expr} {lo hi : Option Expr} {te : TE} {tl th : TO} {p2 pos : Pos} (he : PE X e te) (hl : PO X lo tl) (hh : PO X hi th) : PE X (.Subscript e (.Slice lo hi none p2) pos) (tSl (uSl X.K) te tl th) := pe_slice sl_u he hl hh
/-- d[k] -/
theorem e_dg {a b : Expr} {ta tb : TE} {pos : Pos} (hu : X.A.units + 1 < cLine) (ha : PE X a ta) (hb : PE X b tb) (hs : NoSl b := by exact fun _ _ => rfl) : PE X (.Subscript a b pos) (tDGet ta tb) := pe_dget hu ha hb hs
/-- a[i] by values, for a[i] += e -/
def uGet (K : PySem.W.Frag) : V → V → Hp → VK → Prop := fun x y H Q => match x, y with
  | .ref p, .int i => (0 ≤ i ∧ ∃ xs v, SqL K H p xs ∧ xs[i.toNat]? = some v ∧ Q v H) ∨ ∃ v, DGet H p (.int i) (some v) ∧ Q v H
  | .ref p, y => ∃ v, DGet H p y (some v) ∧ Q v H
  | _, _ => False
theorem get_u (hu : X.A.units + 1 < cLine) : PGet X (uGet X.K) := by
  intro pins s σ H o i ov iv Q I ro ri h
  unfold uGet at h
  split at h
  · cases ro
    rcases h with ⟨h0, xs, v, hq, e, q⟩ | ⟨v, g, q⟩
    · obtain ⟨t, rfl⟩ := ri
      obtain ⟨us, r, pl, hz⟩ := I.list hq
      obtain ⟨w, ew, rw'⟩ := r.get e
      have hn := line63
      have hl := r.length
      have hb := (List.getElem?_eq_some_iff.mp e).1
      exact wpAny_getItem_list pl.isList h0 (by omega) (by rw [List.getElem?_toArray]; exact ew) ⟨v, H, I, rw', q⟩
    · exact d_getItem hu I g ri fun w' s' I' rv => ⟨v, H, I', rv, q⟩
  · cases ro
    obtain ⟨v, g, q⟩ := h
    exact d_getItem hu I g ri fun w' s' I' rv => ⟨v, H, I', rv, q⟩
  · exact h.elim
/-- a[i] = v -/
def uSet : TSet := fun o i v H Q => match o, i with
  | .ref p, .int k => (∃ xs j, H p = some (.lst xs) ∧ ixN xs.length k = some j ∧ Q (upd H p (.lst (xs.set j v)))) ∨ ∃ H', DPut H p (.int k) v H' ∧ Q H'
  | .ref p, i => ∃ H', DPut H p i v H' ∧ Q H'
  | _, _ => False
theorem set_u (hu : X.A.units + 1 < cLine) : PSet X uSet := by
  intro pins s σ H o i v ov iv u Q I ro ri rv h
  unfold uSet at h
  split at h
  · rcases h with ⟨xs, j, e, g, q⟩ | ⟨H', g, q⟩
    · exact set_list pins s σ H _ _ v ov iv u Q I ro ri rv ⟨_, xs, _, j, rfl, rfl, e, g, q⟩
    · exact set_dict hu pins s σ H _ _ v ov iv u Q I ro ri rv ⟨_, H', rfl, g, q⟩
  · obtain ⟨H', g, q⟩ := h
    exact set_dict hu pins s σ H _ _ v ov iv u Q I ro ri rv ⟨_, H', rfl, g, q⟩
  · exact h.elim
end subs
section calls
variable {X : Cx}
/-- len -/
def uLen (K : PySem.W.Frag) : List V → Hp → VK → Prop := fun xs H Q => match xs with
  | [.ref p] => (∃ ys, (SqL K H p ys ∨ SqT K H p ys) ∧ Q (.int ys.length) H) ∨ ∃ kvs, H p = some (.dK kvs) ∧ Q (.int kvs.length) H
  | [.str z] => z.length ≤ sizeLine ∧ Q (.int z.length) H
  | _ => False
theorem c_len : CallR X (.builtin "len") (uLen X.K) := by
  refine wC (orC call_len_seq (orC call_len_str call_lenD)) fun xs H Q q => ?_
  unfold uLen at q
  split at q
  · rcases q with ⟨ys, a, q⟩ | ⟨kvs, a, q⟩
    · exact .inl ⟨_, ys, rfl, a, q⟩
    · exact .inr (.inr ⟨_, kvs, rfl, a, q⟩)
  · exact .inr (.inl ⟨_, rfl, q⟩)
  · exact q.elim
/-- list(x), tuple(x) -/
def uList (K : PySem.W.Frag) : List V → Hp → VK → Prop := fun xs H Q => match xs with
  | [.ref p] => ∃ ys, (SqL K H p ys ∨ SqT K H p ys) ∧ ∀ l, H l = none → Q (.ref l) (upd H l (.lst ys))
  | _ => False
theorem c_list : CallR X (.type "list") (uList X.K) := by
  refine wC call_list_of fun xs H Q q => ?_
  unfold uList at q
  split at q
  · obtain ⟨ys, a, q⟩ := q
    exact ⟨_, ys, rfl, a, q⟩
  · exact q.elim
def uAbs : List V → Hp → VK → Prop := fun xs H Q => match xs with
  | [.int i] => Q (.int (if i < 0 then -i else i)) H
  | _ => False
theorem c_abs : CallR X (.builtin "abs") uAbs := by
  refine wC call_abs fun xs H Q q => ?_
  unfold uAbs at q
  split at q
  · exact ⟨_, rfl, q⟩
  · exact q.elim
def uMax (K : PySem.W.Frag) : List V → Hp → VK → Prop := fun xs H Q => match xs with
  | [.int i, .int j] => Q (.int (if j > i then j else i)) H
  | [.ref a] => ∃ ns : List Int, SqL K H a (ns.map V.int) ∧ 0 < ns.length ∧ ∀ m, m ∈ ns → (∀ y, y ∈ ns → y ≤ m) → Q (.int m) H
  | _ => False
theorem c_max (hc : X.calm = true) : CallR X (.builtin "max") (uMax X.K) := by
  refine wC (orC (call_max2 hc) (cr_max hc)) fun xs H Q q => ?_
  unfold uMax at q
  split at q
  · exact .inl ⟨_, _, rfl, q⟩
  · obtain ⟨ns, a, b, c⟩ := q
    exact .inr ⟨_, ns, rfl, a, b, c⟩
  · exact q.elim
def uMin (K : PySem.W.Frag) : List V → Hp → VK → Prop := fun xs H Q => match xs with
  | [.int i, .int j] => Q (.int (if j < i then j else i)) H
  | [.ref a] => ∃ ns : List Int, SqL K H a (ns.map V.int) ∧ 0 < ns.length ∧ ∀ m, m ∈ ns → (∀ y, y ∈ ns → m ≤ y) → Q (.int m) H
  | _ => False
theorem c_min (hc : X.calm = true) : CallR X (.builtin "min") (uMin X.K) := by
  refine wC (orC (call_min2 hc) (cr_min hc)) fun xs H Q q => ?_
  unfold uMin at q
  split at q
  · exact .inl ⟨_, _, rfl, q⟩
  · obtain ⟨ns, a, b, c⟩ := q
    exact .inr ⟨_, ns, rfl, a, b, c⟩
  · exact q.elim
def uInt : List V → Hp → VK → Prop := fun xs H Q => match xs with
  | [.int i] => Q (.int i) H
  | [.bl k] => Q (.int (if k then 1 else 0)) H
  | _ => False
theorem c_int : CallR X (.type "int") uInt := by
  refine wC call_int1 fun xs H Q q => ?_
  unfold uInt at q
  split at q
  · exact .inl ⟨_, rfl, q⟩
  · exact .inr ⟨_, rfl, q⟩
  · exact q.elim
inductive Ty | int | bool | str | list | tuple | dict
def Ty.nm : Ty → String
  | .int => "int" | .bool => "bool" | .str => "str" | .list => "list" | .tuple => "tuple" | .dict => "dict"
/-- of a scalar -/
def isS : Ty → V → Bool
  | .int, .int _ => true
  | .int, .bl _ => true
  | .bool, .bl _ => true
  | .str, .str _ => true
  | _, _ => false
/-- of an object that is a list, a tuple, a dict -/
inductive Ob | list | tuple | dict
def Ob.nm : Ob → String
  | .list => "list" | .tuple => "tuple" | .dict => "dict"
def isO : Ty → Ob → Bool
  | .list, .list => true
  | .tuple, .tuple => true
  | .dict, .dict => true
  | _, _ => false
def uIsi (K : PySem.W.Frag) (n : Ty) : List V → Hp → VK → Prop := fun xs H Q => match xs with
  | [.int i, .ty m] => m = n.nm ∧ Q (.bl (isS n (.int i))) H
  | [.bl i, .ty m] => m = n.nm ∧ Q (.bl (isS n (.bl i))) H
  | [.str i, .ty m] => m = n.nm ∧ Q (.bl (isS n (.str i))) H
  | [.non, .ty m] => m = n.nm ∧ Q (.bl (isS n .non)) H
  | [.ref a, .ty m] => m = n.nm ∧ ∃ o : Ob, TyX K H (.ref a) (.type o.nm) ∧ Q (.bl (isO n o)) H
  | _ => False
theorem kit_int : ∀ n : Ty, kitB "int" n.nm = some (isS n (.int 0)) := fun n => by cases n <;> decide +kernel
theorem kit_bool : ∀ n : Ty, kitB "bool" n.nm = some (isS n (.bl true)) := fun n => by cases n <;> decide +kernel
theorem kit_str : ∀ n : Ty, kitB "str" n.nm = some (isS n (.str Str.empty)) := fun n => by cases n <;> decide +kernel
theorem kit_non : ∀ n : Ty, kitB "NoneType" n.nm = some (isS n .non) := fun n => by cases n <;> decide +kernel
theorem kit_obj : ∀ (n : Ty) (o : Ob), kitB o.nm n.nm = some (isO n o) := fun n o => by cases n <;> cases o <;> decide +kernel
theorem c_isi (n : Ty) : CallR X (.builtin "isinstance") (uIsi X.K n) := by
  refine wC call_isi fun xs H Q q => ?_
  unfold uIsi at q
  split at q
  · obtain ⟨rfl, q⟩ := q
    exact ⟨_, _, .type "int", .type n.nm, _, rfl, .ty n.nm, .base (.int _), kit_ty (kit_int n), by cases n <;> exact q⟩
  · obtain ⟨rfl, q⟩ := q
    exact ⟨_, _, .type "bool", .type n.nm, _, rfl, .ty n.nm, .base (.bl _), kit_ty (kit_bool n), by cases n <;> exact q⟩
  · obtain ⟨rfl, q⟩ := q
    exact ⟨_, _, .type "str", .type n.nm, _, rfl, .ty n.nm, .base (.str _), kit_ty (kit_str n), by cases n <;> exact q⟩
  · obtain ⟨rfl, q⟩ := q
    exact ⟨_, _, .type "NoneType", .type n.nm, _, rfl, .ty n.nm, .base .non, kit_ty (kit_non n), by cases n <;> exact q⟩
  · obtain ⟨rfl, o, t, q⟩ := q
    exact ⟨_, _, .type o.nm, .type n.nm, _, rfl, .ty n.nm, t, kit_ty (kit_obj n o), q⟩
  · exact q.elim
end calls
section own
variable {X : Cx} {k : Nat} {f C : Addr} {fd : FuncData} {ps : List Str} {sp : Sp} {W : WX} {x m : Str} {p pos apos : Pos} {e o : Expr} {es : List Expr} {ta : TE} {t : TA}
def uCall (sp : Sp) (W : WX) (t : TA) : TE := fun σ H Q => t σ H fun vs H1 => sp vs H1 Q fun c d H2 => W c d σ H2
theorem e_call (F : FnOk X.prog X.w X.K X.mg X.base (L2.CX X.prog X.w) k f fd ps sp) (hr : Room k X.A) (hm : X.mg x = some (.ref f)) (hk : PySem.W.keepIn X.K (.ref f) = true) (hb : Binds X.K fd ps []) (tk : Takes X W)
    (ha : PA X (e :: es) t) (hg : Gl X x := by rfl) (hdb : (x == ("__debug__" : Str)) = false := by decide) (he : starEach (e :: es) X.env = (false, eval e X.env) :: starEach es X.env := by rfl) (hpl : (backTo pos (starEach es X.env)).any (·.1) = false := by rfl) :
    PE X (.Call (.Name x p) (e :: es) [] pos) (uCall sp W t) := pe_callS (E := WE W) F hr hg hm hk hb (fun σ => passAt tk σ) ha hdb he hpl
/-- o.m(..) -/
def uMeth (C : Addr) (m : Str) (sp : Sp) (W : WX) (ta : TE) (t : TA) : TE := fun σ H Q => ta σ H fun x H1 => ∃ a dx fs, x = .ref a ∧ H1 a = some (.ins C dx fs) ∧ fs.lookup m = none ∧
  t σ H1 fun vs H2 => sp (x :: vs) H2 Q fun c d H3 => W c d σ H3
theorem e_meth {pl : Sem Bool} (ho : PE X o ta) (c : Cls X.K C) (hm : Meth X.K C m f) (F : FnOk X.prog X.w X.K X.mg X.base (L2.CX X.prog X.w) k f fd ps sp) (hr : Room k X.A) (hb : Binds X.K fd ps []) (tk : Takes X W) (ha : PA X (e :: es) t)
    (hst : starEach (e :: es) X.env = (false, eval e X.env) :: starEach es X.env := by rfl) (hpl : (backTo pos (starEach es X.env)).any (·.1) = false := by rfl)
    (ht : eval (.Call (.Attribute o m apos) (e :: es) [] pos) X.env = (do let ov ← eval o X.env; standAt apos.atName; let (f, first) ← holding [ov] (getMethod ov m pl); callWith pos f first (backTo pos (starEach (e :: es) X.env)) (backToKw pos (keywordEach [] X.env))) := by rfl) :
    PE X (.Call (.Attribute o m apos) (e :: es) [] pos) (uMeth C m sp W ta t) := by
  refine ⟨fun pins s σ H Q I h => PySem.W.methodCall_KW (pl := pl) (thn (ho.run pins s σ H _ I h) fun u s1 hh => ?_) ht⟩
  obtain ⟨x, H1, I1, rx, a, dx, fs, rfl, ea, l, q⟩ := hh
  cases (show u = Value.ref a from rx)
  refine getmeth_ok I1 ea c hm l (PySem.W.callWith_K (first := [.ref a]) (h₀ := X.base) I.ok.mod.kin hm.kp (thn (ha.run pos pins s1 σ H1 _ I1 q) fun us s2 hh => ?_) hst hpl)
  obtain ⟨vs, H2, I2, r, q2⟩ := hh
  exact ⟨I2.kIn, run_fnS (us := .ref a :: us) (vs := .ref a :: vs) (E := WE W) F hr hb (passAt tk σ) I2 (.cons rfl r) q2⟩
theorem e_meth0 {pl : Sem Bool} (ho : PE X o ta) (c : Cls X.K C) (hm : Meth X.K C m f) (F : FnOk X.prog X.w X.K X.mg X.base (L2.CX X.prog X.w) k f fd ps sp) (hr : Room k X.A) (hb : Binds X.K fd ps []) (tk : Takes X W)
    (ht : eval (.Call (.Attribute o m apos) [] [] pos) X.env = (do let ov ← eval o X.env; standAt apos.atName; let (f, first) ← holding [ov] (getMethod ov m pl); callWith pos f first (backTo pos (starEach [] X.env)) (backToKw pos (keywordEach [] X.env))) := by rfl) :
    PE X (.Call (.Attribute o m apos) [] [] pos) (uMeth C m sp W ta tNil) := by
  refine ⟨fun pins s σ H Q I h => PySem.W.methodCall_KW (pl := pl) (thn (ho.run pins s σ H _ I h) fun u s1 hh => ?_) ht⟩
  obtain ⟨x, H1, I1, rx, a, dx, fs, rfl, ea, l, q⟩ := hh
  cases (show u = Value.ref a from rx)
  exact getmeth_ok I1 ea c hm l (PySem.W.callWith_K0 (first := [.ref a]) I1.kIn hm.kp (run_fnS (us := [.ref a]) (vs := [.ref a]) (E := WE W) F hr hb (passAt tk σ) I1 (.cons rfl .nil) q))
/-- what a body wants of exceptions, as a wish -/
abbrev WB (E : XK) : WX := fun c d _ H => E c d H
/-- C(..), what is raised goes to W at the slots -/
def uMake (C : Addr) (sp : Sp) (W : WX) (t : TA) : TE := fun σ H Q => t σ H fun vs H1 => ∀ x dx, H1 x = none → H1 dx = none → dx ≠ x → sp (.ref x :: vs) (upd (upd H1 dx (.own x)) x (.ins C dx [])) (fun v H2 => v = .non ∧ Q (.ref x) H2) fun c d H2 => W c d σ H2
theorem make_at {pins : List (Addr × Obj)} {σ : L2.St} {H : Hp} {s : Shared} {Q : VK} {us : List Value} {vs : List V} (M : Mk X.K C f) (F : FnOk X.prog X.w X.K X.mg X.base (L2.CX X.prog X.w) k f fd ps sp) (hr : Room (k + 1) X.A) (hb : Binds X.K fd ps []) (tk : Takes X W)
    (I : Inv X pins σ H s) (r : Vals vs us)
    (h : ∀ x dx, H x = none → H dx = none → dx ≠ x → sp (.ref x :: vs) (upd (upd H dx (.own x)) x (.ins C dx [])) (fun v H2 => v = .non ∧ Q (.ref x) H2) fun c d H2 => W c d σ H2) :
    wpAny (model X.prog X.w) X.A (call (.ref C) us) (EP X pins σ Q) X.xe s := by
  let n := s.heap.objs.size
  have q0 : sp (.ref (n + 1) :: vs) _ _ _ := h (n + 1) n (I.hok.fresh (Nat.le_succ n)) (I.hok.fresh (Nat.le_refl n)) (Nat.ne_of_lt n.lt_succ_self)
  have J := Inv.made (C := C) I
  have rr : Vals (V.ref (n + 1) :: vs) (Value.ref (n + 1) :: us) := .cons rfl r
  have size : (Value.ref (n + 1) :: us).length = ps.length := rr.length.symm.trans (F.len _ _ _ _ q0)
  have go := F.run _ X.stack _ _ ⟨Value.ref (n + 1) :: us, []⟩ (Value.ref (n + 1) :: us) _ _ _ (hr.make C us []) (J.env0.make C us []) (by have z := hb _ (Value.ref (n + 1) :: us) J.kIn (by rw [List.append_nil]; exact size); rw [List.append_nil] at z; exact z) rr q0
  refine wpAny_call (make_map (f := f) I.kIn M.makes M.init (beq_iff_eq.mp M.fn) (codeAny_mono go ?_))
  rintro (e | fl) s' hq
  · exact passAt tk σ pins _ _ e s' J hq
  · cases fl with
    | ret u =>
      obtain ⟨v, H', I3, rv, ev, z⟩ := J.after hq
      cases ev
      exact ⟨rv, .ref (n + 1), H', I3, rfl, z⟩
    | next => exact hq.elim
    | brk => exact hq.elim
    | cont => exact hq.elim
theorem e_mk (M : Mk X.K C f) (F : FnOk X.prog X.w X.K X.mg X.base (L2.CX X.prog X.w) k f fd ps sp) (hr : Room (k + 1) X.A) (hm : X.mg x = some (.ref C)) (hb : Binds X.K fd ps []) (tk : Takes X W) (ha : PA X (e :: es) t)
    (hg : Gl X x := by rfl) (hdb : (x == ("__debug__" : Str)) = false := by decide) (he : starEach (e :: es) X.env = (false, eval e X.env) :: starEach es X.env := by rfl) (hpl : (backTo pos (starEach es X.env)).any (·.1) = false := by rfl) :
    PE X (.Call (.Name x p) (e :: es) [] pos) (uMake C sp W t) :=
  ⟨fun pins s σ H Q I h => wpAny_Call_Name_kw (ld_glob I hg hm (PySem.W.callWith_K (h₀ := X.base) I.ok.mod.kin M.kp (thn (ha.run pos pins s σ H _ I h) fun us s1 hh => by
    obtain ⟨vs, H1, I1, r, q⟩ := hh
    exact ⟨I1.kIn, make_at M F hr hb tk I1 r q⟩) he hpl) hdb)⟩
/-- what the top has of an own exception class -/
structure Exc (K : PySem.W.Frag) (mg : Str → Option Value) (n : Str) (C : Addr) : Prop where
  ex : PySem.W.excIn K C [.type "ValueError", .type "Exception", .type "BaseException", .type "object"] "ValueError.__new__" = true
  g : mg n = some (.ref C)
  kp : PySem.W.keepIn K (.ref C) = true
  sub : PySem.W.subIn K (.ref C) (.type "BaseException") = some true
  ty : PySem.W.typeIn K (.ref C) = some (.type "type")
def uRaise (C : Addr) (W : WX) : TS := fun _ σ H => W (.ref C) none σ H
theorem pmk0 {n : Str} (T : Exc X.K X.mg n C) (hg : Gl X n := by rfl) (hdb : (n == ("__debug__" : Str)) = false := by decide) : PMk X (.Call (.Name n p) [] [] pos) (fun _ H Q => Q (.ref C) none H) := by
  intro pins s σ H Q I h
  refine wpAny_Call_Name_kw (ld_glob I hg T.g (PySem.W.callWith_K0 I.kIn T.kp ?_) hdb)
  obtain ⟨bm, N, nm, qn, bs, hdct, sn, sub, ab, col, dd, k0, k1, k2, k3, k5, mN, hC, hN, hni, Z⟩ := exc_obj I.kIn T.ex
  exact wpAny_call_exc_subT PySem.F.excBase_ValueError Z hC hN hni (fun h' e hm => mk_of I hm (raises_own T.sub T.ty) h (I.hok.gone hm.new)) (Nat.zero_le _)
theorem s_raise {n : Str} (T : Exc X.K X.mg n C) (tk : Takes X W) {pos2 : Pos} (hc : X.calm = true := by rfl) (hg : Gl X n := by rfl) (hdb : (n == ("__debug__" : Str)) = false := by decide) :
    PS X (.Raise (some (.Call (.Name n p) [] [] pos)) none pos2) (uRaise C W) := ps_raise hc tk (pmk0 T hg hdb)
end own
section tries
variable {X : Cx} {x n : Str} {c : Value} {i : Nat} {body suite : List Stmt} {b₀ : Stmt} {np pos pos' : Pos} {tb : WX → TS} {ts : Addr → Value → Option Addr → TS} {W : WX}
def uTryAs (K : PySem.W.Frag) (c : Value) (i : Nat) (tb : WX → TS) (ts : Addr → Value → Option Addr → TS) (W : WX) : TS := fun D σ H => tb (wAs K c i ts W D) D σ H
def uTry (K : PySem.W.Frag) (c : Value) (tb : WX → TS) (ts : Addr → Value → Option Addr → TS) (W : WX) : TS := fun D σ H => tb (wOnly K c ts W D) D σ H
theorem s_try (hs : X.stack = X.env :: X.outer) (hf : X.env.frame = some X.env.locals) (hc : Names X x c) (tk : Takes X W)
    (hb : ∀ (W' : WX) (pn : List (Addr × Obj)) (xe : Value → Shared → Prop), Takes (X.tr pn xe) W' → PassesOwn (model X.prog X.w) X.A X.env xe → PSs (X.tr pn xe) body (tb W'))
    (hsu : ∀ (a : Addr) (oe : Obj) (cls : Value) (d : Option Addr) (pn : List (Addr × Obj)), Zc cls d oe → (∃ vs, oe.data = .fields vs) → PSs (X.suite a ((a, oe) :: pn)) (b₀ :: suite) (ts a cls d)) :
    PS X (.Try body [.ExceptHandler (some (.Name x np)) none (b₀ :: suite) pos'] [] [] pos) (uTry X.K c tb ts W) := ps_try_only hs hf hc tk hb hsu
theorem w_tryAs {K : PySem.W.Frag} {D : Ends} {σ : L2.St} {H : Hp} (h : tb (wAs K c i ts W D) D σ H) : uTryAs K c i tb ts W D σ H := h
theorem w_try {K : PySem.W.Frag} {D : Ends} {σ : L2.St} {H : Hp} (h : tb (wOnly K c ts W D) D σ H) : uTry K c tb ts W D σ H := h
theorem w_asT {K : PySem.W.Frag} {D : Ends} {σ : L2.St} {H : Hp} {cls : Value} {d : Option Addr} (e : PySem.W.exmOne K cls c = some true)
    (h : ∀ a, H a = none → ts a cls d { nx := fun σ' H' => D.nx (σ'.set i none) H', rt := D.rt, bk := fun σ' H' => D.bk (σ'.set i none) H', ct := fun σ' H' => D.ct (σ'.set i none) H' } (σ.set i (some (.ref a))) H) :
    wAs K c i ts W D cls d σ H := ⟨true, e, fun _ => h, fun q => Bool.noConfusion q⟩
theorem w_asF {K : PySem.W.Frag} {D : Ends} {σ : L2.St} {H : Hp} {cls : Value} {d : Option Addr} (e : PySem.W.exmOne K cls c = some false) (h : W cls d σ H) : wAs K c i ts W D cls d σ H := ⟨false, e, fun q => Bool.noConfusion q, fun _ => h⟩
theorem w_onT {K : PySem.W.Frag} {D : Ends} {σ : L2.St} {H : Hp} {cls : Value} {d : Option Addr} (e : PySem.W.exmOne K cls c = some true) (h : ∀ a, H a = none → ts a cls d D σ H) : wOnly K c ts W D cls d σ H := ⟨true, e, fun _ => h, fun q => Bool.noConfusion q⟩
theorem w_onF {K : PySem.W.Frag} {D : Ends} {σ : L2.St} {H : Hp} {cls : Value} {d : Option Addr} (e : PySem.W.exmOne K cls c = some false) (h : W cls d σ H) : wOnly K c ts W D cls d σ H := ⟨false, e, fun q => Bool.noConfusion q, fun _ => h⟩
/-- isinstance(e, C) of the exception that a suite holds -/
def uIsE (K : PySem.W.Frag) (a : Addr) (cls : Value) (d : Option Addr) : List V → Hp → VK → Prop := fun xs H Q => ∃ (D C : Addr) (b : Bool), cls = .ref D ∧ d = none ∧ ExcC K D ∧ xs = [.ref a, .ref C] ∧ PySem.W.kitOne K (.ref D) (.ref C) = some b ∧ Q (.bl b) H
theorem w_isE {K : PySem.W.Frag} {H : Hp} {Q : VK} {a D C : Addr} {b : Bool} (x : ExcC K D) (e : PySem.W.kitOne K (.ref D) (.ref C) = some b) (h : Q (.bl b) H) : uIsE K a (.ref D) none [.ref a, .ref C] H Q := ⟨D, C, b, rfl, rfl, x, rfl, e, h⟩
end tries
section fields
variable {X : Cx} {C : Addr} {f : Str} {e o v : Expr} {ta tv : TE} {pos pos' : Pos}
def uFld (C : Addr) (f : Str) (ta : TE) : TE := fun σ H Q => ta σ H fun x H1 => ∃ a dx fs v, x = .ref a ∧ H1 a = some (.ins C dx fs) ∧ fs.lookup f = some v ∧ Q v H1
theorem e_fld (c : Cls X.K C) (n : NoAttr X.K C f) (he : PE X e ta) (hb : attributeBase e f X.env (eval e X.env) = eval e X.env := by rfl) : PE X (.Attribute e f pos) (uFld C f ta) :=
  ⟨fun pins s σ H Q I h => attr_of hb (thn (he.run pins s σ H _ I h) fun u s1 hh => by
    obtain ⟨x, H1, I1, rx, a, dx, fs, v, rfl, ea, l, q⟩ := hh
    cases (show u = Value.ref a from rx)
    exact getattr_ok I1 ea c n l fun u' s2 I2 ru => ⟨v, H1, I2, ru, q⟩)⟩
def uSetF (C : Addr) (f : Str) (ta tv : TE) : TS := fun D σ H => tv σ H fun y H1 => ta σ H1 fun x H2 => ∃ a dx fs, x = .ref a ∧ H2 a = some (.ins C dx fs) ∧ fs.length < 1000 ∧ D.nx σ (upd H2 a (.ins C dx (putF f y fs)))
theorem s_fld (c : Cls X.K C) (n : NoAttr X.K C f) (ho : PE X o ta) (hv : PE X v tv) (hs : swapsWith v (some (.Attribute o f pos')) pos.line X.env = pure false := by rfl) : PS X (.Assign [.Attribute o f pos'] v pos) (uSetF C f ta tv) :=
  ⟨fun pins s σ H D I h => plainObj_wpAny_Assign_Attribute (thn (hv.run pins s σ H _ I h) fun u s1 ⟨y, H1, I1, ry, q⟩ => thn (ho.run pins s1 σ H1 _ I1 q) fun ov s2 hh => by
    obtain ⟨x, H2, I2, rx, a, dx, fs, rfl, ea, l, q2⟩ := hh
    cases (show ov = Value.ref a from rx)
    exact setattr_ok I2 ea c n l ry fun s3 I3 => ⟨σ, _, I3, q2⟩) hs⟩
/-- o.f += e -/
def uAugF (C : Addr) (f : Str) (r : V → V → Hp → VK → Prop) (ta tv : TE) : TS := fun D σ H => ta σ H fun x H1 => ∃ a dx fs v, x = .ref a ∧ H1 a = some (.ins C dx fs) ∧ fs.lookup f = some v ∧
  tv σ H1 fun y H2 => r v y H2 fun z H3 => ∃ dx' fs', H3 a = some (.ins C dx' fs') ∧ fs'.length < 1000 ∧ D.nx σ (upd H3 a (.ins C dx' (putF f z fs')))
theorem s_augf {op : Operator} {r : V → V → Hp → VK → Prop} {tpos : Pos} (c : Cls X.K C) (n : NoAttr X.K C f) (ho : PE X o ta) (hv : PE X v tv) (hop : InOp X op r) : PS X (.AugAssign (.Attribute o f tpos) op v pos) (uAugF C f r ta tv) :=
  ⟨fun pins s σ H D I h => wpAny_AugAssign_AttributeAny (thn (ho.run pins s σ H _ I h) fun ov s1 hh => by
    obtain ⟨x, H1, I1, rx, a, dx, fs, v, rfl, ea, l, q⟩ := hh
    cases (show ov = Value.ref a from rx)
    refine getattr_ok I1 ea c n l fun u s2 I2 ru => thn (hv.run pins s2 σ H1 _ I2 q) fun w3 s3 hh => ?_
    obtain ⟨y, H2, I3, ry, q3⟩ := hh
    refine thn (hop pins s3 σ H2 v y u w3 _ I3 ru ry q3) fun w4 s4 hh => ?_
    obtain ⟨z, H3, I4, rz, dx', fs', ea', l', q4⟩ := hh
    exact setattr_ok I4 ea' c n l' rz fun s5 I5 => ⟨σ, _, I5, q4⟩)⟩
end fields
section truth
variable {X : Cx} {e : Expr} {te : TE}
def truV (K : PySem.W.Frag) (x : V) (H1 : Hp) (Q : Bool → Hp → Prop) : Prop := match x with
  | .bl b => Q b H1
  | .non => Q false H1
  | .int i => Q (!decide (i = 0)) H1
  | .str z => z.length ≤ sizeLine ∧ Q (!decide (z.length = 0)) H1
  | .ref p => (∃ xs, (SqL K H1 p xs ∨ SqT K H1 p xs) ∧ Q (!xs.isEmpty) H1) ∨ ∃ kvs, H1 p = some (.dK kvs) ∧ Q (!kvs.isEmpty) H1
  | _ => False
def uTru (K : PySem.W.Frag) (te : TE) : TT := fun σ H Q => te σ H fun x H1 => truV K x H1 Q
theorem t_tru (he : PE X e te) (hw : ∀ whole, isTrue e X.env whole = (do let v ← whole; standAt e.pos; holding [v] (truthy v)) := by intro _; rfl) : PT X e (uTru X.K te) := by
  refine ⟨fun pins s σ H Q I h => isTrue_plain (thn (he.run pins s σ H _ I h) fun v s1 hh => ?_) (hw _)⟩
  obtain ⟨x, H1, I1, r1, q⟩ := hh
  refine tru_ok pins s1 σ H1 x v Q I1 r1 ?_
  unfold truV at q
  split at q
  · exact ⟨_, rfl, q⟩
  · exact ⟨_, rfl, q⟩
  · rename_i i
    refine ⟨_, rfl, ?_⟩
    rw [show (i != 0) = !decide (i = 0) by rw [bne, Bool.beq_eq_decide_eq]]
    exact q
  · rename_i z
    refine ⟨_, ⟨q.1, rfl⟩, ?_⟩
    rw [show ((z.length : Int) != 0) = !decide (z.length = 0) by rw [bne, Bool.beq_eq_decide_eq]; congr 1; exact decide_eq_decide.mpr (by omega)]
    exact q.2
  · rcases q with ⟨xs, a | a, q⟩ | ⟨kvs, a, q⟩
    · exact ⟨_, .inl ⟨xs, a, rfl⟩, q⟩
    · exact ⟨_, .inr (.inl ⟨xs, a, rfl⟩), q⟩
    · exact ⟨_, .inr (.inr ⟨kvs, a, rfl⟩), q⟩
  · exact q.elim
end truth
def forQ (g : TG) (tb : TS) (D : Ends) (σ : L2.St) (J : It) (H1 : Hp) : Prop := ∃ W : Nat → Nat → L2.St → Hp → Prop, (∃ m, W 0 m σ H1) ∧ ∀ i m σ H, W i m σ H →
  (J.stop i H ∧ D.nx σ H) ∨ (J.go i H ∧ ∃ N : L2.St → Hp → Prop, (∀ σ' H', N σ' H' → ∃ m', m' < m ∧ W (i + 1) m' σ' H') ∧ ∀ x H', J.yld i H x H' → g x σ H' fun σ2 H2 => tb { D with nx := N, ct := N, bk := D.nx } σ2 H2)
def newT (xs : List V) (H1 : Hp) (Q : VK) : Prop := xs.length ≤ sizeLine ∧ ∀ p, H1 p = none → Q (.ref p) (upd H1 p (.tup xs))
def newL (xs : List V) (H1 : Hp) (Q : VK) : Prop := xs.length ≤ sizeLine ∧ ∀ p, H1 p = none → Q (.ref p) (upd H1 p (.lst xs))
def bmQ (K : PySem.W.Frag) (T : String) (q : V → List V → Hp → VK → Prop) (tA : TA) (σ : L2.St) (x : V) (H1 : Hp) (Q : VK) : Prop := tyV K T x H1 ∧ tA σ H1 fun xs H2 => q x xs H2 Q
def rng1Q (vs : List V) (H1 : Hp) (R : It → Hp → Prop) : Prop := ∃ j : Int, vs = [.int j] ∧ -(2 ^ 62) ≤ j ∧ j < 2 ^ 62 ∧ R (Itr 0 j.toNat) H1
def rng2Q (vs : List V) (H1 : Hp) (R : It → Hp → Prop) : Prop := ∃ i j : Int, vs = [.int i, .int j] ∧ (-(2 ^ 62) ≤ i ∧ i < 2 ^ 62 ∧ -(2 ^ 62) ≤ j ∧ j < 2 ^ 62) ∧ R (Itr i (j - i).toNat) H1
def listQ (K : PySem.W.Frag) (x : V) (H1 : Hp) (R : It → Hp → Prop) : Prop := ∃ a, x = .ref a ∧ (∃ xs, SqL K H1 a xs) ∧ R (Itl K a) H1
def tupQ (K : PySem.W.Frag) (x : V) (H1 : Hp) (R : It → Hp → Prop) : Prop := ∃ a, x = .ref a ∧ (∃ xs, SqT K H1 a xs) ∧ R (Itt K a) H1
def strQ (x : V) (H1 : Hp) (R : It → Hp → Prop) : Prop := ∃ z, x = .str z ∧ R (Its z) H1
def revQ (K : PySem.W.Frag) (vs : List V) (H1 : Hp) (R : It → Hp → Prop) : Prop := ∃ (a : Addr) (xs : List V), vs = [.ref a] ∧ SqL K H1 a xs ∧ R (Itv K a xs.length) H1
def fldQ (C : Addr) (f : Str) (x : V) (H1 : Hp) (Q : VK) : Prop := ∃ a dx fs v, x = .ref a ∧ H1 a = some (.ins C dx fs) ∧ fs.lookup f = some v ∧ Q v H1
def methQ (C : Addr) (m : Str) (sp : Sp) (W : WX) (t : TA) (σ : L2.St) (x : V) (H1 : Hp) (Q : VK) : Prop := ∃ a dx fs, x = .ref a ∧ H1 a = some (.ins C dx fs) ∧ fs.lookup m = none ∧ t σ H1 fun vs H2 => sp (x :: vs) H2 Q fun c d H3 => W c d σ H3
def setfQ (C : Addr) (f : Str) (x y : V) (H2 : Hp) (N : Hp → Prop) : Prop := ∃ a dx fs, x = .ref a ∧ H2 a = some (.ins C dx fs) ∧ fs.length < 1000 ∧ N (upd H2 a (.ins C dx (putF f y fs)))
section steps
variable {K : PySem.W.Frag} {D : Ends} {σ : L2.St} {H : Hp} {Q : VK} {QB : Bool → Hp → Prop} {QA : List V → Hp → Prop} {t u : TS} {te ta tb tv : TE} {tA : TA} {c c1 c2 : TT} {g : TG} {i : Nat} {v x y : V} {r r' : R2} {W : WX} {sp : Sp} {b : Bool} {C a : Addr} {f : Str}
theorem w_seq (h : t { D with nx := u D } σ H) : tSeq t u D σ H := h
theorem w_cut (P : L2.St → Hp → Prop) (h1 : t { D with nx := P } σ H) (h2 : ∀ σ H, P σ H → u D σ H) : tCut t u D σ H := ⟨P, h1, h2⟩
theorem w_next (h : D.nx σ H) : tNext D σ H := h
theorem w_asg (h : te σ H fun x H1 => g x σ H1 D.nx) : tAsg te g D σ H := h
theorem w_name {N : L2.St → Hp → Prop} (h : N (σ.set i (some v)) H) : gName i v σ H N := h
theorem w_ret (h : te σ H D.rt) : tRet te D σ H := h
theorem w_retN (h : D.rt .non H) : tRetN D σ H := h
theorem w_if (h : c σ H fun b H1 => if b = true then t D σ H1 else u D σ H1) : tIfS c t u D σ H := h
theorem w_drop (h : te σ H fun _ H1 => D.nx σ H1) : tDrop te D σ H := h
theorem w_brk (h : D.bk σ H) : tBreak D σ H := h
theorem w_cont (h : D.ct σ H) : tCont D σ H := h
theorem w_aug {ti : TIp} (e : σ[i]? = some (some x)) (h : te σ H fun y H1 => ti x y H1 fun z H2 => D.nx (σ.set i (some z)) H2) : tAug i te ti D σ H := ⟨x, e, h⟩
theorem w_ipI {k : Int → Int → Int} {m n : Int} (h : Q (.int (k m n)) H) : ipI k (.int m) (.int n) H Q := ⟨m, n, rfl, rfl, h⟩
theorem w_test (h : te σ H fun x H1 => ∃ k, x = .bl k ∧ QB k H1) : tTest te σ H QB := h
theorem w_not (h : c σ H fun k H1 => QB (!k) H1) : tNot c σ H QB := h
theorem w_and (h : c1 σ H fun k H1 => if k = true then c2 σ H1 QB else QB false H1) : tAnd c1 c2 σ H QB := h
theorem w_or (h : c1 σ H fun k H1 => if k = true then QB true H1 else c2 σ H1 QB) : tOr c1 c2 σ H QB := h
theorem w_andV (h : ta σ H fun x H1 => ∃ k, x = .bl k ∧ if k = true then tb σ H1 Q else Q (.bl false) H1) : tAndV ta tb σ H Q := h
theorem w_orV (h : ta σ H fun x H1 => ∃ k, x = .bl k ∧ if k = true then Q (.bl true) H1 else tb σ H1 Q) : tOrV ta tb σ H Q := h
theorem w_notV (h : ta σ H fun x H1 => ∃ k, x = .bl k ∧ Q (.bl (!k)) H1) : tNotV ta σ H Q := h
theorem w_blP {P : Bool → Prop} (h : P b) : ∃ k, V.bl b = .bl k ∧ P k := ⟨b, rfl, h⟩
theorem w_ifE (h : c σ H fun k H1 => if k = true then ta σ H1 Q else tb σ H1 Q) : tIf c ta tb σ H Q := h
theorem w_var (e : σ[i]? = some (some v)) (h : Q v H) : tVar i σ H Q := ⟨v, e, h⟩
theorem w_c (h : Q v H) : tC v σ H Q := h
theorem w_op (h : ta σ H fun x H1 => tb σ H1 fun y H2 => r x y H2 Q) : tOp r ta tb σ H Q := h
theorem w_un {ru : V → Hp → VK → Prop} (h : ta σ H fun x H1 => ru x H1 Q) : tUn ru ta σ H Q := h
theorem w_neg {m : Int} (h : Q (.int (-m)) H) : uNeg (.int m) H Q := h
theorem w_chain {tc : TE} (h : ta σ H fun x H1 => tb σ H1 fun y H2 => r x y H2 fun z H3 => ∃ k, z = .bl k ∧ if k = true then tc σ H3 fun w H4 => r' y w H4 Q else Q (.bl false) H3) : tChain r r' ta tb tc σ H Q := h
theorem w_cons (h : te σ H fun x H1 => tA σ H1 fun xs H2 => QA (x :: xs) H2) : tCons te tA σ H QA := h
theorem w_nil (h : QA [] H) : tNil σ H QA := h
theorem w_tup (h : tA σ H fun xs H1 => newT xs H1 Q) : tTup tA σ H Q := h
theorem w_lst (h : tA σ H fun xs H1 => newL xs H1 Q) : tLst tA σ H Q := h
theorem small9 {n : Nat} (h : n ≤ 100000) : n ≤ sizeLine := Nat.le_trans h (by decide)
theorem w_newT {xs : List V} (s : xs.length ≤ 100000) (h : ∀ p, H p = none → Q (.ref p) (upd H p (.tup xs))) : newT xs H Q := ⟨small9 s, h⟩
theorem w_newL {xs : List V} (s : xs.length ≤ 100000) (h : ∀ p, H p = none → Q (.ref p) (upd H p (.lst xs))) : newL xs H Q := ⟨small9 s, h⟩
theorem w_add {m n : Int} (h : Q (.int (m + n)) H) : uAdd K (.int m) (.int n) H Q := h
theorem w_sub {m n : Int} (h : Q (.int (m - n)) H) : uSub (.int m) (.int n) H Q := h
theorem w_mul {m n : Int} (s : CMul m n) (h : Q (.int (m * n)) H) : uMul (.int m) (.int n) H Q := ⟨.inl s, h⟩
theorem w_div {m n : Int} (s : 0 < n ∧ n < 2 ^ 200) (h : Q (.int (m / n)) H) : uDiv (.int m) (.int n) H Q := ⟨s, h⟩
theorem w_mod {m n : Int} (s : 0 < n) (h : Q (.int (m % n)) H) : uMod (.int m) (.int n) H Q := ⟨s, h⟩
theorem w_pow {m n : Int} (s : CPow m n) (h : Q (.int (m ^ n.toNat)) H) : uPow (.int m) (.int n) H Q := ⟨s, h⟩
theorem w_eqI {m n : Int} (h : Q (.bl (decide (m = n))) H) : uEq K (.int m) (.int n) H Q := h
theorem w_eqS {m n : Str} (h : Q (.bl (decide (m = n))) H) : uEq K (.str m) (.str n) H Q := h
theorem w_eqB {m n : Bool} (h : Q (.bl (decide (m = n))) H) : uEq K (.bl m) (.bl n) H Q := h
theorem w_eqNI {n : Int} (h : Q (.bl false) H) : uEq K .non (.int n) H Q := .inl ⟨rfl, h⟩
theorem w_neNI {n : Int} (h : Q (.bl true) H) : uNe K .non (.int n) H Q := .inl ⟨rfl, h⟩
theorem w_eqIN {n : Int} (h : Q (.bl false) H) : uEq K (.int n) .non H Q := .inl ⟨rfl, h⟩
theorem w_neIN {n : Int} (h : Q (.bl true) H) : uNe K (.int n) .non H Q := .inl ⟨rfl, h⟩
theorem w_neI {m n : Int} (h : Q (.bl (!decide (m = n))) H) : uNe K (.int m) (.int n) H Q := h
theorem w_neS {m n : Str} (h : Q (.bl (!decide (m = n))) H) : uNe K (.str m) (.str n) H Q := h
theorem w_neB {m n : Bool} (h : Q (.bl (!decide (m = n))) H) : uNe K (.bl m) (.bl n) H Q := h
theorem w_lt {m n : Int} (h : Q (.bl (decide (m < n))) H) : uLt K (.int m) (.int n) H Q := h
theorem w_le {m n : Int} (h : Q (.bl (decide (m ≤ n))) H) : uLe K (.int m) (.int n) H Q := h
theorem w_gt {m n : Int} (h : Q (.bl (decide (n < m))) H) : uGt (.int m) (.int n) H Q := h
theorem w_ge {m n : Int} (h : Q (.bl (decide (n ≤ m))) H) : uGe K (.int m) (.int n) H Q := h
theorem w_cb {q : List V → Hp → VK → Prop} (h : tA σ H fun vs H1 => q vs H1 Q) : tCB q tA σ H Q := h
theorem w_call (h : tA σ H fun vs H1 => sp vs H1 Q fun c d H2 => W c d σ H2) : uCall sp W tA σ H Q := h
theorem w_tru (h : te σ H fun x H1 => truV K x H1 QB) : uTru K te σ H QB := h
theorem w_truB {b : Bool} (h : QB b H) : truV K (.bl b) H QB := h
theorem w_truN (h : QB false H) : truV K .non H QB := h
theorem w_truI {m : Int} (h : QB (!decide (m = 0)) H) : truV K (.int m) H QB := h
theorem w_isi_int_int {m : Int} (h : Q (.bl true) H) : uIsi K .int [(.int m), .ty "int"] H Q := ⟨rfl, h⟩
theorem w_isi_int_bl {m : Bool} (h : Q (.bl true) H) : uIsi K .int [(.bl m), .ty "int"] H Q := ⟨rfl, h⟩
theorem w_isi_int_str {m : Str} (h : Q (.bl false) H) : uIsi K .int [(.str m), .ty "int"] H Q := ⟨rfl, h⟩
theorem w_isi_int_non  (h : Q (.bl false) H) : uIsi K .int [.non, .ty "int"] H Q := ⟨rfl, h⟩
theorem w_isi_bool_int {m : Int} (h : Q (.bl false) H) : uIsi K .bool [(.int m), .ty "bool"] H Q := ⟨rfl, h⟩
theorem w_isi_bool_bl {m : Bool} (h : Q (.bl true) H) : uIsi K .bool [(.bl m), .ty "bool"] H Q := ⟨rfl, h⟩
theorem w_isi_bool_str {m : Str} (h : Q (.bl false) H) : uIsi K .bool [(.str m), .ty "bool"] H Q := ⟨rfl, h⟩
theorem w_isi_bool_non  (h : Q (.bl false) H) : uIsi K .bool [.non, .ty "bool"] H Q := ⟨rfl, h⟩
theorem w_isi_str_int {m : Int} (h : Q (.bl false) H) : uIsi K .str [(.int m), .ty "str"] H Q := ⟨rfl, h⟩
theorem w_isi_str_bl {m : Bool} (h : Q (.bl false) H) : uIsi K .str [(.bl m), .ty "str"] H Q := ⟨rfl, h⟩
theorem w_isi_str_str {m : Str} (h : Q (.bl true) H) : uIsi K .str [(.str m), .ty "str"] H Q := ⟨rfl, h⟩
theorem w_isi_str_non  (h : Q (.bl false) H) : uIsi K .str [.non, .ty "str"] H Q := ⟨rfl, h⟩
theorem w_isi_list_int {m : Int} (h : Q (.bl false) H) : uIsi K .list [(.int m), .ty "list"] H Q := ⟨rfl, h⟩
theorem w_isi_list_bl {m : Bool} (h : Q (.bl false) H) : uIsi K .list [(.bl m), .ty "list"] H Q := ⟨rfl, h⟩
theorem w_isi_list_str {m : Str} (h : Q (.bl false) H) : uIsi K .list [(.str m), .ty "list"] H Q := ⟨rfl, h⟩
theorem w_isi_list_non  (h : Q (.bl false) H) : uIsi K .list [.non, .ty "list"] H Q := ⟨rfl, h⟩
theorem w_isi_tuple_int {m : Int} (h : Q (.bl false) H) : uIsi K .tuple [(.int m), .ty "tuple"] H Q := ⟨rfl, h⟩
theorem w_isi_tuple_bl {m : Bool} (h : Q (.bl false) H) : uIsi K .tuple [(.bl m), .ty "tuple"] H Q := ⟨rfl, h⟩
theorem w_isi_tuple_str {m : Str} (h : Q (.bl false) H) : uIsi K .tuple [(.str m), .ty "tuple"] H Q := ⟨rfl, h⟩
theorem w_isi_tuple_non  (h : Q (.bl false) H) : uIsi K .tuple [.non, .ty "tuple"] H Q := ⟨rfl, h⟩
theorem w_is_int {m : Int} (h : Q (.bl false) H) : uIs (.int m) .non H Q := h
theorem w_isnt_int {m : Int} (h : Q (.bl true) H) : uIsnt (.int m) .non H Q := h
theorem w_is_bl {m : Bool} (h : Q (.bl false) H) : uIs (.bl m) .non H Q := h
theorem w_isnt_bl {m : Bool} (h : Q (.bl true) H) : uIsnt (.bl m) .non H Q := h
theorem w_is_str {m : Str} (h : Q (.bl false) H) : uIs (.str m) .non H Q := h
theorem w_isnt_str {m : Str} (h : Q (.bl true) H) : uIsnt (.str m) .non H Q := h
theorem w_is_non  (h : Q (.bl true) H) : uIs .non .non H Q := h
theorem w_isnt_non  (h : Q (.bl false) H) : uIsnt .non .non H Q := h
theorem w_is_ref {m : Addr} (h : Q (.bl false) H) : uIs (.ref m) .non H Q := h
theorem w_isnt_ref {m : Addr} (h : Q (.bl true) H) : uIsnt (.ref m) .non H Q := h
theorem ifNT {A B : Prop} (h : B) : if (!true) = true then A else B := iteF h
theorem ifNF {A B : Prop} (h : A) : if (!false) = true then A else B := iteT h
theorem w_max {m n : Int} (h : Q (.int (if n > m then n else m)) H) : uMax K [.int m, .int n] H Q := h
theorem w_min {m n : Int} (h : Q (.int (if n < m then n else m)) H) : uMin K [.int m, .int n] H Q := h
theorem w_abs {m : Int} (h : Q (.int (if m < 0 then -m else m)) H) : uAbs [.int m] H Q := h
theorem w_intI {m : Int} (h : Q (.int m) H) : uInt [.int m] H Q := h
theorem w_intB {m : Bool} (h : Q (.int (if m then 1 else 0)) H) : uInt [.bl m] H Q := h
theorem w_lenL {p : Addr} {xs : List V} (e : SqL K H p xs) (h : Q (.int xs.length) H) : uLen K [.ref p] H Q := .inl ⟨xs, .inl e, h⟩
theorem w_lenT {p : Addr} {xs : List V} (e : SqT K H p xs) (h : Q (.int xs.length) H) : uLen K [.ref p] H Q := .inl ⟨xs, .inr e, h⟩
theorem w_ixL {p : Addr} {xs : List V} {n : Int} {k : Nat} (e : SqL K H p xs) (ek : n = (k : Int)) (ev : xs[k]? = some v) (h : Q v H) : uIx K (.ref p) (.int n) H Q := ⟨xs, v, .inl e, by rw [ek]; exact atI_nat ev, h⟩
theorem w_ixT {p : Addr} {xs : List V} {n : Int} {k : Nat} (e : SqT K H p xs) (ek : n = (k : Int)) (ev : xs[k]? = some v) (h : Q v H) : uIx K (.ref p) (.int n) H Q := ⟨xs, v, .inr e, by rw [ek]; exact atI_nat ev, h⟩
theorem w_app {p : Addr} {xs : List V} (e : H p = some (.lst xs)) (s : xs.length < sizeLine) (h : Q .non (upd H p (.lst (xs ++ [y])))) : rAppend (.ref p) [y] H Q := ⟨p, xs, y, rfl, rfl, e, s, h⟩
theorem w_ixI {p : Addr} {ns : List Int} {n : Int} (e : SqL K H p (ns.map V.int)) (h0 : 0 ≤ n ∧ n.toNat < ns.length) (h : Q (.int (ns.getD n.toNat 0)) H) : uIx K (.ref p) (.int n) H Q :=
  ⟨_, .int (ns.getD n.toNat 0), .inl e, by
    have z : (ns.map V.int)[n.toNat]? = some (.int (ns.getD n.toNat 0)) := by rw [List.getElem?_map, List.getElem?_eq_getElem h0.2, List.getD_eq_getElem?_getD, List.getElem?_eq_getElem h0.2]; rfl
    have y := atI_nat z
    rw [show ((n.toNat : Nat) : Int) = n by omega] at y
    exact y, h⟩
theorem w_ixTI {p : Addr} {ns : List Int} {n : Int} (e : SqT K H p (ns.map V.int)) (h0 : 0 ≤ n ∧ n.toNat < ns.length) (h : Q (.int (ns.getD n.toNat 0)) H) : uIx K (.ref p) (.int n) H Q :=
  ⟨_, .int (ns.getD n.toNat 0), .inr e, by
    have z : (ns.map V.int)[n.toNat]? = some (.int (ns.getD n.toNat 0)) := by rw [List.getElem?_map, List.getElem?_eq_getElem h0.2, List.getD_eq_getElem?_getD, List.getElem?_eq_getElem h0.2]; rfl
    have y := atI_nat z
    rw [show ((n.toNat : Nat) : Int) = n by omega] at y
    exact y, h⟩
theorem w_appI {p : Addr} {ns : List Int} {z : Int} (e : H p = some (.lst (ns.map V.int))) (s : ns.length < 10000000) (h : Q .non (upd H p (.lst ((ns ++ [z]).map V.int)))) : rAppend (.ref p) [.int z] H Q :=
  ⟨p, _, _, rfl, rfl, e, by rw [List.length_map]; exact Nat.lt_of_lt_of_le s (by decide), by rw [List.map_append] at h; exact h⟩
theorem w_gsub {to ti : TE} {ts : TSet} {N : L2.St → Hp → Prop} (h : to σ H fun o H1 => ti σ H1 fun i H2 => ts o i v H2 fun H3 => N σ H3) : gSub to ti ts v σ H N := h
theorem ixN_in {n : Nat} {k : Int} (h : 0 ≤ k ∧ k.toNat < n) : ixN n k = some k.toNat := by unfold ixN; rw [if_pos h.1, if_pos (by omega)]
theorem w_setL {p : Addr} {xs : List V} {k : Int} {N : Hp → Prop} (e : H p = some (.lst xs)) (h0 : 0 ≤ k ∧ k.toNat < xs.length) (h : N (upd H p (.lst (xs.set k.toNat y)))) : uSet (.ref p) (.int k) y H N := .inl ⟨xs, _, e, ixN_in h0, h⟩
theorem w_ixA {p : Addr} {xs : List V} {n : Int} (e : SqL K H p xs) (h0 : 0 ≤ n ∧ n.toNat < xs.length) (h : ∀ v, xs[n.toNat]? = some v → Q v H) : uIx K (.ref p) (.int n) H Q :=
  ⟨xs, xs[n.toNat]'h0.2, .inl e, by
    have y := atI_nat (List.getElem?_eq_getElem h0.2)
    rw [show ((n.toNat : Nat) : Int) = n by omega] at y
    exact y, h _ (List.getElem?_eq_getElem h0.2)⟩
def partQ (x : V) (H1 : Hp) (Q : Option Int → Hp → Prop) : Prop := ∃ i, x = .int i ∧ Q (some i) H1
theorem w_sl {rs : V → Option Int → Option Int → Hp → VK → Prop} {tl th : TO} (h : te σ H fun x H1 => tl σ H1 fun l H2 => th σ H2 fun u H3 => rs x l u H3 Q) : tSl rs te tl th σ H Q := h
theorem w_part {Q : Option Int → Hp → Prop} (h : te σ H fun x H1 => partQ x H1 Q) : tPart te σ H Q := h
theorem w_partI {Q : Option Int → Hp → Prop} {n : Int} (h : Q (some n) H) : partQ (.int n) H Q := ⟨n, rfl, h⟩
theorem w_noPart {Q : Option Int → Hp → Prop} (h : Q none H) : tNoPart σ H Q := h
theorem cut_take (xs : List V) (k : Nat) : cutV xs none (some (k : Int)) = xs.take k := by
  unfold cutV
  rw [HT.sIx_nat, HT.sIx_none, List.drop_zero, Nat.sub_zero, ← List.take_take, List.take_length]
theorem cut_drop (xs : List V) (k : Nat) : cutV xs (some (k : Int)) none = xs.drop k := by
  unfold cutV
  rw [HT.sIx_nat, HT.sIx_none]
  rcases Nat.le_total k xs.length with h | h
  · rw [Nat.min_eq_left h]; exact List.take_of_length_le (by rw [List.length_drop]; exact Nat.le_refl _)
  · rw [Nat.min_eq_right h, List.drop_length, List.drop_eq_nil_of_le h, List.take_nil]
theorem cut_mid (xs : List V) (i j : Nat) (h : i ≤ j) (hj : j ≤ xs.length) : cutV xs (some (i : Int)) (some (j : Int)) = (xs.drop i).take (j - i) := by
  unfold cutV
  rw [HT.sIx_nat, HT.sIx_nat, Nat.min_eq_left (Nat.le_trans h hj), Nat.min_eq_left hj]
theorem w_slL {p : Addr} {xs : List V} {lo hi : Option Int} (e : SqL K H p xs) (h : ∀ q, H q = none → Q (.ref q) (upd H q (.lst (cutV xs lo hi)))) : uSl K (.ref p) lo hi H Q := .inl ⟨p, xs, rfl, e, h⟩
theorem w_ixTl {p : Addr} {xs : List V} {n : Int} (e : SqT K H p xs) (ev : xs[n.toNat]? = some v) (h0 : 0 ≤ n) (h : Q v H) : uIx K (.ref p) (.int n) H Q := w_ixT (k := n.toNat) e (by omega) ev h
theorem w_ixLl {p : Addr} {xs : List V} {n : Int} (e : SqL K H p xs) (ev : xs[n.toNat]? = some v) (h0 : 0 ≤ n) (h : Q v H) : uIx K (.ref p) (.int n) H Q := w_ixL (k := n.toNat) e (by omega) ev h
theorem w_bm {T : String} {q : V → List V → Hp → VK → Prop} (h : te σ H fun x H1 => bmQ K T q tA σ x H1 Q) : tBM K T q te tA σ H Q := h
theorem w_bmL {q : V → List V → Hp → VK → Prop} {p : Addr} {xs : List V} (e : H p = some (.lst xs)) (h : tA σ H fun vs H2 => q (.ref p) vs H2 Q) : bmQ K "list" q tA σ (.ref p) H Q := ⟨.inl ⟨rfl, _, .inl (.inl e)⟩, h⟩
theorem w_bmS {q : V → List V → Hp → VK → Prop} {z : Str} (h : tA σ H fun vs H2 => q (.str z) vs H2 Q) : bmQ K "str" q tA σ (.str z) H Q := ⟨rfl, h⟩
theorem w_tlist {p : Addr} {xs : List V} (e : SqL K H p xs) (h : ∀ l, H l = none → Q (.ref l) (upd H l (.lst xs))) : uList K [.ref p] H Q := ⟨xs, .inl e, h⟩
theorem w_for {wi : TI} {tb : TS} (h : wi σ H fun J H1 => forQ g tb D σ J H1) : tFor wi g tb D σ H := h
theorem f_range {tb : TS} {lo : Int} {n : Nat} (Pv : Nat → L2.St → Hp → Prop) (h0 : Pv 0 σ H)
    (hs : ∀ i σ H, i < n → Pv i σ H → g (.int (lo + i)) σ H fun σ2 H2 => tb { D with nx := Pv (i + 1), ct := Pv (i + 1), bk := D.nx } σ2 H2) (hd : ∀ σ H, Pv n σ H → D.nx σ H) : forQ g tb D σ (Itr lo n) H := for_range Pv h0 hs hd
theorem f_list {tb : TS} {a : Addr} {xs : List V} (Pv : Nat → L2.St → Hp → Prop) (h0 : Pv 0 σ H) (hl : ∀ i σ H, i ≤ xs.length → Pv i σ H → SqL K H a xs)
    (hs : ∀ i x σ H, xs[i]? = some x → Pv i σ H → g x σ H fun σ2 H2 => tb { D with nx := Pv (i + 1), ct := Pv (i + 1), bk := D.nx } σ2 H2) (hd : ∀ σ H, Pv xs.length σ H → D.nx σ H) : forQ g tb D σ (Itl K a) H := for_list Pv h0 hl hs hd
theorem w_rng1 {R : It → Hp → Prop} (h : tA σ H fun vs H1 => rng1Q vs H1 R) : iRng1 tA σ H R := h
theorem w_rng1v {R : It → Hp → Prop} {n : Int} (h1 : -(2 ^ 62) ≤ n) (h2 : n < 2 ^ 62) (h : R (Itr 0 n.toNat) H) : rng1Q [.int n] H R := ⟨n, rfl, h1, h2, h⟩
theorem w_rng2 {R : It → Hp → Prop} (h : tA σ H fun vs H1 => rng2Q vs H1 R) : iRng2 tA σ H R := h
theorem w_rng2v {R : It → Hp → Prop} {m n : Int} (h1 : -(2 ^ 62) ≤ m ∧ m < 2 ^ 62 ∧ -(2 ^ 62) ≤ n ∧ n < 2 ^ 62) (h : R (Itr m (n - m).toNat) H) : rng2Q [.int m, .int n] H R := ⟨m, n, rfl, h1, h⟩
theorem w_iList {R : It → Hp → Prop} (h : te σ H fun x H1 => listQ K x H1 R) : iList K te σ H R := h
theorem w_iListv {R : It → Hp → Prop} {p : Addr} {xs : List V} (e : SqL K H p xs) (h : R (Itl K p) H) : listQ K (.ref p) H R := ⟨p, rfl, ⟨xs, e⟩, h⟩
theorem w_iTup {R : It → Hp → Prop} (h : te σ H fun x H1 => tupQ K x H1 R) : iTup K te σ H R := h
theorem w_iTupv {R : It → Hp → Prop} {p : Addr} {xs : List V} (e : SqT K H p xs) (h : R (Itt K p) H) : tupQ K (.ref p) H R := ⟨p, rfl, ⟨xs, e⟩, h⟩
theorem w_iStr {R : It → Hp → Prop} (h : te σ H fun x H1 => strQ x H1 R) : iStr te σ H R := h
theorem w_iStrv {R : It → Hp → Prop} {z : Str} (h : R (Its z) H) : strQ (.str z) H R := ⟨z, rfl, h⟩
theorem w_iRev {R : It → Hp → Prop} (h : tA σ H fun vs H1 => revQ K vs H1 R) : iRev K tA σ H R := h
theorem w_iRevv {R : It → Hp → Prop} {p : Addr} {xs : List V} (e : SqL K H p xs) (h : R (Itv K p xs.length) H) : revQ K [.ref p] H R := ⟨p, xs, rfl, e, h⟩
theorem w_raise {C : Addr} (h : W (.ref C) none σ H) : uRaise C W D σ H := h
theorem w_fld {C : Addr} (h : te σ H fun x H1 => fldQ C f x H1 Q) : uFld C f te σ H Q := h
theorem w_fldv {C p dx : Addr} {fs : List (Str × V)} (e : H p = some (.ins C dx fs)) (l : fs.lookup f = some v) (h : Q v H) : fldQ C f (.ref p) H Q := ⟨p, dx, fs, v, rfl, e, l, h⟩
theorem w_meth {C : Addr} {m : Str} (h : te σ H fun x H1 => methQ C m sp W tA σ x H1 Q) : uMeth C m sp W te tA σ H Q := h
theorem w_methv {C p dx : Addr} {m : Str} {fs : List (Str × V)} (e : H p = some (.ins C dx fs)) (l : fs.lookup m = none) (h : tA σ H fun vs H2 => sp (.ref p :: vs) H2 Q fun c d H3 => W c d σ H3) : methQ C m sp W tA σ (.ref p) H Q := ⟨p, dx, fs, rfl, e, l, h⟩
theorem w_setf {C : Addr} (h : tv σ H fun y H1 => te σ H1 fun x H2 => setfQ C f x y H2 (D.nx σ)) : uSetF C f te tv D σ H := h
theorem w_setfv {C p dx : Addr} {fs fs' : List (Str × V)} {N : Hp → Prop} (e : H p = some (.ins C dx fs)) (l : fs.length < 1000) (e2 : putF f y fs = fs') (h : N (upd H p (.ins C dx fs'))) : setfQ C f (.ref p) y H N := ⟨p, dx, fs, rfl, e, l, by rw [e2]; exact h⟩
theorem ifP {p A B : Prop} [Decidable p] (h1 : p → A) (h2 : ¬ p → B) : if decide p = true then A else B := by
  by_cases h : p
  · rw [if_pos (decide_eq_true h)]; exact h1 h
  · rw [if_neg (by rw [decide_eq_false h]; decide)]; exact h2 h
theorem ifN {p A B : Prop} [Decidable p] (h2 : ¬ p → A) (h1 : p → B) : if (!decide p) = true then A else B := by
  by_cases h : p
  · rw [if_neg (by rw [decide_eq_true h]; decide)]; exact h1 h
  · rw [if_pos (by rw [decide_eq_false h]; rfl)]; exact h2 h
theorem ifB {A B : Prop} (h1 : b = true → A) (h2 : b = false → B) : if b = true then A else B := by
  cases b
  · rw [if_neg Bool.false_ne_true]; exact h2 rfl
  · rw [if_pos rfl]; exact h1 rfl
theorem ifBN {A B : Prop} (h1 : b = false → A) (h2 : b = true → B) : if (!b) = true then A else B := by
  cases b
  · exact iteT (h1 rfl)
  · exact iteF (h2 rfl)
end steps
section heaps
variable {K : PySem.W.Frag} {H H' : Hp} {p q : Addr} {o u : HO} {xs : List V}
theorem upd_old (h : H q = some u) (n : H p = none) : upd H p o q = some u := by rw [upd_ne (ne_of_none h n)]; exact h
theorem upd_oth (h : H q = some u) (n : q ≠ p) : upd H p o q = some u := by rw [upd_ne n]; exact h
theorem none_of_upd (h : upd H p o q = none) : H q = none ∧ q ≠ p := by
  unfold upd at h
  split at h
  · cases h
  · exact ⟨h, by assumption⟩
theorem rd_old (h : Rd H q u) (n : H p = none) : Rd (upd H p o) q u := by
  rcases h with h | ⟨o', h⟩
  · exact .inl (upd_old h n)
  · exact .inr ⟨o', upd_old h n⟩
theorem rd_oth (h : Rd H q u) (n : q ≠ p) : Rd (upd H p o) q u := by
  rcases h with h | ⟨o', h⟩
  · exact .inl (upd_oth h n)
  · exact .inr ⟨o', upd_oth h n⟩
theorem sql_old (h : SqL K H q xs) (n : H p = none) : SqL K (upd H p o) q xs := h.imp (fun h => rd_old h n) id
theorem sql_oth (h : SqL K H q xs) (n : q ≠ p) : SqL K (upd H p o) q xs := h.imp (fun h => rd_oth h n) id
theorem sqt_old (h : SqT K H q xs) (n : H p = none) : SqT K (upd H p o) q xs := h.imp (fun h => rd_old h n) id
/-- a tuple is never the thing that is written -/
theorem sqt_wr {w : HO} (h : SqT K H q xs) (hw : H p = some w) (n : ∀ ys, w ≠ .tup ys) (n2 : ∀ ob ys, w ≠ .frz ob ys) : SqT K (upd H p o) q xs := by
  refine h.imp (fun h => ?_) id
  rcases h with h | ⟨o', h⟩
  · exact .inl (upd_oth h fun e => by subst e; rw [hw] at h; exact n _ (Option.some.inj h))
  · exact .inr ⟨o', upd_oth h fun e => by subst e; rw [hw] at h; exact n2 _ _ (Option.some.inj h)⟩
theorem same_new (n : H p = none) : Same H (upd H p o) := fun b w h => upd_old h n
theorem same_upd {H1 : Hp} (s : Same H H1) (n : H p = none) : Same H (upd H1 p o) := fun b w h => by rw [upd_ne (ne_of_none h n)]; exact s b w h
theorem same_updN {H1 : Hp} (s : Same H H1) (n : H1 p = none) : Same H (upd H1 p o) := fun b w h => upd_old (s b w h) n
theorem Same.sqt (e : Same H H') (h : SqT K H q xs) : SqT K H' q xs := by
  rcases h with (h | ⟨o, h⟩) | h
  · exact .inl (.inl (e _ _ h))
  · exact .inl (.inr ⟨o, e _ _ h⟩)
  · exact .inr h
end heaps
section steps2
variable {K : PySem.W.Frag} {σ : L2.St} {H : Hp} {Q : VK} {C p : Addr} {sp : Sp} {W : WX} {t : TA} {te td ty tv : TE} {x y v : V} {kvs : List (Key × V)} {i : Int} {N : L2.St → Hp → Prop}
def mkQ (C : Addr) (sp : Sp) (W : WX) (σ : L2.St) (vs : List V) (H1 : Hp) (Q : VK) : Prop := ∀ x dx, H1 x = none → H1 dx = none → dx ≠ x → sp (.ref x :: vs) (upd (upd H1 dx (.own x)) x (.ins C dx [])) (fun v H2 => v = .non ∧ Q (.ref x) H2) fun c d H2 => W c d σ H2
theorem w_make (h : t σ H fun vs H1 => mkQ C sp W σ vs H1 Q) : uMake C sp W t σ H Q := h
def dgQ (x y : V) (H : Hp) (Q : VK) : Prop := ∃ a v, x = .ref a ∧ DGet H a y (some v) ∧ Q v H
theorem w_dget (h : td σ H fun x H1 => ty σ H1 fun y H2 => dgQ x y H2 Q) : tDGet td ty σ H Q := h
theorem w_dgetI (e : H p = some (.dK kvs)) (l : valV kvs (.inl i) = some v) (h : Q v H) : dgQ (.ref p) (.int i) H Q := ⟨p, v, rfl, by have z := DGet.k (k := .inl i) e; rw [l] at z; exact z, h⟩
theorem w_inD (e : H p = some (.dK kvs)) (h : Q (.bl (valV kvs (.inl i)).isSome) H) : uIn K (.int i) (.ref p) H Q := .inr ⟨_, DGet.k (k := .inl i) e, h⟩
theorem w_ninD (e : H p = some (.dK kvs)) (h : Q (.bl (!(valV kvs (.inl i)).isSome)) H) : uNin K (.int i) (.ref p) H Q := .inr ⟨_, DGet.k (k := .inl i) e, h⟩
def dpQ (x y v : V) (H : Hp) (N : Hp → Prop) : Prop := ∃ a H4, x = .ref a ∧ DPut H a y v H4 ∧ N H4
theorem w_dput {D : Ends} (h : tv σ H fun v H1 => td σ H1 fun x H2 => ty σ H2 fun y H3 => dpQ x y v H3 (D.nx σ)) : sDPut td ty tv D σ H := h
theorem w_dputI {M : Hp → Prop} (e : H p = some (.dK kvs)) (l : kvs.length < 10000000) (h : M (upd H p (.dK (putK kvs (.inl i) v)))) : dpQ (.ref p) (.int i) v H M := ⟨p, _, rfl, DPut.k (k := .inl i) e (Nat.lt_of_lt_of_le l (by decide)), h⟩
theorem w_newD (h : ∀ p, H p = none → Q (.ref p) (upd H p (.dK []))) : tDNewK σ H Q := h
/-- a list times a number -/
theorem w_rep {xs : List V} {k : Int} (e : H p = some (.lst xs)) (h0 : 0 ≤ k) (h1 : k ≤ 100000) (h2 : xs.length ≤ 100) (h : ∀ q, H q = none → Q (.ref q) (upd H q (.lst (List.replicate k.toNat xs).flatten))) : uMul (.ref p) (.int k) H Q := by
  refine ⟨p, k, xs, rfl, rfl, e, by omega, by omega, ?_, h⟩
  have h3 : k.toNat ≤ 100000 := by omega
  have h4 : xs.length * k.toNat ≤ 100 * 100000 := Nat.mul_le_mul h2 h3
  exact Nat.le_trans h4 (by decide)
theorem rep1 (n : Nat) (z : Int) : (List.replicate n [V.int z]).flatten = (List.replicate n z).map V.int := by
  induction n with
  | zero => rfl
  | succ n ih => rw [List.replicate_succ, List.flatten_cons, ih, List.replicate_succ, List.map_cons]; rfl
theorem w_rep1 {z k : Int} (e : H p = some (.lst [.int z])) (h0 : 0 ≤ k) (h1 : k ≤ 100000) (h : ∀ q, H q = none → Q (.ref q) (upd H q (.lst ((List.replicate k.toNat z).map V.int)))) : uMul (.ref p) (.int k) H Q :=
  w_rep e h0 h1 (by simp) fun q hq => by rw [rep1]; exact h q hq
theorem w_gtup2 {a : Addr} {u : TGs} (e : SqT K H a [x, y]) (h : u [x, y] σ H N) : gTup K 2 u (.ref a) σ H N := ⟨a, _, rfl, e, rfl, h⟩
theorem w_gtup3 {a : Addr} {u : TGs} {z : V} (e : SqT K H a [x, y, z]) (h : u [x, y, z] σ H N) : gTup K 3 u (.ref a) σ H N := ⟨a, _, rfl, e, rfl, h⟩
theorem w_gtup4 {a : Addr} {u : TGs} {z w : V} (e : SqT K H a [x, y, z, w]) (h : u [x, y, z, w] σ H N) : gTup K 4 u (.ref a) σ H N := ⟨a, _, rfl, e, rfl, h⟩
theorem w_gcons {g : TG} {u : TGs} {r : List V} (h : g v σ H fun σ' H' => u r σ' H' N) : gCons g u (v :: r) σ H N := ⟨v, r, rfl, h⟩
theorem w_gnil (h : N σ H) : gNil [] σ H N := ⟨rfl, h⟩
def augQ (C : Addr) (f : Str) (r : V → V → Hp → VK → Prop) (tv : TE) (D : Ends) (σ : L2.St) (x : V) (H1 : Hp) : Prop := ∃ a dx fs v, x = .ref a ∧ H1 a = some (.ins C dx fs) ∧ fs.lookup f = some v ∧
  tv σ H1 fun y H2 => r v y H2 fun z H3 => ∃ dx' fs', H3 a = some (.ins C dx' fs') ∧ fs'.length < 1000 ∧ D.nx σ (upd H3 a (.ins C dx' (putF f z fs')))
theorem w_augf {D : Ends} {f : Str} {r : V → V → Hp → VK → Prop} (h : te σ H fun x H1 => augQ C f r tv D σ x H1) : uAugF C f r te tv D σ H := h
theorem w_augsub {D : Ends} {f : Str} {dx : Addr} {fs : List (Str × V)} {i j : Int} (e : H p = some (.ins C dx fs)) (l : fs.lookup f = some (.int i)) (s : fs.length < 1000) (h : D.nx σ (upd H p (.ins C dx (putF f (.int (i - j)) fs)))) : augQ C f rSub (tC (.int j)) D σ (.ref p) H :=
  ⟨p, dx, fs, _, rfl, e, l, i, j, rfl, rfl, dx, fs, e, s, h⟩
theorem w_augadd {D : Ends} {f : Str} {dx : Addr} {fs : List (Str × V)} {i j : Int} (e : H p = some (.ins C dx fs)) (l : fs.lookup f = some (.int i)) (s : fs.length < 1000) (h : D.nx σ (upd H p (.ins C dx (putF f (.int (i + j)) fs)))) : augQ C f rAdd (tC (.int j)) D σ (.ref p) H :=
  ⟨p, dx, fs, _, rfl, e, l, i, j, rfl, rfl, dx, fs, e, s, h⟩
end steps2
section whiles
variable {D : Ends} {σ : L2.St} {H : Hp} {c : TT} {tb : TS}
def whQ (P : L2.St → Hp → Prop) (μ : L2.St → Hp → Nat) (m : Nat) (tb : TS) (D : Ends) (σ : L2.St) (H : Hp) : Prop :=
  ∃ N : L2.St → Hp → Prop, (∀ σ' H', N σ' H' → ∃ m', m' < m ∧ (m' = μ σ' H' ∧ P σ' H')) ∧ tb { D with nx := N, ct := N, bk := D.nx } σ H
theorem f_while (P : L2.St → Hp → Prop) (μ : L2.St → Hp → Nat) (h0 : P σ H) (hs : ∀ σ H, P σ H → c σ H fun b H1 => if b = true then whQ P μ (μ σ H) tb D σ H1 else D.nx σ H1) : tWhile c tb D σ H := by
  refine ⟨fun m σ H => m = μ σ H ∧ P σ H, ⟨_, rfl, h0⟩, fun m σ H q => ?_⟩
  obtain ⟨rfl, p⟩ := q
  exact hs σ H p
theorem w_wh {P : L2.St → Hp → Prop} {μ : L2.St → Hp → Nat} {m : Nat} (h : tb { D with nx := fun σ' H' => P σ' H' ∧ μ σ' H' < m, ct := fun σ' H' => P σ' H' ∧ μ σ' H' < m, bk := D.nx } σ H) : whQ P μ m tb D σ H := ⟨_, fun _ _ n => ⟨_, n.2, rfl, n.1⟩, h⟩
end whiles
section data
variable {K : PySem.W.Frag} {H : Hp} {Q : VK} {α β : Type} [DecidableEq α] [PySem.W.Datum α] [DecidableEq β] [PySem.W.Datum β]
def Dt (K : PySem.W.Frag) (H : Hp) (v : V) (a : α) : Prop := Dp K H v (PySem.W.Datum.toD a)
def DtAll (K : PySem.W.Frag) (H : Hp) (vs : List V) (as : List α) : Prop := DpAll K H vs (as.map PySem.W.Datum.toD)
theorem Dt.int {i : Int} : Dt K H (.int i) i := Dp.int i
theorem Dt.bl {i : Bool} : Dt K H (.bl i) i := Dp.bl i
theorem Dt.str {i : Str} : Dt K H (.str i) i := Dp.str i
theorem Dt.list {p : Addr} {vs : List V} {as : List α} (e : SqL K H p vs) (h : DtAll K H vs as) : Dt K H (.ref p) as := Dp.lst e h
theorem Dt.tup {p : Addr} {vs : List V} {as : List α} (e : SqT K H p vs) (h : DtAll K H vs as) : Dt K H (.ref p) (PySem.W.Tup.mk as) := Dp.tup e h
theorem Dt.pair {p : Addr} {x y : V} {a : α} {b : β} (e : SqT K H p [x, y]) (h1 : Dt K H x a) (h2 : Dt K H y b) : Dt K H (.ref p) (a, b) := Dp.tup e (DpAll.cons h1 (DpAll.cons h2 DpAll.nil))
theorem DtAll.nil : DtAll K H [] ([] : List α) := DpAll.nil
theorem DtAll.cons {v : V} {vs : List V} {a : α} {as : List α} (h : Dt K H v a) (hs : DtAll K H vs as) : DtAll K H (v :: vs) (a :: as) := DpAll.cons h hs
theorem DtAll.ints : ∀ (ns : List Int), DtAll K H (ns.map V.int) ns
  | [] => DpAll.nil
  | _ :: ns => DpAll.cons (Dp.int _) (DtAll.ints ns)
theorem DtAll.get : ∀ {vs : List V} {as : List α} {i : Nat} {v : V}, DtAll K H vs as → vs[i]? = some v → ∃ a, as[i]? = some a ∧ Dt K H v a
  | [], [], _, _, _, e => by cases e
  | [], _ :: _, _, _, h, _ => by cases h
  | _ :: _, [], _, _, h, _ => by cases h
  | _ :: _, a :: as, 0, v, h, e => by
    cases h with
    | cons h1 h2 => cases e; exact ⟨a, rfl, h1⟩
  | _ :: _, _ :: _, i + 1, v, h, e => by
    cases h with
    | cons h1 h2 => exact DtAll.get (i := i) h2 e
theorem DtAll.length : ∀ {vs : List V} {as : List α}, DtAll K H vs as → vs.length = as.length
  | [], [], _ => rfl
  | [], _ :: _, h => by cases h
  | _ :: _, [], h => by cases h
  | _ :: vs, _ :: as, h => by
    cases h with
    | cons h1 h2 => rw [List.length_cons, List.length_cons, DtAll.length h2]
theorem w_eqD {x y : V} {a b : α} (h1 : Dt K H x a) (h2 : Dt K H y b) (hd : PySem.W.Datum.depth α ≤ 60) (hx : ∃ p, x = .ref p) (h : Q (.bl (decide (a = b))) H) : uEq K x y H Q := by
  obtain ⟨p, rfl⟩ := hx
  have z : rEqP K (.ref p) y H Q := ⟨_, _, h1, h2, ⟨PySem.W.Datum.plain a, Nat.le_trans (PySem.W.Datum.depth_le a) hd⟩, PySem.W.Datum.plain b, by rw [PySem.W.Datum.eqv]; exact h⟩
  unfold uEq; exact .inr z
theorem w_neD {x y : V} {a b : α} (h1 : Dt K H x a) (h2 : Dt K H y b) (hd : PySem.W.Datum.depth α ≤ 60) (hx : ∃ p, x = .ref p) (h : Q (.bl (!decide (a = b))) H) : uNe K x y H Q := by
  obtain ⟨p, rfl⟩ := hx
  have z : rNeP K (.ref p) y H Q := ⟨_, _, h1, h2, ⟨PySem.W.Datum.plain a, Nat.le_trans (PySem.W.Datum.depth_le a) hd⟩, PySem.W.Datum.plain b, by rw [PySem.W.Datum.eqv]; exact h⟩
  unfold uNe; exact .inr z
mutual
theorem Dp.same {H' : Hp} (s : Same H H') : ∀ {d : PyData} {v : V}, Dp K H v d → Dp K H' v d
  | .none, _, h => by cases h; exact .non
  | .bool _, _, h => by cases h; exact .bl _
  | .int _, _, h => by cases h; exact .int _
  | .str _, _, h => by cases h; exact .str _
  | .list _, _, h => by
    cases h with
    | lst e a => exact .lst (s.seq e) (DpAll.same s a)
  | .tuple _, _, h => by
    cases h with
    | tup e a =>
      refine .tup ?_ (DpAll.same s a)
      rcases e with (e | ⟨o, e⟩) | e
      · exact .inl (.inl (s _ _ e))
      · exact .inl (.inr ⟨o, s _ _ e⟩)
      · exact .inr e
  | .dict _, _, h => by cases h
theorem DpAll.same {H' : Hp} (s : Same H H') : ∀ {ds : List PyData} {vs : List V}, DpAll K H vs ds → DpAll K H' vs ds
  | [], _, h => by cases h; exact .nil
  | _ :: _, _, h => by
    cases h with
    | cons h1 h2 => exact .cons (Dp.same s h1) (DpAll.same s h2)
end
theorem Dt.same {H' : Hp} (s : Same H H') {v : V} {a : α} (h : Dt K H v a) : Dt K H' v a := Dp.same s h
theorem DtAll.same {H' : Hp} (s : Same H H') {vs : List V} {as : List α} (h : DtAll K H vs as) : DtAll K H' vs as := DpAll.same s h
end data
section tups
variable {K : PySem.W.Frag} {H : Hp}
mutual
def tupOnly : PyData → Bool
  | .list _ => false
  | .dict _ => false
  | .tuple ds => tupOnlyAll ds
  | _ => true
def tupOnlyAll : List PyData → Bool
  | [] => true
  | d :: ds => tupOnly d && tupOnlyAll ds
end
mutual
theorem Dp.wr {p : Addr} {w o : HO} (hw : H p = some w) (n : ∀ ys, w ≠ .tup ys) (n2 : ∀ ob ys, w ≠ .frz ob ys) : ∀ {d : PyData} {v : V}, tupOnly d = true → Dp K H v d → Dp K (upd H p o) v d
  | .none, _, _, h => by cases h; exact .non
  | .bool _, _, _, h => by cases h; exact .bl _
  | .int _, _, _, h => by cases h; exact .int _
  | .str _, _, _, h => by cases h; exact .str _
  | .list _, _, t, _ => by simp [tupOnly] at t
  | .tuple ds, _, t, h => by
    cases h with
    | tup e a => exact .tup (sqt_wr e hw n n2) (DpAll.wr hw n n2 (by simpa [tupOnly] using t) a)
  | .dict _, _, _, h => by cases h
theorem DpAll.wr {p : Addr} {w o : HO} (hw : H p = some w) (n : ∀ ys, w ≠ .tup ys) (n2 : ∀ ob ys, w ≠ .frz ob ys) : ∀ {ds : List PyData} {vs : List V}, tupOnlyAll ds = true → DpAll K H vs ds → DpAll K (upd H p o) vs ds
  | [], _, _, h => by cases h; exact .nil
  | d :: ds, _, t, h => by
    have t' := Bool.and_eq_true_iff.mp (show (tupOnly d && tupOnlyAll ds) = true by simpa [tupOnlyAll] using t)
    cases h with
    | cons h1 h2 => exact .cons (Dp.wr hw n n2 t'.1 h1) (DpAll.wr hw n n2 t'.2 h2)
end
end tups
section comps
variable {K : PySem.W.Frag} {σ : L2.St} {H1 : Hp} {Q : VK} {g : TG} {tt : TT} {te : TE} {vs : List Nat}
def lcQ (g : TG) (tt : TT) (te : TE) (vs : List Nat) (σ : L2.St) (J : It) (H1 : Hp) (Q : VK) : Prop := ∀ D, H1 D = none → ∃ W : Nat → Nat → Hp → Prop, (∃ m, W 0 m (upd H1 D (.lst []))) ∧ ∀ i m H, W i m H →
  (J.stop i H ∧ Q (.ref D) H) ∨ (J.go i H ∧ ∃ Nx : Hp → Prop, (∀ H', Nx H' → ∃ m', m' < m ∧ W (i + 1) m' H') ∧ ∀ x H', J.yld i H x H' → g x (wipe σ vs) H' fun σ2 H2 => wipe σ2 vs = wipe σ vs ∧ tt σ2 H2 fun b H3 =>
    if b = true then te σ2 H3 fun y H4 => ∃ acc, H4 D = some (.lst acc) ∧ acc.length < sizeLine ∧ Nx (upd H4 D (.lst (acc ++ [y]))) else Nx H3)
theorem w_lc {wi : TI} (h : wi σ H1 fun J H2 => lcQ g tt te vs σ J H2 Q) : tLc wi g tt te vs σ H1 Q := h
theorem w_yes {QB : Bool → Hp → Prop} (h : QB true H1) : tYes σ H1 QB := h
/-- what a turn of a comprehension wants: the new item, put behind the list at D -/
def putQ (D : Addr) (N : Hp → Prop) (y : V) (H4 : Hp) : Prop := ∃ acc, H4 D = some (.lst acc) ∧ acc.length < sizeLine ∧ N (upd H4 D (.lst (acc ++ [y])))
/-- a comprehension over anything that yields by its place, P the heap between the turns -/
theorem l_any {J : It} {n : Nat} {item : Nat → V → Prop} (P : Addr → Nat → Hp → Prop) (h0 : ∀ D, H1 D = none → P D 0 (upd H1 D (.lst [])))
    (hgo : ∀ D i H, H1 D = none → i < n → P D i H → J.go i H ∧ ∀ x H', J.yld i H x H' → H' = H ∧ item i x) (hst : ∀ D H, H1 D = none → P D n H → J.stop n H)
    (hs : ∀ D i x H, H1 D = none → i < n → item i x → P D i H → g x (wipe σ vs) H fun σ2 H2 => wipe σ2 vs = wipe σ vs ∧ tt σ2 H2 fun b H3 => if b = true then te σ2 H3 (putQ D (P D (i + 1))) else P D (i + 1) H3)
    (hd : ∀ D H, H1 D = none → P D n H → Q (.ref D) H) : lcQ g tt te vs σ J H1 Q := by
  intro D hD
  refine ⟨fun i m H => m = n - i ∧ i ≤ n ∧ P D i H, ⟨n, by simp, Nat.zero_le _, h0 D hD⟩, fun i m H q => ?_⟩
  obtain ⟨rfl, hi, p⟩ := q
  rcases Nat.lt_or_ge i n with hl | hl
  · obtain ⟨a, b⟩ := hgo D i H hD hl p
    refine .inr ⟨a, P D (i + 1), fun H' p' => ⟨n - (i + 1), by omega, rfl, hl, p'⟩, fun x H' y => ?_⟩
    obtain ⟨rfl, c⟩ := b x H' y
    exact hs D i x _ hD hl c p
  · obtain rfl : i = n := Nat.le_antisymm hi hl
    exact .inl ⟨hst D H hD p, hd D H hD p⟩
theorem l_range {lo : Int} {n : Nat} (P : Addr → Nat → Hp → Prop) (h0 : ∀ D, H1 D = none → P D 0 (upd H1 D (.lst [])))
    (hs : ∀ D i H, H1 D = none → i < n → P D i H → g (.int (lo + (i : Nat))) (wipe σ vs) H fun σ2 H2 => wipe σ2 vs = wipe σ vs ∧ tt σ2 H2 fun b H3 => if b = true then te σ2 H3 (putQ D (P D (i + 1))) else P D (i + 1) H3)
    (hd : ∀ D H, H1 D = none → P D n H → Q (.ref D) H) : lcQ g tt te vs σ (Itr lo n) H1 Q :=
  l_any (n := n) (item := fun i x => x = .int (lo + (i : Nat))) P h0 (fun _ i _ _ h _ => ⟨h, fun _ _ y => y⟩) (fun _ _ _ _ => Nat.le_refl _) (fun D i x H a b c p => by rw [c]; exact hs D i H a b p) hd
theorem l_list {a : Addr} {xs : List V} (P : Addr → Nat → Hp → Prop) (h0 : ∀ D, H1 D = none → P D 0 (upd H1 D (.lst []))) (hl : ∀ D i H, H1 D = none → P D i H → SqL K H a xs)
    (hs : ∀ D i x H, H1 D = none → xs[i]? = some x → P D i H → g x (wipe σ vs) H fun σ2 H2 => wipe σ2 vs = wipe σ vs ∧ tt σ2 H2 fun b H3 => if b = true then te σ2 H3 (putQ D (P D (i + 1))) else P D (i + 1) H3)
    (hd : ∀ D H, H1 D = none → P D xs.length H → Q (.ref D) H) : lcQ g tt te vs σ (Itl K a) H1 Q :=
  l_any (n := xs.length) (item := fun i x => xs[i]? = some x) P h0 (fun D i H hD h p => ⟨⟨xs, xs[i], hl D i H hD p, List.getElem?_eq_getElem h⟩, fun x H' y => ⟨y.1, y.2 xs (hl D i H hD p)⟩⟩)
    (fun D H hD p => ⟨xs, hl D _ H hD p, Nat.le_refl _⟩) (fun D i x H a b c p => hs D i x H a c p) hd
end comps
section texts
/-- the text of these signs -/
def tx (l : List Nat) : Str := ⟨l.toArray⟩
theorem tx_list (l : List Nat) : (tx l).cps.toList = l := rfl
theorem tx_len (l : List Nat) : (tx l).length = l.length := by unfold tx Str.length; exact List.size_toArray
theorem tx_app (l m : List Nat) : tx l ++ tx m = tx (l ++ m) := PySem.Str.ext' (by rw [PySem.Str.cps_append]; exact Array.toList_inj.mp (by rw [Array.toList_append]; rfl))
theorem tx_inj {l m : List Nat} : tx l = tx m ↔ l = m := ⟨fun h => by have := congrArg (fun z : Str => z.cps.toList) h; exact this, fun h => by rw [h]⟩
theorem cut_tk (l : List Nat) (k : Nat) : cutS (tx l) none (some (k : Int)) = tx (l.take k) := by
  unfold cutS
  rw [tx_len, HT.sIx_nat, HT.sIx_none, List.drop_zero, Nat.sub_zero, tx_list, ← List.take_take, List.take_length]
  rfl
theorem cut_dp (l : List Nat) (k : Nat) : cutS (tx l) (some (k : Int)) none = tx (l.drop k) := by
  unfold cutS
  rw [tx_len, HT.sIx_nat, HT.sIx_none, tx_list]
  rcases Nat.le_total k l.length with h | h
  · rw [Nat.min_eq_left h, List.take_of_length_le (by rw [List.length_drop]; exact Nat.le_refl _)]; rfl
  · rw [Nat.min_eq_right h, List.drop_length, List.drop_eq_nil_of_le h, List.take_nil]; rfl
theorem fold_rep (c : Nat) : ∀ (n : Nat) (a : Array Nat), (List.replicate n #[c]).foldl (· ++ ·) a = a ++ (List.replicate n c).toArray
  | 0, a => by simp
  | n + 1, a => by
    rw [List.replicate_succ, List.foldl_cons, fold_rep c n]
    apply Array.toList_inj.mp
    simp [List.replicate_succ]
theorem mul_one (c : Nat) (n : Nat) : Txt.mul (tx [c]) (n : Int) = tx (List.replicate n c) := by
  unfold Txt.mul
  by_cases h : (n : Int) < 1
  · rw [if_pos h]; obtain rfl : n = 0 := by omega
    rfl
  · rw [if_neg h]
    by_cases h2 : ((n : Int) == 1 || (tx [c]).length == 0) = true
    · rw [if_pos h2]
      have : (n : Int) = 1 := by
        rcases Bool.or_eq_true_iff.mp h2 with h2 | h2
        · exact eq_of_beq h2
        · cases h2
      obtain rfl : n = 1 := by omega
      rfl
    · rw [if_neg h2, Int.toNat_natCast]
      exact PySem.Str.ext' (by show (List.replicate n #[c]).foldl (· ++ ·) #[] = _; rw [fold_rep]; simp [tx])
theorem mulOk_one (c : Nat) {n : Int} (h0 : 0 ≤ n) (h1 : n ≤ 100000) : MulOk (tx [c]) n := by
  have e : (tx [c]).length = 1 := rfl
  refine ⟨?_, fun h _ => ?_, fun h _ => ?_⟩
  · rw [decide_eq_false (by omega), decide_eq_false (by omega)]; rfl
  · rw [e]
    have : (1 : Int) ≤ (2 ^ 63 - 1) / n := Int.le_ediv_of_mul_le (by omega) (by omega)
    omega
  · rw [e]; unfold Builtin.Str.tooLong
    rw [decide_eq_false]
    have : (100000 : Nat) ≤ sizeLine := by decide
    omega
/-- the first place of a sign in a text, or -1 -/
def ixc (l : List Nat) (c : Nat) : Int := if c ∈ l then (l.idxOf c : Int) else -1
theorem tx_find (l : List Nat) (c : Nat) : Txt.find (tx l) (tx [c]) = ixc l c := by
  unfold Txt.find ixc
  have key : ∀ i, PySem.StrLaws.At (tx l) (tx [c]) (tx l).length i ↔ l[i]? = some c := fun i => PySem.StrLaws.subAt_one (tx l) c i
  rcases PySem.StrLaws.occ_head (tx l) (tx [c]) 1 (Nat.le_refl 1) with ⟨e, hn⟩ | ⟨i, r, e, ha, hn⟩
  · rw [e, if_neg]
    intro hm
    obtain ⟨i, hi⟩ := List.getElem?_of_mem hm
    exact hn i ((key i).mpr hi)
  · rw [e]
    have hi := (key i).mp ha
    rw [if_pos (List.mem_of_getElem? hi)]
    have hl : i < l.length := (List.getElem?_eq_some_iff.mp hi).1
    have hg : l[i] = c := (List.getElem?_eq_some_iff.mp hi).2
    have h1 : l.idxOf c < l.length := List.idxOf_lt_length_iff.mpr (List.mem_of_getElem? hi)
    have h2 : l[l.idxOf c] = c := List.getElem_idxOf h1
    have h3 : ¬ l.idxOf c < i := fun q => hn _ q ((key _).mpr (by rw [List.getElem?_eq_getElem h1, h2]))
    have h4 : ¬ i < l.idxOf c := fun q => by
      have := List.not_of_lt_findIdx (p := (· == c)) (xs := l) (i := i) q
      simp [hg] at this
    have : l.idxOf c = i := by omega
    rw [this]
theorem cnt_eq (c : Nat) : ∀ l : List Nat, PyProof.Rows.cnt c l = (l.count c : Nat)
  | [] => rfl
  | n :: l => by
    rw [PyProof.Rows.cnt_cons, cnt_eq c l, List.count_cons]
    by_cases h : n = c
    · subst h; simp; omega
    · simp [h]
theorem tx_count (l : List Nat) (c : Nat) : Txt.count (tx l) (tx [c]) = (l.count c : Nat) := (PyProof.Rows.count_is (tx l) c).trans (cnt_eq c l)
end texts
section textsteps
variable {X : Cx} {K : PySem.W.Frag} {H : Hp} {Q : VK} {l m : List Nat} {c : Nat} {n : Int}
def uFind : V → List V → Hp → VK → Prop := fun x xs H Q => match x, xs with
  | .str a, [.str b] => Q (.int (Txt.find a b)) H
  | _, _ => False
def uCount : V → List V → Hp → VK → Prop := fun x xs H Q => match x, xs with
  | .str a, [.str b] => Q (.int (Txt.count a b)) H
  | _, _ => False
theorem w_addX (s : l.length + m.length ≤ 100000) (h : Q (.str (tx (l ++ m))) H) : uAdd K (.str (tx l)) (.str (tx m)) H Q := ⟨by rw [tx_len, tx_len]; exact small9 s, by rw [tx_app]; exact h⟩
theorem w_mulX (h0 : 0 ≤ n) (h1 : n ≤ 100000) (h : Q (.str (tx (List.replicate n.toNat c))) H) : uMul (.str (tx [c])) (.int n) H Q := by
  obtain ⟨k, rfl⟩ := Int.eq_ofNat_of_zero_le h0
  exact ⟨mulOk_one c h0 h1, by rw [mul_one]; exact h⟩
theorem w_lenX (s : l.length ≤ 100000) (h : Q (.int l.length) H) : uLen K [.str (tx l)] H Q := ⟨by rw [tx_len]; exact small9 s, by rw [tx_len]; exact h⟩
theorem w_truX {QB : Bool → Hp → Prop} (s : l.length ≤ 100000) (h : QB (!decide (l.length = 0)) H) : truV K (.str (tx l)) H QB := ⟨by rw [tx_len]; exact small9 s, by rw [tx_len]; exact h⟩
theorem d_tx : decide (tx l = tx m) = decide (l = m) := decide_eq_decide.mpr tx_inj
theorem w_eqX (h : Q (.bl (decide (l = m))) H) : uEq K (.str (tx l)) (.str (tx m)) H Q := by
  rw [← d_tx] at h; exact h
theorem w_neX (h : Q (.bl (!decide (l = m))) H) : uNe K (.str (tx l)) (.str (tx m)) H Q := by
  rw [← d_tx] at h; exact h
theorem w_tkX (s : l.length ≤ 100000) (h0 : 0 ≤ n) (h : Q (.str (tx (l.take n.toNat))) H) : uSl K (.str (tx l)) none (some n) H Q := by
  obtain ⟨k, rfl⟩ := Int.eq_ofNat_of_zero_le h0
  exact .inr (.inr ⟨_, rfl, by rw [tx_len]; exact small9 s, by rw [cut_tk]; exact h⟩)
theorem w_dpX (s : l.length ≤ 100000) (h0 : 0 ≤ n) (h : Q (.str (tx (l.drop n.toNat))) H) : uSl K (.str (tx l)) (some n) none H Q := by
  obtain ⟨k, rfl⟩ := Int.eq_ofNat_of_zero_le h0
  exact .inr (.inr ⟨_, rfl, by rw [tx_len]; exact small9 s, by rw [cut_dp]; exact h⟩)
theorem w_ixX (s : l.length ≤ 100000) (h0 : 0 ≤ n ∧ n.toNat < l.length) (h : Q (.str (tx [l.getD n.toNat 0])) H) : uIx K (.str (tx l)) (.int n) H Q := by
  refine ⟨by rw [tx_len]; exact small9 s, l.getD n.toNat 0, ?_, h⟩
  have y := atI_nat (show l[n.toNat]? = some (l.getD n.toNat 0) by rw [List.getD_eq_getElem?_getD, List.getElem?_eq_getElem h0.2]; rfl)
  rw [show ((n.toNat : Nat) : Int) = n by omega] at y
  exact y
theorem w_findX (h : Q (.int (ixc l c)) H) : uFind (.str (tx l)) [.str (tx [c])] H Q := by
  rw [← tx_find] at h; exact h
theorem w_countX (h : Q (.int ((l.count c : Nat) : Int)) H) : uCount (.str (tx l)) [.str (tx [c])] H Q := by
  rw [← tx_count] at h; exact h
end textsteps
section steps3
variable {X : Cx} {K : PySem.W.Frag} {H H' H0 : Hp} {Q : VK} {p q : Addr} {xs ys : List V} {o w : HO}
theorem w_cat (e1 : H p = some (.lst xs)) (e2 : H q = some (.lst ys)) (s : xs.length + ys.length ≤ 1000000) (h : ∀ l, H l = none → Q (.ref l) (upd H l (.lst (xs ++ ys)))) : uAdd K (.ref p) (.ref q) H Q :=
  .inl ⟨p, q, xs, ys, rfl, rfl, e1, e2, Nat.le_trans s (by decide), h⟩
theorem same_both (s : Same H H') : Same (upd H p o) (upd H' p o) := fun b u h => by
  by_cases e : b = p
  · subst e; rw [upd_same] at h ⊢; exact h
  · rw [upd_ne e] at h ⊢; exact s _ _ h
end steps3
section steps4
variable {X : Cx} {K : PySem.W.Frag} {D : Ends} {σ : L2.St} {H H1 : Hp} {Q : VK} {g : TG} {tb : TS} {tt : TT} {te td ty tx : TE} {tA : TA} {p q a b : Addr} {xs ys : List V} {kvs : List (Key × V)} {x y z v : V} {i : Int} {vs : List Nat}
def enumQ (K : PySem.W.Frag) (vs : List V) (H1 : Hp) (R : It → Hp → Prop) : Prop := ∃ a xs, vs = [.ref a] ∧ SqL K H1 a xs ∧ R (Ite K a) H1
theorem w_iEnum {R : It → Hp → Prop} (h : tA σ H fun vs H1 => enumQ K vs H1 R) : iEnum K tA σ H R := h
theorem w_iEnumv {R : It → Hp → Prop} (e : SqL K H p xs) (h : R (Ite K p) H) : enumQ K [.ref p] H R := ⟨p, xs, rfl, e, h⟩
def zipQ (K : PySem.W.Frag) (vs : List V) (H1 : Hp) (R : It → Hp → Prop) : Prop := ∃ a b xs ys, vs = [.ref a, .ref b] ∧ SqL K H1 a xs ∧ SqL K H1 b ys ∧ R (Itz K a b) H1
theorem w_iZip {R : It → Hp → Prop} (h : tA σ H fun vs H1 => zipQ K vs H1 R) : iZip K tA σ H R := h
theorem w_iZipv {R : It → Hp → Prop} (e : SqL K H p xs) (e2 : SqL K H q ys) (h : R (Itz K p q) H) : zipQ K [.ref p, .ref q] H R := ⟨p, q, xs, ys, rfl, e, e2, h⟩
theorem f_enum (Pv : Nat → L2.St → Hp → Prop) (h0 : Pv 0 σ H) (hl : ∀ i σ H, i ≤ xs.length → Pv i σ H → SqL K H a xs)
    (hs : ∀ i x σ H T, xs[i]? = some x → Pv i σ H → H T = none → g (.ref T) σ (upd H T (.tup [.int (i : Nat), x])) fun σ2 H2 => tb { D with nx := Pv (i + 1), ct := Pv (i + 1), bk := D.nx } σ2 H2) (hd : ∀ σ H, Pv xs.length σ H → D.nx σ H) : forQ g tb D σ (Ite K a) H := by
  refine ⟨fun i m σ H => m = xs.length - i ∧ i ≤ xs.length ∧ Pv i σ H, ⟨_, rfl, Nat.zero_le _, h0⟩, fun i m σ H q => ?_⟩
  obtain ⟨rfl, hi, p⟩ := q
  have e := hl i σ H hi p
  rcases Nat.lt_or_ge i xs.length with hlt | hge
  · refine .inr ⟨⟨xs, xs[i], e, List.getElem?_eq_getElem hlt⟩, Pv (i + 1), fun σ' H' p' => ⟨_, by omega, rfl, hlt, p'⟩, fun x H' y => ?_⟩
    obtain ⟨T, x', rfl, hT, rfl, hx⟩ := y
    exact hs i x' σ H T (hx xs e) p hT
  · obtain rfl : i = xs.length := by omega
    exact .inl ⟨⟨xs, e, Nat.le_refl _⟩, hd σ H p⟩
/-- a comprehension over two lists of one length -/
theorem l_zip (he : xs.length = ys.length) (P : Addr → Nat → Hp → Prop) (h0 : ∀ D, H1 D = none → P D 0 (upd H1 D (.lst []))) (hl : ∀ D i H, H1 D = none → P D i H → SqL K H a xs ∧ SqL K H b ys)
    (hs : ∀ D i x y H T, H1 D = none → xs[i]? = some x → ys[i]? = some y → P D i H → H T = none → g (.ref T) (wipe σ vs) (upd H T (.tup [x, y])) fun σ2 H2 => wipe σ2 vs = wipe σ vs ∧ tt σ2 H2 fun b H3 => if b = true then te σ2 H3 (putQ D (P D (i + 1))) else P D (i + 1) H3)
    (hd : ∀ D H, H1 D = none → P D xs.length H → Q (.ref D) H) : lcQ g tt te vs σ (Itz K a b) H1 Q := by
  intro D hD
  refine ⟨fun i m H => m = xs.length - i ∧ i ≤ xs.length ∧ P D i H, ⟨_, rfl, Nat.zero_le _, h0 D hD⟩, fun i m H q => ?_⟩
  obtain ⟨rfl, hi, p⟩ := q
  obtain ⟨e1, e2⟩ := hl D i H hD p
  rcases Nat.lt_or_ge i xs.length with hlt | hge
  · refine .inr ⟨⟨xs, ys, xs[i], ys[i]'(by omega), e1, e2, List.getElem?_eq_getElem hlt, List.getElem?_eq_getElem (by omega)⟩, P D (i + 1), fun H' p' => ⟨_, by omega, rfl, hlt, p'⟩, fun x H' y => ?_⟩
    obtain ⟨T, x', y', rfl, hT, rfl, hx, hy⟩ := y
    exact hs D i x' y' H T hD (hx xs e1) (hy ys e2) p hT
  · obtain rfl : i = xs.length := by omega
    exact .inl ⟨⟨xs, ys, e1, e2, .inl (Nat.le_refl _)⟩, hd D H hD p⟩
def keysQ (x : V) (H1 : Hp) (R : It → Hp → Prop) : Prop := ∃ d o, x = .ref d ∧ ((∃ kvs, H1 d = some (.frz o (.dK kvs)) ∧ R (Itk d o kvs) H1) ∨ ∃ kvs, H1 d = some (.frz o (.dT kvs)) ∧ R (Itkt d o kvs) H1)
theorem w_iKeys {R : It → Hp → Prop} (h : te σ H fun x H1 => keysQ x H1 R) : iKeys te σ H R := h
/-- d.get(k, e), d.get(k) -/
def get2Q (ty tx : TE) (σ : L2.St) (x : V) (H1 : Hp) (Q : VK) : Prop := ∃ a, x = .ref a ∧ IsD H1 a ∧ ty σ H1 fun y H2 => tx σ H2 fun z H3 => ∃ o, DGet H3 a y o ∧ Q (o.getD z) H3
def getQ (p : Addr) (y z : V) (H : Hp) (Q : VK) : Prop := ∃ o, DGet H p y o ∧ Q (o.getD z) H
theorem w_dget2 (h : td σ H fun x H1 => get2Q ty tx σ x H1 Q) : tDGet2 td ty tx σ H Q := h
theorem w_dget2v (e : H p = some (.dK kvs)) (h : ty σ H fun y H2 => tx σ H2 fun z H3 => getQ p y z H3 Q) : get2Q ty tx σ (.ref p) H Q := ⟨p, rfl, .inl ⟨kvs, .inl e⟩, h⟩
def get1Q (ty : TE) (σ : L2.St) (x : V) (H1 : Hp) (Q : VK) : Prop := ∃ a, x = .ref a ∧ IsD H1 a ∧ ty σ H1 fun y H2 => getQ a y .non H2 Q
theorem w_dget1 (h : td σ H fun x H1 => get1Q ty σ x H1 Q) : tDGet1 td ty σ H Q := h
theorem w_dget1v (e : H p = some (.dK kvs)) (h : ty σ H fun y H2 => getQ p y .non H2 Q) : get1Q ty σ (.ref p) H Q := ⟨p, rfl, .inl ⟨kvs, .inl e⟩, h⟩
theorem w_getI (e : H p = some (.dK kvs)) (h : Q ((valV kvs (.inl i)).getD z) H) : getQ p (.int i) z H Q := ⟨_, DGet.k (k := .inl i) e, h⟩
/-- d.pop(k) -/
def pop1Q (ty : TE) (σ : L2.St) (x : V) (H1 : Hp) (Q : VK) : Prop := ∃ a, x = .ref a ∧ IsD H1 a ∧ ty σ H1 fun y H2 => popQ1 a y H2 Q
where popQ1 (a : Addr) (y : V) (H2 : Hp) (Q : VK) : Prop := ∃ kvs k v, H2 a = some (.dK kvs) ∧ y = kV k ∧ valV kvs k = some v ∧ Q v (upd H2 a (.dK (dropK kvs k)))
theorem w_dpop1 (h : td σ H fun x H1 => pop1Q ty σ x H1 Q) : tDPop1 td ty σ H Q := h
theorem w_dpop1v (e : H p = some (.dK kvs)) (h : ty σ H fun y H2 => pop1Q.popQ1 p y H2 Q) : pop1Q ty σ (.ref p) H Q := ⟨p, rfl, .inl ⟨kvs, .inl e⟩, h⟩
/-- del d[k] -/
def delQ (x y : V) (H2 : Hp) (N : Hp → Prop) : Prop := ∃ a kvs k, x = .ref a ∧ H2 a = some (.dK kvs) ∧ y = kV k ∧ (valV kvs k).isSome = true ∧ N (upd H2 a (.dK (dropK kvs k)))
theorem w_ddel (h : td σ H fun x H1 => ty σ H1 fun y H2 => delQ x y H2 (D.nx σ)) : sDDel td ty D σ H := h
theorem w_delI {N : Hp → Prop} (e : H p = some (.dK kvs)) (l : (valV kvs (.inl i)).isSome = true) (h : N (upd H p (.dK (dropK kvs (.inl i))))) : delQ (.ref p) (.int i) H N := ⟨p, kvs, .inl i, rfl, e, rfl, l, h⟩
/-- sorted(d), d's keys ints; sorted(xs), ints -/
def uSortD : List V → Hp → VK → Prop := fun xs H Q => ∃ (a : Addr) (kvs : List (Key × V)) (ks : List Int), xs = [.ref a] ∧ Rd H a (.dK kvs) ∧ kvs.map (·.1) = ks.map Sum.inl ∧ ks.length < 64 ∧
    ∀ (ys : List Int) (p : Addr), ys.Perm ks → ys.Pairwise (· ≤ ·) → H p = none → Q (.ref p) (upd H p (.lst (ys.map V.int)))
theorem c_sortD (hc : X.calm = true) : CallR X (.builtin "sorted") uSortD := call_sortedDI hc
end steps4
section hotdefs
variable {P : Program} {w : World} {K : PySem.W.Frag} {mg : Str → Option Value} {base : Heap}
variable {X : Cx}
def uCallX (a : Addr) (cls : Value) (d : Option Addr) (sp : Addr → Value → Sp) (t : TA) : TE := fun σ H Q => d = none ∧ t σ H fun vs H1 => sp a cls vs H1 Q fun _ _ _ => False
theorem w_callX {a : Addr} {cls : Value} {sp : Addr → Value → Sp} {t : TA} {σ : L2.St} {H : Hp} {Q : VK} (h : t σ H fun vs H1 => sp a cls vs H1 Q fun _ _ _ => False) : uCallX a cls none sp t σ H Q := ⟨rfl, h⟩
end hotdefs
section steps5
variable {K : PySem.W.Frag} {H : Hp} {Q : VK} {s t : Str} {A B : Prop}
theorem ifSF (h : decide (s = t) = false) (k : B) : if decide (s = t) = true then A else B := by rw [h]; exact iteF k
theorem ifST (h : decide (s = t) = true) (k : A) : if decide (s = t) = true then A else B := by rw [h]; exact iteT k
theorem ifSNF (h : decide (s = t) = true) (k : B) : if (!decide (s = t)) = true then A else B := by rw [h]; exact iteF k
theorem ifSNT (h : decide (s = t) = false) (k : A) : if (!decide (s = t)) = true then A else B := by rw [h]; exact iteT k
theorem w_neNN (h : Q (.bl false) H) : uNe K .non .non H Q := .inl ⟨rfl, h⟩
theorem w_eqNN (h : Q (.bl true) H) : uEq K .non .non H Q := .inl ⟨rfl, h⟩
end steps5
section steps6
variable {K : PySem.W.Frag} {H : Hp} {Q : VK} {p : Addr} {n : Int}
theorem w_ixBl {bs : List Bool} (e : SqL K H p (bs.map V.bl)) (h0 : 0 ≤ n ∧ n.toNat < bs.length) (h : Q (.bl (bs.getD n.toNat false)) H) : uIx K (.ref p) (.int n) H Q :=
  ⟨_, .bl (bs.getD n.toNat false), .inl e, by
    have z : (bs.map V.bl)[n.toNat]? = some (.bl (bs.getD n.toNat false)) := by rw [List.getElem?_map, List.getElem?_eq_getElem h0.2, List.getD_eq_getElem?_getD, List.getElem?_eq_getElem h0.2]; rfl
    have y := atI_nat z
    rw [show ((n.toNat : Nat) : Int) = n by omega] at y
    exact y, h⟩
theorem at_bl {bs : List Bool} {i : Nat} {x : V} (h : (bs.map V.bl)[i]? = some x) : ∃ n, bs[i]? = some n ∧ x = .bl n := by
  rw [List.getElem?_map] at h
  cases e : bs[i]? with
  | none => rw [e] at h; cases h
  | some n => rw [e] at h; exact ⟨n, rfl, (Option.some.inj h).symm⟩
def augSQ (ti te : TE) (g : V → V → Hp → VK → Prop) (op : TIp) (ts : TSet) (D : Ends) (σ : L2.St) (x : V) (H1 : Hp) : Prop := ti σ H1 fun i H2 => g x i H2 fun v H3 => te σ H3 fun y H4 => op v y H4 fun z H5 => ts x i z H5 fun H6 => D.nx σ H6
theorem w_getI2 {ns : List Int} (e : SqL K H p (ns.map V.int)) (h0 : 0 ≤ n ∧ n.toNat < ns.length) (h : Q (.int (ns.getD n.toNat 0)) H) : uGet K (.ref p) (.int n) H Q :=
  .inl ⟨h0.1, _, .int (ns.getD n.toNat 0), e, by rw [List.getElem?_map, List.getElem?_eq_getElem h0.2, List.getD_eq_getElem?_getD, List.getElem?_eq_getElem h0.2]; rfl, h⟩
theorem w_augS {D : Ends} {σ : L2.St} {to ti te : TE} {g : V → V → Hp → VK → Prop} {op : TIp} {ts : TSet} (h : to σ H fun o H1 => augSQ ti te g op ts D σ o H1) : tAugS to ti te g op ts D σ H := h
theorem w_augSQ {D : Ends} {σ : L2.St} {ti te : TE} {g : V → V → Hp → VK → Prop} {op : TIp} {ts : TSet} {x : V} (h : ti σ H fun i H2 => g x i H2 fun v H3 => te σ H3 fun y H4 => op v y H4 fun z H5 => ts x i z H5 fun H6 => D.nx σ H6) : augSQ ti te g op ts D σ x H := h
end steps6
end U
namespace Lam
open PySem PySem.Spec L2 U
local macro_rules | `(tactic| walk_at "te") => `(tactic| fail "no fact")
local macro_rules | `(tactic| walk_at "kt") => `(tactic| fail "no fact")
local macro_rules | `(tactic| walk_at "xc") => `(tactic| fail "no fact")
local macro_rules | `(tactic| walk_at "x") => `(tactic| fail "no step")
local macro_rules | `(tactic| walk_at "hk") => `(tactic| first
  | assumption | exact upd_same | exact SqL.of upd_same | exact SqT.of upd_same
  | (apply sql_old; (· walk_at "hk"); (· assumption)) | (apply upd_old; (· walk_at "hk"); (· assumption)) | (apply sqt_old; (· walk_at "hk"); (· assumption))
  | exact L2.Same.seq (by assumption) (by assumption) | exact U.Same.sqt (by assumption) (by assumption) | exact (by assumption : L2.Same _ _) _ _ (by assumption)
  | (apply SqL.of; walk_at "hk") | (apply SqT.of; walk_at "hk"))
local macro_rules | `(tactic| walk_at "nn") => `(tactic| first | assumption | exact L2.Same.free (by assumption) (by assumption) | exact (none_of_upd (by assumption)).1)
local macro_rules | `(tactic| walk_at "sm") => `(tactic| first | assumption | exact L2.Same.refl _ | (apply same_updN; (· walk_at "sm"); (· assumption)) | (apply same_upd; (· walk_at "sm"); (· walk_at "nn")) | exact L2.Same.trans (by assumption) (by assumption))
local macro_rules | `(tactic| walk_at "s") => `(tactic| first
    | with_reducible refine w_seq ?_
    | with_reducible refine w_op ?_
    | with_reducible refine w_asg ?_
    | with_reducible refine w_name ?_
    | with_reducible refine w_c ?_
    | with_reducible refine w_if ?_
    | with_reducible refine w_test ?_
    | with_reducible refine w_blP ?_
    | with_reducible refine w_cons ?_
    | with_reducible refine w_nil ?_
    | with_reducible refine w_ret ?_
    | with_reducible refine w_call ?_
    | ((with_reducible refine' w_var ?e ?_); (case e => rfl))
    | ((with_reducible refine ifST ?h ?_); (case h => decide +kernel))
    | ((with_reducible refine ifSF ?h ?_); (case h => decide +kernel))
    | ((with_reducible refine ifSNT ?h ?_); (case h => decide +kernel))
    | ((with_reducible refine ifSNF ?h ?_); (case h => decide +kernel))
    | with_reducible refine iteT ?_
    | with_reducible refine iteF ?_
    | with_reducible refine ifNT ?_
    | with_reducible refine ifNF ?_
    | (((with_reducible show @ite Prop (_ = true) _ _ _); refine @ifP _ _ _ _ ?_ ?_) <;> intro h <;> first | (with_reducible exact absurd rfl h) | skip)
    | (((with_reducible show @ite Prop (_ = true) _ _ _); refine @ifN _ _ _ _ ?_ ?_) <;> intro h <;> first | (with_reducible exact absurd rfl h) | skip)
    | with_reducible refine w_eqX ?_
    | with_reducible refine w_neX ?_
    | with_reducible refine w_add ?_
    | with_reducible refine w_sub ?_
    | with_reducible refine w_eqI ?_
    | with_reducible refine w_neI ?_
    | with_reducible refine w_lt ?_
    | with_reducible refine w_le ?_
    | with_reducible refine w_gt ?_
    | with_reducible refine w_ge ?_
    | with_reducible refine w_eqS ?_
    | with_reducible refine w_eqB ?_
    | with_reducible refine w_neS ?_
    | with_reducible refine w_neB ?_
    | with_reducible refine w_cb ?_
    | with_reducible refine w_tup ?_
    | with_reducible refine w_lst ?_
    | with_reducible refine w_next ?_
    | with_reducible refine w_drop ?_
    | with_reducible refine w_not ?_
    | with_reducible refine w_tru ?_
    | with_reducible refine w_and ?_
    | with_reducible refine w_or ?_
    | with_reducible refine w_andV ?_
    | with_reducible refine w_orV ?_
    | with_reducible refine w_notV ?_
    | with_reducible refine w_ifE ?_
    | with_reducible refine w_chain ?_
    | with_reducible refine w_retN ?_
    | with_reducible refine w_bm ?_
    | with_reducible refine w_raise ?_
    | with_reducible refine w_fld ?_
    | with_reducible refine w_meth ?_
    | with_reducible refine w_setf ?_
    | with_reducible refine w_for ?_
    | with_reducible refine w_rng1 ?_
    | with_reducible refine w_rng2 ?_
    | with_reducible refine w_iList ?_
    | with_reducible refine w_iTup ?_
    | with_reducible refine w_iStr ?_
    | with_reducible refine w_iRev ?_
    | with_reducible refine w_brk ?_
    | with_reducible refine w_cont ?_
    | with_reducible refine w_un ?_
    | with_reducible refine w_lc ?_
    | with_reducible refine w_yes ?_
    | with_reducible refine w_gsub ?_
    | with_reducible refine w_sl ?_
    | with_reducible refine w_part ?_
    | with_reducible refine w_noPart ?_
    | with_reducible refine w_wh ?_
    | with_reducible refine w_tryAs ?_
    | with_reducible refine w_try ?_
    | with_reducible refine w_make ?_
    | with_reducible refine w_dget ?_
    | with_reducible refine w_dput ?_
    | with_reducible refine w_gcons ?_
    | with_reducible refine w_gnil ?_
    | with_reducible refine w_augf ?_
    | with_reducible refine w_iEnum ?_
    | with_reducible refine w_iZip ?_
    | with_reducible refine w_iKeys ?_
    | with_reducible refine w_dget2 ?_
    | with_reducible refine w_dget1 ?_
    | with_reducible refine w_dpop1 ?_
    | with_reducible refine w_ddel ?_
    | with_reducible refine w_callX ?_
    | with_reducible refine w_augS ?_
    | with_reducible refine w_augSQ ?_
    | ((with_reducible refine' w_aug ?e ?_); (case e => rfl))
    | ((with_reducible refine w_mul ?s ?_); (case s => first | exact Or.inr ⟨by omega, by omega⟩ | exact Or.inl ⟨by omega, by omega⟩))
    | ((with_reducible refine w_div ?s ?_); (case s => omega))
    | ((with_reducible refine w_mod ?s ?_); (case s => first | omega | decide))
    | ((with_reducible refine w_pow ?s ?_); (case s => first | exact ⟨by decide, by decide, by decide⟩ | exact ⟨by decide, by decide, by omega⟩))
    | ((with_reducible refine w_newL ?s ?_); (case s => (first | exact (by decide) | (simp only [List.length_cons, List.length_nil]; omega))); intro _ _)
    | ((with_reducible refine w_newT ?s ?_); (case s => (first | exact (by decide) | (simp only [List.length_cons, List.length_nil]; omega))); intro _ _)
    | with_reducible refine w_eqX ?_
    | with_reducible refine w_neX ?_
    | with_reducible refine w_findX ?_
    | with_reducible refine w_countX ?_
    | ((with_reducible refine w_lenX ?s ?_); (case s => (first | omega | (simp only [List.length_append, List.length_cons, List.length_nil, List.length_take, List.length_drop, List.length_replicate, List.length_map, List.length_range] at *; omega) | (simp only [List.length_append, List.length_cons, List.length_nil, List.length_take, List.length_drop, List.length_replicate, List.length_map, List.length_range]; omega) | decide)))
    | ((with_reducible refine w_truX ?s ?_); (case s => (first | omega | (simp only [List.length_append, List.length_cons, List.length_nil, List.length_take, List.length_drop, List.length_replicate, List.length_map, List.length_range] at *; omega) | (simp only [List.length_append, List.length_cons, List.length_nil, List.length_take, List.length_drop, List.length_replicate, List.length_map, List.length_range]; omega) | decide)))
    | ((with_reducible refine w_addX ?s ?_); (case s => (first | omega | (simp only [List.length_append, List.length_cons, List.length_nil, List.length_take, List.length_drop, List.length_replicate, List.length_map, List.length_range] at *; omega) | (simp only [List.length_append, List.length_cons, List.length_nil, List.length_take, List.length_drop, List.length_replicate, List.length_map, List.length_range]; omega) | decide)))
    | ((with_reducible refine w_mulX ?h0 ?h1 ?_); (case h0 => (first | omega | (simp only [List.length_append, List.length_cons, List.length_nil, List.length_take, List.length_drop, List.length_replicate, List.length_map, List.length_range] at *; omega) | (simp only [List.length_append, List.length_cons, List.length_nil, List.length_take, List.length_drop, List.length_replicate, List.length_map, List.length_range]; omega) | decide)); (case h1 => (first | omega | (simp only [List.length_append, List.length_cons, List.length_nil, List.length_take, List.length_drop, List.length_replicate, List.length_map, List.length_range] at *; omega) | (simp only [List.length_append, List.length_cons, List.length_nil, List.length_take, List.length_drop, List.length_replicate, List.length_map, List.length_range]; omega) | decide)))
    | ((with_reducible refine w_tkX ?s ?h0 ?_); (case s => (first | omega | (simp only [List.length_append, List.length_cons, List.length_nil, List.length_take, List.length_drop, List.length_replicate, List.length_map, List.length_range] at *; omega) | (simp only [List.length_append, List.length_cons, List.length_nil, List.length_take, List.length_drop, List.length_replicate, List.length_map, List.length_range]; omega) | decide)); (case h0 => (first | omega | (simp only [List.length_append, List.length_cons, List.length_nil, List.length_take, List.length_drop, List.length_replicate, List.length_map, List.length_range] at *; omega) | (simp only [List.length_append, List.length_cons, List.length_nil, List.length_take, List.length_drop, List.length_replicate, List.length_map, List.length_range]; omega) | decide)))
    | ((with_reducible refine w_dpX ?s ?h0 ?_); (case s => (first | omega | (simp only [List.length_append, List.length_cons, List.length_nil, List.length_take, List.length_drop, List.length_replicate, List.length_map, List.length_range] at *; omega) | (simp only [List.length_append, List.length_cons, List.length_nil, List.length_take, List.length_drop, List.length_replicate, List.length_map, List.length_range]; omega) | decide)); (case h0 => (first | omega | (simp only [List.length_append, List.length_cons, List.length_nil, List.length_take, List.length_drop, List.length_replicate, List.length_map, List.length_range] at *; omega) | (simp only [List.length_append, List.length_cons, List.length_nil, List.length_take, List.length_drop, List.length_replicate, List.length_map, List.length_range]; omega) | decide)))
    | ((with_reducible refine w_ixX ?s ?h0 ?_); (case s => (first | omega | (simp only [List.length_append, List.length_cons, List.length_nil, List.length_take, List.length_drop, List.length_replicate, List.length_map, List.length_range] at *; omega) | (simp only [List.length_append, List.length_cons, List.length_nil, List.length_take, List.length_drop, List.length_replicate, List.length_map, List.length_range]; omega) | decide)); (case h0 => (first | omega | (simp only [List.length_append, List.length_cons, List.length_nil, List.length_take, List.length_drop, List.length_replicate, List.length_map, List.length_range] at *; omega) | (simp only [List.length_append, List.length_cons, List.length_nil, List.length_take, List.length_drop, List.length_replicate, List.length_map, List.length_range]; omega) | decide)))
    | with_reducible refine w_max ?_
    | with_reducible refine w_min ?_
    | with_reducible refine w_eqNI ?_
    | with_reducible refine w_neNI ?_
    | with_reducible refine w_eqIN ?_
    | with_reducible refine w_neIN ?_
    | with_reducible refine w_neNN ?_
    | with_reducible refine w_eqNN ?_
    | with_reducible refine w_abs ?_
    | with_reducible refine w_intI ?_
    | with_reducible refine w_intB ?_
    | with_reducible refine w_ipI ?_
    | with_reducible refine w_bmS ?_
    | with_reducible refine w_iStrv ?_
    | with_reducible refine w_neg ?_
    | with_reducible refine w_partI ?_
    | with_reducible refine w_truB ?_
    | with_reducible refine w_truN ?_
    | with_reducible refine w_truI ?_
    | with_reducible refine w_isi_int_int ?_
    | with_reducible refine w_isi_int_bl ?_
    | with_reducible refine w_isi_int_str ?_
    | with_reducible refine w_isi_int_non ?_
    | with_reducible refine w_isi_bool_int ?_
    | with_reducible refine w_isi_bool_bl ?_
    | with_reducible refine w_isi_bool_str ?_
    | with_reducible refine w_isi_bool_non ?_
    | with_reducible refine w_isi_str_int ?_
    | with_reducible refine w_isi_str_bl ?_
    | with_reducible refine w_isi_str_str ?_
    | with_reducible refine w_isi_str_non ?_
    | with_reducible refine w_isi_list_int ?_
    | with_reducible refine w_isi_list_bl ?_
    | with_reducible refine w_isi_list_str ?_
    | with_reducible refine w_isi_list_non ?_
    | with_reducible refine w_isi_tuple_int ?_
    | with_reducible refine w_isi_tuple_bl ?_
    | with_reducible refine w_isi_tuple_str ?_
    | with_reducible refine w_isi_tuple_non ?_
    | with_reducible refine w_is_int ?_
    | with_reducible refine w_isnt_int ?_
    | with_reducible refine w_is_bl ?_
    | with_reducible refine w_isnt_bl ?_
    | with_reducible refine w_is_str ?_
    | with_reducible refine w_isnt_str ?_
    | with_reducible refine w_is_non ?_
    | with_reducible refine w_isnt_non ?_
    | with_reducible refine w_is_ref ?_
    | with_reducible refine w_isnt_ref ?_
    | ((with_reducible refine w_asT ?e ?_); (case e => walk_at "te"); intro _ _)
    | ((with_reducible refine w_onT ?e ?_); (case e => walk_at "te"); intro _ _)
    | ((with_reducible refine w_asF ?e ?_); (case e => walk_at "te"))
    | ((with_reducible refine w_onF ?e ?_); (case e => walk_at "te"))
    | ((with_reducible apply w_isE); (· walk_at "xc"); (· walk_at "kt"))
    | ((with_reducible apply w_lenL); (· walk_at "hk"))
    | ((with_reducible apply w_lenT); (· walk_at "hk"))
    | ((with_reducible apply w_bmL); (· walk_at "hk"))
    | ((with_reducible refine w_rng1v ?h1 ?h2 ?_); (case h1 => (first | omega | (simp only [List.length_map] at *; omega))); (case h2 => (first | omega | (simp only [List.length_map] at *; omega))))
    | ((with_reducible refine w_rng2v ?h1 ?_); (case h1 => (first | omega | (simp only [List.length_map] at *; omega))))
    | ((with_reducible apply w_ixI); (· walk_at "hk"); (· (first | omega | (simp only [List.length_map] at *; omega))))
    | ((with_reducible apply w_ixTI); (· walk_at "hk"); (· (first | omega | (simp only [List.length_map] at *; omega))))
    | ((with_reducible apply w_ixBl); (· walk_at "hk"); (· (first | omega | (simp only [List.length_map] at *; omega))))
    | ((with_reducible apply w_getI2); (· walk_at "hk"); (· (first | omega | (simp only [List.length_map] at *; omega))))
    | ((with_reducible apply w_ixTl); (· walk_at "hk"); (· rfl); (· decide))
    | ((with_reducible apply w_ixLl); (· walk_at "hk"); (· rfl); (· decide))
    | ((with_reducible apply w_appI); (· walk_at "hk"); (· (first | omega | (simp only [List.length_append, List.length_cons, List.length_nil]; omega))))
    | ((with_reducible apply w_iListv); (· walk_at "hk"))
    | ((with_reducible apply w_iTupv); (· walk_at "hk"))
    | ((with_reducible apply w_iRevv); (· walk_at "hk"))
    | ((with_reducible apply w_iEnumv); (· walk_at "hk"))
    | ((with_reducible apply w_iZipv); (· walk_at "hk"); (· walk_at "hk"))
    | ((with_reducible apply w_dget2v); (· walk_at "hk"))
    | ((with_reducible apply w_dget1v); (· walk_at "hk"))
    | ((with_reducible apply w_dpop1v); (· walk_at "hk"))
    | ((with_reducible apply w_getI); (· walk_at "hk"))
    | ((with_reducible apply w_inD); (· walk_at "hk"))
    | ((with_reducible apply w_ninD); (· walk_at "hk"))
    | ((with_reducible apply w_rep1); (· walk_at "hk"); (· (first | omega | (simp only [List.length_append, List.length_cons, List.length_nil, List.length_take, List.length_drop, List.length_replicate, List.length_map, List.length_range] at *; omega) | (simp only [List.length_append, List.length_cons, List.length_nil, List.length_take, List.length_drop, List.length_replicate, List.length_map, List.length_range]; omega) | decide)); (· (first | omega | (simp only [List.length_append, List.length_cons, List.length_nil, List.length_take, List.length_drop, List.length_replicate, List.length_map, List.length_range] at *; omega) | (simp only [List.length_append, List.length_cons, List.length_nil, List.length_take, List.length_drop, List.length_replicate, List.length_map, List.length_range]; omega) | decide)); intro _ _)
    | ((with_reducible apply w_gtup2); (· walk_at "hk"))
    | ((with_reducible apply w_gtup3); (· walk_at "hk"))
    | ((with_reducible apply w_gtup4); (· walk_at "hk"))
    | ((with_reducible refine w_newD ?_); intro _ _)
    | ((with_reducible apply w_augsub); (· walk_at "hk"); (· rfl); (· exact Nat.le_of_ble_eq_true rfl))
    | ((with_reducible apply w_augadd); (· walk_at "hk"); (· rfl); (· exact Nat.le_of_ble_eq_true rfl))
    | ((with_reducible apply w_fldv); (· walk_at "hk"); (· rfl))
    | ((with_reducible apply w_methv); (· walk_at "hk"); (· rfl))
    | ((with_reducible apply w_setfv); (· walk_at "hk"); (· exact Nat.le_of_ble_eq_true rfl); (· rfl))
    | walk_at "x")
local macro_rules | `(tactic| walk_at "run1") => `(tactic| repeat (first
    | with_reducible refine w_seq ?_
    | with_reducible refine w_op ?_
    | with_reducible refine w_asg ?_
    | with_reducible refine w_name ?_
    | with_reducible refine w_c ?_
    | with_reducible refine w_if ?_
    | with_reducible refine w_test ?_
    | with_reducible refine w_blP ?_
    | with_reducible refine w_cons ?_
    | with_reducible refine w_nil ?_
    | with_reducible refine w_ret ?_
    | with_reducible refine w_call ?_
    | ((with_reducible refine' w_var ?e ?_); (case e => rfl))
    | ((with_reducible refine ifST ?h ?_); (case h => decide +kernel))
    | ((with_reducible refine ifSF ?h ?_); (case h => decide +kernel))
    | ((with_reducible refine ifSNT ?h ?_); (case h => decide +kernel))
    | ((with_reducible refine ifSNF ?h ?_); (case h => decide +kernel))
    | with_reducible refine iteT ?_
    | with_reducible refine iteF ?_
    | with_reducible refine ifNT ?_
    | with_reducible refine ifNF ?_
    | (((with_reducible show @ite Prop (_ = true) _ _ _); refine @ifP _ _ _ _ ?_ ?_) <;> intro h <;> first | (with_reducible exact absurd rfl h) | skip)
    | (((with_reducible show @ite Prop (_ = true) _ _ _); refine @ifN _ _ _ _ ?_ ?_) <;> intro h <;> first | (with_reducible exact absurd rfl h) | skip)
    | with_reducible refine w_eqX ?_
    | with_reducible refine w_neX ?_
    | with_reducible refine w_add ?_
    | with_reducible refine w_sub ?_
    | with_reducible refine w_eqI ?_
    | with_reducible refine w_neI ?_
    | with_reducible refine w_lt ?_
    | with_reducible refine w_le ?_
    | with_reducible refine w_gt ?_
    | with_reducible refine w_ge ?_
    | with_reducible refine w_eqS ?_
    | with_reducible refine w_eqB ?_
    | with_reducible refine w_neS ?_
    | with_reducible refine w_neB ?_
    | with_reducible refine w_cb ?_
    | with_reducible refine w_tup ?_
    | with_reducible refine w_lst ?_
    | with_reducible refine w_next ?_
    | with_reducible refine w_drop ?_
    | with_reducible refine w_not ?_
    | with_reducible refine w_tru ?_
    | with_reducible refine w_and ?_
    | with_reducible refine w_or ?_
    | with_reducible refine w_andV ?_
    | with_reducible refine w_orV ?_
    | with_reducible refine w_notV ?_
    | with_reducible refine w_ifE ?_
    | with_reducible refine w_chain ?_
    | with_reducible refine w_retN ?_
    | with_reducible refine w_bm ?_
    | with_reducible refine w_raise ?_
    | with_reducible refine w_fld ?_
    | with_reducible refine w_meth ?_
    | with_reducible refine w_setf ?_
    | with_reducible refine w_for ?_
    | with_reducible refine w_rng1 ?_
    | with_reducible refine w_rng2 ?_
    | with_reducible refine w_iList ?_
    | with_reducible refine w_iTup ?_
    | with_reducible refine w_iStr ?_
    | with_reducible refine w_iRev ?_
    | with_reducible refine w_brk ?_
    | with_reducible refine w_cont ?_
    | with_reducible refine w_un ?_
    | with_reducible refine w_lc ?_
    | with_reducible refine w_yes ?_
    | with_reducible refine w_gsub ?_
    | with_reducible refine w_sl ?_
    | with_reducible refine w_part ?_
    | with_reducible refine w_noPart ?_
    | with_reducible refine w_wh ?_
    | with_reducible refine w_tryAs ?_
    | with_reducible refine w_try ?_
    | with_reducible refine w_make ?_
    | with_reducible refine w_dget ?_
    | with_reducible refine w_dput ?_
    | with_reducible refine w_gcons ?_
    | with_reducible refine w_gnil ?_
    | with_reducible refine w_augf ?_
    | with_reducible refine w_iEnum ?_
    | with_reducible refine w_iZip ?_
    | with_reducible refine w_iKeys ?_
    | with_reducible refine w_dget2 ?_
    | with_reducible refine w_dget1 ?_
    | with_reducible refine w_dpop1 ?_
    | with_reducible refine w_ddel ?_
    | with_reducible refine w_callX ?_
    | with_reducible refine w_augS ?_
    | with_reducible refine w_augSQ ?_
    | ((with_reducible refine' w_aug ?e ?_); (case e => rfl))
    | ((with_reducible refine w_mul ?s ?_); (case s => first | exact Or.inr ⟨by omega, by omega⟩ | exact Or.inl ⟨by omega, by omega⟩))
    | ((with_reducible refine w_div ?s ?_); (case s => omega))
    | ((with_reducible refine w_mod ?s ?_); (case s => first | omega | decide))
    | ((with_reducible refine w_pow ?s ?_); (case s => first | exact ⟨by decide, by decide, by decide⟩ | exact ⟨by decide, by decide, by omega⟩))
    | ((with_reducible refine w_newL ?s ?_); (case s => (first | exact (by decide) | (simp only [List.length_cons, List.length_nil]; omega))); intro _ _)
    | ((with_reducible refine w_newT ?s ?_); (case s => (first | exact (by decide) | (simp only [List.length_cons, List.length_nil]; omega))); intro _ _)
    | with_reducible refine w_eqX ?_
    | with_reducible refine w_neX ?_
    | with_reducible refine w_findX ?_
    | with_reducible refine w_countX ?_
    | ((with_reducible refine w_lenX ?s ?_); (case s => (first | omega | (simp only [List.length_append, List.length_cons, List.length_nil, List.length_take, List.length_drop, List.length_replicate, List.length_map, List.length_range] at *; omega) | (simp only [List.length_append, List.length_cons, List.length_nil, List.length_take, List.length_drop, List.length_replicate, List.length_map, List.length_range]; omega) | decide)))
    | ((with_reducible refine w_truX ?s ?_); (case s => (first | omega | (simp only [List.length_append, List.length_cons, List.length_nil, List.length_take, List.length_drop, List.length_replicate, List.length_map, List.length_range] at *; omega) | (simp only [List.length_append, List.length_cons, List.length_nil, List.length_take, List.length_drop, List.length_replicate, List.length_map, List.length_range]; omega) | decide)))
    | ((with_reducible refine w_addX ?s ?_); (case s => (first | omega | (simp only [List.length_append, List.length_cons, List.length_nil, List.length_take, List.length_drop, List.length_replicate, List.length_map, List.length_range] at *; omega) | (simp only [List.length_append, List.length_cons, List.length_nil, List.length_take, List.length_drop, List.length_replicate, List.length_map, List.length_range]; omega) | decide)))
    | ((with_reducible refine w_mulX ?h0 ?h1 ?_); (case h0 => (first | omega | (simp only [List.length_append, List.length_cons, List.length_nil, List.length_take, List.length_drop, List.length_replicate, List.length_map, List.length_range] at *; omega) | (simp only [List.length_append, List.length_cons, List.length_nil, List.length_take, List.length_drop, List.length_replicate, List.length_map, List.length_range]; omega) | decide)); (case h1 => (first | omega | (simp only [List.length_append, List.length_cons, List.length_nil, List.length_take, List.length_drop, List.length_replicate, List.length_map, List.length_range] at *; omega) | (simp only [List.length_append, List.length_cons, List.length_nil, List.length_take, List.length_drop, List.length_replicate, List.length_map, List.length_range]; omega) | decide)))
    | ((with_reducible refine w_tkX ?s ?h0 ?_); (case s => (first | omega | (simp only [List.length_append, List.length_cons, List.length_nil, List.length_take, List.length_drop, List.length_replicate, List.length_map, List.length_range] at *; omega) | (simp only [List.length_append, List.length_cons, List.length_nil, List.length_take, List.length_drop, List.length_replicate, List.length_map, List.length_range]; omega) | decide)); (case h0 => (first | omega | (simp only [List.length_append, List.length_cons, List.length_nil, List.length_take, List.length_drop, List.length_replicate, List.length_map, List.length_range] at *; omega) | (simp only [List.length_append, List.length_cons, List.length_nil, List.length_take, List.length_drop, List.length_replicate, List.length_map, List.length_range]; omega) | decide)))
    | ((with_reducible refine w_dpX ?s ?h0 ?_); (case s => (first | omega | (simp only [List.length_append, List.length_cons, List.length_nil, List.length_take, List.length_drop, List.length_replicate, List.length_map, List.length_range] at *; omega) | (simp only [List.length_append, List.length_cons, List.length_nil, List.length_take, List.length_drop, List.length_replicate, List.length_map, List.length_range]; omega) | decide)); (case h0 => (first | omega | (simp only [List.length_append, List.length_cons, List.length_nil, List.length_take, List.length_drop, List.length_replicate, List.length_map, List.length_range] at *; omega) | (simp only [List.length_append, List.length_cons, List.length_nil, List.length_take, List.length_drop, List.length_replicate, List.length_map, List.length_range]; omega) | decide)))
    | ((with_reducible refine w_ixX ?s ?h0 ?_); (case s => (first | omega | (simp only [List.length_append, List.length_cons, List.length_nil, List.length_take, List.length_drop, List.length_replicate, List.length_map, List.length_range] at *; omega) | (simp only [List.length_append, List.length_cons, List.length_nil, List.length_take, List.length_drop, List.length_replicate, List.length_map, List.length_range]; omega) | decide)); (case h0 => (first | omega | (simp only [List.length_append, List.length_cons, List.length_nil, List.length_take, List.length_drop, List.length_replicate, List.length_map, List.length_range] at *; omega) | (simp only [List.length_append, List.length_cons, List.length_nil, List.length_take, List.length_drop, List.length_replicate, List.length_map, List.length_range]; omega) | decide)))
    | with_reducible refine w_max ?_
    | with_reducible refine w_min ?_
    | with_reducible refine w_eqNI ?_
    | with_reducible refine w_neNI ?_
    | with_reducible refine w_eqIN ?_
    | with_reducible refine w_neIN ?_
    | with_reducible refine w_neNN ?_
    | with_reducible refine w_eqNN ?_
    | with_reducible refine w_abs ?_
    | with_reducible refine w_intI ?_
    | with_reducible refine w_intB ?_
    | with_reducible refine w_ipI ?_
    | with_reducible refine w_bmS ?_
    | with_reducible refine w_iStrv ?_
    | with_reducible refine w_neg ?_
    | with_reducible refine w_partI ?_
    | with_reducible refine w_truB ?_
    | with_reducible refine w_truN ?_
    | with_reducible refine w_truI ?_
    | with_reducible refine w_isi_int_int ?_
    | with_reducible refine w_isi_int_bl ?_
    | with_reducible refine w_isi_int_str ?_
    | with_reducible refine w_isi_int_non ?_
    | with_reducible refine w_isi_bool_int ?_
    | with_reducible refine w_isi_bool_bl ?_
    | with_reducible refine w_isi_bool_str ?_
    | with_reducible refine w_isi_bool_non ?_
    | with_reducible refine w_isi_str_int ?_
    | with_reducible refine w_isi_str_bl ?_
    | with_reducible refine w_isi_str_str ?_
    | with_reducible refine w_isi_str_non ?_
    | with_reducible refine w_isi_list_int ?_
    | with_reducible refine w_isi_list_bl ?_
    | with_reducible refine w_isi_list_str ?_
    | with_reducible refine w_isi_list_non ?_
    | with_reducible refine w_isi_tuple_int ?_
    | with_reducible refine w_isi_tuple_bl ?_
    | with_reducible refine w_isi_tuple_str ?_
    | with_reducible refine w_isi_tuple_non ?_
    | with_reducible refine w_is_int ?_
    | with_reducible refine w_isnt_int ?_
    | with_reducible refine w_is_bl ?_
    | with_reducible refine w_isnt_bl ?_
    | with_reducible refine w_is_str ?_
    | with_reducible refine w_isnt_str ?_
    | with_reducible refine w_is_non ?_
    | with_reducible refine w_isnt_non ?_
    | with_reducible refine w_is_ref ?_
    | with_reducible refine w_isnt_ref ?_
    | ((with_reducible refine w_asT ?e ?_); (case e => walk_at "te"); intro _ _)
    | ((with_reducible refine w_onT ?e ?_); (case e => walk_at "te"); intro _ _)
    | ((with_reducible refine w_asF ?e ?_); (case e => walk_at "te"))
    | ((with_reducible refine w_onF ?e ?_); (case e => walk_at "te"))
    | ((with_reducible apply w_isE); (· walk_at "xc"); (· walk_at "kt"))
    | ((with_reducible apply w_lenL); (· walk_at "hk"))
    | ((with_reducible apply w_lenT); (· walk_at "hk"))
    | ((with_reducible apply w_bmL); (· walk_at "hk"))
    | ((with_reducible refine w_rng1v ?h1 ?h2 ?_); (case h1 => (first | omega | (simp only [List.length_map] at *; omega))); (case h2 => (first | omega | (simp only [List.length_map] at *; omega))))
    | ((with_reducible refine w_rng2v ?h1 ?_); (case h1 => (first | omega | (simp only [List.length_map] at *; omega))))
    | ((with_reducible apply w_ixI); (· walk_at "hk"); (· (first | omega | (simp only [List.length_map] at *; omega))))
    | ((with_reducible apply w_ixTI); (· walk_at "hk"); (· (first | omega | (simp only [List.length_map] at *; omega))))
    | ((with_reducible apply w_ixBl); (· walk_at "hk"); (· (first | omega | (simp only [List.length_map] at *; omega))))
    | ((with_reducible apply w_getI2); (· walk_at "hk"); (· (first | omega | (simp only [List.length_map] at *; omega))))
    | ((with_reducible apply w_ixTl); (· walk_at "hk"); (· rfl); (· decide))
    | ((with_reducible apply w_ixLl); (· walk_at "hk"); (· rfl); (· decide))
    | ((with_reducible apply w_appI); (· walk_at "hk"); (· (first | omega | (simp only [List.length_append, List.length_cons, List.length_nil]; omega))))
    | ((with_reducible apply w_iListv); (· walk_at "hk"))
    | ((with_reducible apply w_iTupv); (· walk_at "hk"))
    | ((with_reducible apply w_iRevv); (· walk_at "hk"))
    | ((with_reducible apply w_iEnumv); (· walk_at "hk"))
    | ((with_reducible apply w_iZipv); (· walk_at "hk"); (· walk_at "hk"))
    | ((with_reducible apply w_dget2v); (· walk_at "hk"))
    | ((with_reducible apply w_dget1v); (· walk_at "hk"))
    | ((with_reducible apply w_dpop1v); (· walk_at "hk"))
    | ((with_reducible apply w_getI); (· walk_at "hk"))
    | ((with_reducible apply w_inD); (· walk_at "hk"))
    | ((with_reducible apply w_ninD); (· walk_at "hk"))
    | ((with_reducible apply w_rep1); (· walk_at "hk"); (· (first | omega | (simp only [List.length_append, List.length_cons, List.length_nil, List.length_take, List.length_drop, List.length_replicate, List.length_map, List.length_range] at *; omega) | (simp only [List.length_append, List.length_cons, List.length_nil, List.length_take, List.length_drop, List.length_replicate, List.length_map, List.length_range]; omega) | decide)); (· (first | omega | (simp only [List.length_append, List.length_cons, List.length_nil, List.length_take, List.length_drop, List.length_replicate, List.length_map, List.length_range] at *; omega) | (simp only [List.length_append, List.length_cons, List.length_nil, List.length_take, List.length_drop, List.length_replicate, List.length_map, List.length_range]; omega) | decide)); intro _ _)
    | ((with_reducible apply w_gtup2); (· walk_at "hk"))
    | ((with_reducible apply w_gtup3); (· walk_at "hk"))
    | ((with_reducible apply w_gtup4); (· walk_at "hk"))
    | ((with_reducible refine w_newD ?_); intro _ _)
    | ((with_reducible apply w_augsub); (· walk_at "hk"); (· rfl); (· exact Nat.le_of_ble_eq_true rfl))
    | ((with_reducible apply w_augadd); (· walk_at "hk"); (· rfl); (· exact Nat.le_of_ble_eq_true rfl))
    | ((with_reducible apply w_fldv); (· walk_at "hk"); (· rfl))
    | ((with_reducible apply w_methv); (· walk_at "hk"); (· rfl))
    | ((with_reducible apply w_setfv); (· walk_at "hk"); (· exact Nat.le_of_ble_eq_true rfl); (· rfl))
    | walk_at "x"))
local macro_rules | `(tactic| walk_at "run") => `(tactic| repeat' (first
    | with_reducible refine w_seq ?_
    | with_reducible refine w_op ?_
    | with_reducible refine w_asg ?_
    | with_reducible refine w_name ?_
    | with_reducible refine w_c ?_
    | with_reducible refine w_if ?_
    | with_reducible refine w_test ?_
    | with_reducible refine w_blP ?_
    | with_reducible refine w_cons ?_
    | with_reducible refine w_nil ?_
    | with_reducible refine w_ret ?_
    | with_reducible refine w_call ?_
    | ((with_reducible refine' w_var ?e ?_); (case e => rfl))
    | ((with_reducible refine ifST ?h ?_); (case h => decide +kernel))
    | ((with_reducible refine ifSF ?h ?_); (case h => decide +kernel))
    | ((with_reducible refine ifSNT ?h ?_); (case h => decide +kernel))
    | ((with_reducible refine ifSNF ?h ?_); (case h => decide +kernel))
    | with_reducible refine iteT ?_
    | with_reducible refine iteF ?_
    | with_reducible refine ifNT ?_
    | with_reducible refine ifNF ?_
    | (((with_reducible show @ite Prop (_ = true) _ _ _); refine @ifP _ _ _ _ ?_ ?_) <;> intro h <;> first | (with_reducible exact absurd rfl h) | skip)
    | (((with_reducible show @ite Prop (_ = true) _ _ _); refine @ifN _ _ _ _ ?_ ?_) <;> intro h <;> first | (with_reducible exact absurd rfl h) | skip)
    | with_reducible refine w_eqX ?_
    | with_reducible refine w_neX ?_
    | with_reducible refine w_add ?_
    | with_reducible refine w_sub ?_
    | with_reducible refine w_eqI ?_
    | with_reducible refine w_neI ?_
    | with_reducible refine w_lt ?_
    | with_reducible refine w_le ?_
    | with_reducible refine w_gt ?_
    | with_reducible refine w_ge ?_
    | with_reducible refine w_eqS ?_
    | with_reducible refine w_eqB ?_
    | with_reducible refine w_neS ?_
    | with_reducible refine w_neB ?_
    | with_reducible refine w_cb ?_
    | with_reducible refine w_tup ?_
    | with_reducible refine w_lst ?_
    | with_reducible refine w_next ?_
    | with_reducible refine w_drop ?_
    | with_reducible refine w_not ?_
    | with_reducible refine w_tru ?_
    | with_reducible refine w_and ?_
    | with_reducible refine w_or ?_
    | with_reducible refine w_andV ?_
    | with_reducible refine w_orV ?_
    | with_reducible refine w_notV ?_
    | with_reducible refine w_ifE ?_
    | with_reducible refine w_chain ?_
    | with_reducible refine w_retN ?_
    | with_reducible refine w_bm ?_
    | with_reducible refine w_raise ?_
    | with_reducible refine w_fld ?_
    | with_reducible refine w_meth ?_
    | with_reducible refine w_setf ?_
    | with_reducible refine w_for ?_
    | with_reducible refine w_rng1 ?_
    | with_reducible refine w_rng2 ?_
    | with_reducible refine w_iList ?_
    | with_reducible refine w_iTup ?_
    | with_reducible refine w_iStr ?_
    | with_reducible refine w_iRev ?_
    | with_reducible refine w_brk ?_
    | with_reducible refine w_cont ?_
    | with_reducible refine w_un ?_
    | with_reducible refine w_lc ?_
    | with_reducible refine w_yes ?_
    | with_reducible refine w_gsub ?_
    | with_reducible refine w_sl ?_
    | with_reducible refine w_part ?_
    | with_reducible refine w_noPart ?_
    | with_reducible refine w_wh ?_
    | with_reducible refine w_tryAs ?_
    | with_reducible refine w_try ?_
    | with_reducible refine w_make ?_
    | with_reducible refine w_dget ?_
    | with_reducible refine w_dput ?_
    | with_reducible refine w_gcons ?_
    | with_reducible refine w_gnil ?_
    | with_reducible refine w_augf ?_
    | with_reducible refine w_iEnum ?_
    | with_reducible refine w_iZip ?_
    | with_reducible refine w_iKeys ?_
    | with_reducible refine w_dget2 ?_
    | with_reducible refine w_dget1 ?_
    | with_reducible refine w_dpop1 ?_
    | with_reducible refine w_ddel ?_
    | with_reducible refine w_callX ?_
    | with_reducible refine w_augS ?_
    | with_reducible refine w_augSQ ?_
    | ((with_reducible refine' w_aug ?e ?_); (case e => rfl))
    | ((with_reducible refine w_mul ?s ?_); (case s => first | exact Or.inr ⟨by omega, by omega⟩ | exact Or.inl ⟨by omega, by omega⟩))
    | ((with_reducible refine w_div ?s ?_); (case s => omega))
    | ((with_reducible refine w_mod ?s ?_); (case s => first | omega | decide))
    | ((with_reducible refine w_pow ?s ?_); (case s => first | exact ⟨by decide, by decide, by decide⟩ | exact ⟨by decide, by decide, by omega⟩))
    | ((with_reducible refine w_newL ?s ?_); (case s => (first | exact (by decide) | (simp only [List.length_cons, List.length_nil]; omega))); intro _ _)
    | ((with_reducible refine w_newT ?s ?_); (case s => (first | exact (by decide) | (simp only [List.length_cons, List.length_nil]; omega))); intro _ _)
    | with_reducible refine w_eqX ?_
    | with_reducible refine w_neX ?_
    | with_reducible refine w_findX ?_
    | with_reducible refine w_countX ?_
    | ((with_reducible refine w_lenX ?s ?_); (case s => (first | omega | (simp only [List.length_append, List.length_cons, List.length_nil, List.length_take, List.length_drop, List.length_replicate, List.length_map, List.length_range] at *; omega) | (simp only [List.length_append, List.length_cons, List.length_nil, List.length_take, List.length_drop, List.length_replicate, List.length_map, List.length_range]; omega) | decide)))
    | ((with_reducible refine w_truX ?s ?_); (case s => (first | omega | (simp only [List.length_append, List.length_cons, List.length_nil, List.length_take, List.length_drop, List.length_replicate, List.length_map, List.length_range] at *; omega) | (simp only [List.length_append, List.length_cons, List.length_nil, List.length_take, List.length_drop, List.length_replicate, List.length_map, List.length_range]; omega) | decide)))
    | ((with_reducible refine w_addX ?s ?_); (case s => (first | omega | (simp only [List.length_append, List.length_cons, List.length_nil, List.length_take, List.length_drop, List.length_replicate, List.length_map, List.length_range] at *; omega) | (simp only [List.length_append, List.length_cons, List.length_nil, List.length_take, List.length_drop, List.length_replicate, List.length_map, List.length_range]; omega) | decide)))
    | ((with_reducible refine w_mulX ?h0 ?h1 ?_); (case h0 => (first | omega | (simp only [List.length_append, List.length_cons, List.length_nil, List.length_take, List.length_drop, List.length_replicate, List.length_map, List.length_range] at *; omega) | (simp only [List.length_append, List.length_cons, List.length_nil, List.length_take, List.length_drop, List.length_replicate, List.length_map, List.length_range]; omega) | decide)); (case h1 => (first | omega | (simp only [List.length_append, List.length_cons, List.length_nil, List.length_take, List.length_drop, List.length_replicate, List.length_map, List.length_range] at *; omega) | (simp only [List.length_append, List.length_cons, List.length_nil, List.length_take, List.length_drop, List.length_replicate, List.length_map, List.length_range]; omega) | decide)))
    | ((with_reducible refine w_tkX ?s ?h0 ?_); (case s => (first | omega | (simp only [List.length_append, List.length_cons, List.length_nil, List.length_take, List.length_drop, List.length_replicate, List.length_map, List.length_range] at *; omega) | (simp only [List.length_append, List.length_cons, List.length_nil, List.length_take, List.length_drop, List.length_replicate, List.length_map, List.length_range]; omega) | decide)); (case h0 => (first | omega | (simp only [List.length_append, List.length_cons, List.length_nil, List.length_take, List.length_drop, List.length_replicate, List.length_map, List.length_range] at *; omega) | (simp only [List.length_append, List.length_cons, List.length_nil, List.length_take, List.length_drop, List.length_replicate, List.length_map, List.length_range]; omega) | decide)))
    | ((with_reducible refine w_dpX ?s ?h0 ?_); (case s => (first | omega | (simp only [List.length_append, List.length_cons, List.length_nil, List.length_take, List.length_drop, List.length_replicate, List.length_map, List.length_range] at *; omega) | (simp only [List.length_append, List.length_cons, List.length_nil, List.length_take, List.length_drop, List.length_replicate, List.length_map, List.length_range]; omega) | decide)); (case h0 => (first | omega | (simp only [List.length_append, List.length_cons, List.length_nil, List.length_take, List.length_drop, List.length_replicate, List.length_map, List.length_range] at *; omega) | (simp only [List.length_append, List.length_cons, List.length_nil, List.length_take, List.length_drop, List.length_replicate, List.length_map, List.length_range]; omega) | decide)))
    | ((with_reducible refine w_ixX ?s ?h0 ?_); (case s => (first | omega | (simp only [List.length_append, List.length_cons, List.length_nil, List.length_take, List.length_drop, List.length_replicate, List.length_map, List.length_range] at *; omega) | (simp only [List.length_append, List.length_cons, List.length_nil, List.length_take, List.length_drop, List.length_replicate, List.length_map, List.length_range]; omega) | decide)); (case h0 => (first | omega | (simp only [List.length_append, List.length_cons, List.length_nil, List.length_take, List.length_drop, List.length_replicate, List.length_map, List.length_range] at *; omega) | (simp only [List.length_append, List.length_cons, List.length_nil, List.length_take, List.length_drop, List.length_replicate, List.length_map, List.length_range]; omega) | decide)))
    | with_reducible refine w_max ?_
    | with_reducible refine w_min ?_
    | with_reducible refine w_eqNI ?_
    | with_reducible refine w_neNI ?_
    | with_reducible refine w_eqIN ?_
    | with_reducible refine w_neIN ?_
    | with_reducible refine w_neNN ?_
    | with_reducible refine w_eqNN ?_
    | with_reducible refine w_abs ?_
    | with_reducible refine w_intI ?_
    | with_reducible refine w_intB ?_
    | with_reducible refine w_ipI ?_
    | with_reducible refine w_bmS ?_
    | with_reducible refine w_iStrv ?_
    | with_reducible refine w_neg ?_
    | with_reducible refine w_partI ?_
    | with_reducible refine w_truB ?_
    | with_reducible refine w_truN ?_
    | with_reducible refine w_truI ?_
    | with_reducible refine w_isi_int_int ?_
    | with_reducible refine w_isi_int_bl ?_
    | with_reducible refine w_isi_int_str ?_
    | with_reducible refine w_isi_int_non ?_
    | with_reducible refine w_isi_bool_int ?_
    | with_reducible refine w_isi_bool_bl ?_
    | with_reducible refine w_isi_bool_str ?_
    | with_reducible refine w_isi_bool_non ?_
    | with_reducible refine w_isi_str_int ?_
    | with_reducible refine w_isi_str_bl ?_
    | with_reducible refine w_isi_str_str ?_
    | with_reducible refine w_isi_str_non ?_
    | with_reducible refine w_isi_list_int ?_
    | with_reducible refine w_isi_list_bl ?_
    | with_reducible refine w_isi_list_str ?_
    | with_reducible refine w_isi_list_non ?_
    | with_reducible refine w_isi_tuple_int ?_
    | with_reducible refine w_isi_tuple_bl ?_
    | with_reducible refine w_isi_tuple_str ?_
    | with_reducible refine w_isi_tuple_non ?_
    | with_reducible refine w_is_int ?_
    | with_reducible refine w_isnt_int ?_
    | with_reducible refine w_is_bl ?_
    | with_reducible refine w_isnt_bl ?_
    | with_reducible refine w_is_str ?_
    | with_reducible refine w_isnt_str ?_
    | with_reducible refine w_is_non ?_
    | with_reducible refine w_isnt_non ?_
    | with_reducible refine w_is_ref ?_
    | with_reducible refine w_isnt_ref ?_
    | ((with_reducible refine w_asT ?e ?_); (case e => walk_at "te"); intro _ _)
    | ((with_reducible refine w_onT ?e ?_); (case e => walk_at "te"); intro _ _)
    | ((with_reducible refine w_asF ?e ?_); (case e => walk_at "te"))
    | ((with_reducible refine w_onF ?e ?_); (case e => walk_at "te"))
    | ((with_reducible apply w_isE); (· walk_at "xc"); (· walk_at "kt"))
    | ((with_reducible apply w_lenL); (· walk_at "hk"))
    | ((with_reducible apply w_lenT); (· walk_at "hk"))
    | ((with_reducible apply w_bmL); (· walk_at "hk"))
    | ((with_reducible refine w_rng1v ?h1 ?h2 ?_); (case h1 => (first | omega | (simp only [List.length_map] at *; omega))); (case h2 => (first | omega | (simp only [List.length_map] at *; omega))))
    | ((with_reducible refine w_rng2v ?h1 ?_); (case h1 => (first | omega | (simp only [List.length_map] at *; omega))))
    | ((with_reducible apply w_ixI); (· walk_at "hk"); (· (first | omega | (simp only [List.length_map] at *; omega))))
    | ((with_reducible apply w_ixTI); (· walk_at "hk"); (· (first | omega | (simp only [List.length_map] at *; omega))))
    | ((with_reducible apply w_ixBl); (· walk_at "hk"); (· (first | omega | (simp only [List.length_map] at *; omega))))
    | ((with_reducible apply w_getI2); (· walk_at "hk"); (· (first | omega | (simp only [List.length_map] at *; omega))))
    | ((with_reducible apply w_ixTl); (· walk_at "hk"); (· rfl); (· decide))
    | ((with_reducible apply w_ixLl); (· walk_at "hk"); (· rfl); (· decide))
    | ((with_reducible apply w_appI); (· walk_at "hk"); (· (first | omega | (simp only [List.length_append, List.length_cons, List.length_nil]; omega))))
    | ((with_reducible apply w_iListv); (· walk_at "hk"))
    | ((with_reducible apply w_iTupv); (· walk_at "hk"))
    | ((with_reducible apply w_iRevv); (· walk_at "hk"))
    | ((with_reducible apply w_iEnumv); (· walk_at "hk"))
    | ((with_reducible apply w_iZipv); (· walk_at "hk"); (· walk_at "hk"))
    | ((with_reducible apply w_dget2v); (· walk_at "hk"))
    | ((with_reducible apply w_dget1v); (· walk_at "hk"))
    | ((with_reducible apply w_dpop1v); (· walk_at "hk"))
    | ((with_reducible apply w_getI); (· walk_at "hk"))
    | ((with_reducible apply w_inD); (· walk_at "hk"))
    | ((with_reducible apply w_ninD); (· walk_at "hk"))
    | ((with_reducible apply w_rep1); (· walk_at "hk"); (· (first | omega | (simp only [List.length_append, List.length_cons, List.length_nil, List.length_take, List.length_drop, List.length_replicate, List.length_map, List.length_range] at *; omega) | (simp only [List.length_append, List.length_cons, List.length_nil, List.length_take, List.length_drop, List.length_replicate, List.length_map, List.length_range]; omega) | decide)); (· (first | omega | (simp only [List.length_append, List.length_cons, List.length_nil, List.length_take, List.length_drop, List.length_replicate, List.length_map, List.length_range] at *; omega) | (simp only [List.length_append, List.length_cons, List.length_nil, List.length_take, List.length_drop, List.length_replicate, List.length_map, List.length_range]; omega) | decide)); intro _ _)
    | ((with_reducible apply w_gtup2); (· walk_at "hk"))
    | ((with_reducible apply w_gtup3); (· walk_at "hk"))
    | ((with_reducible apply w_gtup4); (· walk_at "hk"))
    | ((with_reducible refine w_newD ?_); intro _ _)
    | ((with_reducible apply w_augsub); (· walk_at "hk"); (· rfl); (· exact Nat.le_of_ble_eq_true rfl))
    | ((with_reducible apply w_augadd); (· walk_at "hk"); (· rfl); (· exact Nat.le_of_ble_eq_true rfl))
    | ((with_reducible apply w_fldv); (· walk_at "hk"); (· rfl))
    | ((with_reducible apply w_methv); (· walk_at "hk"); (· rfl))
    | ((with_reducible apply w_setfv); (· walk_at "hk"); (· exact Nat.le_of_ble_eq_true rfl); (· rfl))
    | walk_at "x"))
/-- the addresses that the readings speak of -/
structure Ex where
  (LaminaError NotValid PowerOff NoProcess BadHandle NoVolume ReadOnly BadName Missing WrongKind Exists LoopFound CrossVolume Busy NotEmpty TooMany TooLong OverQuota NoSpace BadImage : Addr := 0)
  (Disk Head Space Store OpenFiles Handles Processes Log Accounts Session System : Addr := 0)
  (POINTER_KINDS MODES LENGTHS : Addr := 0)
/-- what is known of the exceptions' classes -/
structure Fa (K : PySem.W.Frag) (C : Ex) : Prop where
  fa0 : True
  te_NotValid_PowerOff : PySem.W.exmOne K (.ref C.NotValid) (.ref C.PowerOff) = some false
  te_PowerOff_PowerOff : PySem.W.exmOne K (.ref C.PowerOff) (.ref C.PowerOff) = some true
  te_NoSpace_PowerOff : PySem.W.exmOne K (.ref C.NoSpace) (.ref C.PowerOff) = some false
  te_BadImage_PowerOff : PySem.W.exmOne K (.ref C.BadImage) (.ref C.PowerOff) = some false
local macro_rules | `(tactic| walk_at "te") => `(tactic| first | exact Fa.te_NotValid_PowerOff (by assumption) | exact Fa.te_PowerOff_PowerOff (by assumption) | exact Fa.te_NoSpace_PowerOff (by assumption) | exact Fa.te_BadImage_PowerOff (by assumption))
def S0 (f : Hp → VK → XK → Prop) : Sp := fun vs H Q E => vs = [] ∧ f H Q E
def S1 (f : V → Hp → VK → XK → Prop) : Sp := fun vs H Q E => ∃ a, vs = [a] ∧ f a H Q E
def S2 (f : V → V → Hp → VK → XK → Prop) : Sp := fun vs H Q E => ∃ a b, vs = [a, b] ∧ f a b H Q E
def S3 (f : V → V → V → Hp → VK → XK → Prop) : Sp := fun vs H Q E => ∃ a b c, vs = [a, b, c] ∧ f a b c H Q E
def S4 (f : V → V → V → V → Hp → VK → XK → Prop) : Sp := fun vs H Q E => ∃ a b c d, vs = [a, b, c, d] ∧ f a b c d H Q E
def S5 (f : V → V → V → V → V → Hp → VK → XK → Prop) : Sp := fun vs H Q E => ∃ a b c d e, vs = [a, b, c, d, e] ∧ f a b c d e H Q E
section
variable {vs : List V} {H : Hp} {Q : VK} {E : XK} {a b c d e : V}
theorem len1 {f} (h : S1 f vs H Q E) : vs.length = 1 := by obtain ⟨_, rfl, _⟩ := h; rfl
theorem len2 {f} (h : S2 f vs H Q E) : vs.length = 2 := by obtain ⟨_, _, rfl, _⟩ := h; rfl
theorem len3 {f} (h : S3 f vs H Q E) : vs.length = 3 := by obtain ⟨_, _, _, rfl, _⟩ := h; rfl
theorem len4 {f} (h : S4 f vs H Q E) : vs.length = 4 := by obtain ⟨_, _, _, _, rfl, _⟩ := h; rfl
theorem w_S1 {f} (h : f a H Q E) : S1 f [a] H Q E := ⟨a, rfl, h⟩
theorem w_S2 {f} (h : f a b H Q E) : S2 f [a, b] H Q E := ⟨a, b, rfl, h⟩
theorem w_S3 {f} (h : f a b c H Q E) : S3 f [a, b, c] H Q E := ⟨a, b, c, rfl, h⟩
theorem w_S4 {f} (h : f a b c d H Q E) : S4 f [a, b, c, d] H Q E := ⟨a, b, c, d, rfl, h⟩
end
theorem lt_line {n : Nat} (h : n < 10000000) : n < sizeLine := Nat.lt_of_lt_of_le h (by decide)
/-- what isinstance may ask: a scalar, or an object that is a list, a tuple, a dict -/
def Known (K : PySem.W.Frag) (H : Hp) : V → Prop
  | .ref a => ∃ o : Ob, TyX K H (.ref a) (.type o.nm)
  | .byt _ => False
  | .flt _ => False
  | .ty _ => False
  | _ => True
abbrev spLaw (K : PySem.W.Frag) : Sp := S1 fun a H Q _ => ∃ (p : Addr) (ns : List Int), a = .ref p ∧ SqL K H p (ns.map V.int) ∧ ns.length ≤ 63 ∧ ∀ H', Q (.bl true) H'
/-- an item of a mapped list -/
theorem at_int {ns : List Int} {i : Nat} {x : V} (h : (ns.map V.int)[i]? = some x) : ∃ n, ns[i]? = some n ∧ x = .int n := by
  rw [List.getElem?_map] at h
  cases e : ns[i]? with
  | none => rw [e] at h; cases h
  | some n => rw [e] at h; exact ⟨n, rfl, (Option.some.inj h).symm⟩
theorem int_at {ns : List Int} {i : Nat} (h : i < ns.length) : (ns.map V.int)[i]? = some (.int (ns.getD i 0)) := by
  rw [List.getElem?_map, List.getElem?_eq_getElem h, List.getD_eq_getElem?_getD, List.getElem?_eq_getElem h]
  rfl
theorem tyx_list {K : PySem.W.Frag} {H : Hp} {p : Addr} {xs : List V} (h : SqL K H p xs) : TyX K H (.ref p) (.type U.Ob.list.nm) := by
  rcases h with (h | ⟨o, h⟩) | ⟨o, its, n, e, c, _⟩
  · exact .base (.lst h)
  · exact .base (.frz h)
  · exact .kList e c
theorem w_isi_list_L {K : PySem.W.Frag} {H : Hp} {Q : VK} {p : Addr} {xs : List V} (e : SqL K H p xs) (h : Q (.bl true) H) : uIsi K .list [.ref p, .ty "list"] H Q := ⟨rfl, .list, tyx_list e, h⟩
/-- a value that is known not to be a list -/
def NoList (K : PySem.W.Frag) (H : Hp) : V → Prop
  | .ref a => ∃ o : U.Ob, o ≠ .list ∧ TyX K H (.ref a) (.type o.nm)
  | .byt _ => False
  | .flt _ => False
  | .ty _ => False
  | _ => True
theorem all_take {α : Type} {p : α → Bool} {xs : List α} {i : Nat} {x : α} (h : xs[i]? = some x) (ha : (xs.take i).all p = true) (hx : p x = true) : (xs.take (i + 1)).all p = true := by
  have hb := (List.getElem?_eq_some_iff.mp h)
  obtain ⟨hl, he⟩ := hb
  rw [List.take_succ_eq_append_getElem hl, List.all_append, ha, he]
  simp [hx]
theorem all_not {α : Type} {p : α → Bool} {xs : List α} {i : Nat} {x : α} (h : xs[i]? = some x) (hx : p x = false) : xs.all p = false := by
  rw [List.all_eq_false]
  exact ⟨x, List.mem_of_getElem? h, by simp [hx]⟩
theorem take_snoc {α : Type} {l : List α} {i : Nat} {c : α} (h : l[i]? = some c) : l.take (i + 1) = l.take i ++ [c] := by
  obtain ⟨hl, he⟩ := List.getElem?_eq_some_iff.mp h
  rw [List.take_succ_eq_append_getElem hl, he]
def isWord : V → Bool
  | .int i => decide (0 ≤ i)
  | _ => false
def sp_is_word (K : PySem.W.Frag) (_ : Ex) : Sp := S1 fun a H Q _ => Known K H a ∧ Q (.bl (isWord a)) H
def t_is_word (K : PySem.W.Frag) (C : Ex) (E : XK) : TS :=
  tSeq (tIfS (tOr (tNot (uTru K (tCB (uIsi K .int) (tCons (tVar 0) (tCons (tC (.ty "int")) (tNil)))))) (uTru K (tCB (uIsi K .bool) (tCons (tVar 0) (tCons (tC (.ty "bool")) (tNil)))))) (tRet (tC (.bl false))) (tNext))
  (tRet (tOp (uGe K) (tVar 0) (tC (.int 0))))
theorem pure_is_word {K : PySem.W.Frag} {C : Ex} {vs : List V} {H : Hp} {Q : VK} {E : XK} (F : Fa K C) (h : sp_is_word K C vs H Q E) : t_is_word K C E { nx := fun _ H' => Q .non H', rt := Q } (start ["value"] vs) H := by
  obtain ⟨a, rfl, hk, k⟩ := h
  unfold t_is_word
  cases a with
  | non => walk_at "run"; exact k
  | bl b => walk_at "run"; exact k
  | int i => walk_at "run"; exact k
  | str z => walk_at "run"; exact k
  | ref p =>
    obtain ⟨o, ho⟩ := hk
    walk_at "run1"
    refine ⟨rfl, o, ho, ?_⟩
    cases o <;> (walk_at "run"; exact k)
  | _ => exact hk.elim
def btw (lo hi : Int) : V → Bool
  | .int i => decide (lo ≤ i) && decide (i ≤ hi)
  | _ => false
theorem btw_i (lo hi i : Int) : btw lo hi (.int i) = (decide (lo ≤ i) && decide (i ≤ hi)) := rfl
def sp_is_between (K : PySem.W.Frag) (_ : Ex) : Sp := S3 fun a b c H Q _ => ∃ lo hi : Int, b = .int lo ∧ c = .int hi ∧ Known K H a ∧ Q (.bl (btw lo hi a)) H
def t_is_between (K : PySem.W.Frag) (C : Ex) (E : XK) : TS :=
  tSeq (tIfS (tOr (tNot (uTru K (tCB (uIsi K .int) (tCons (tVar 0) (tCons (tC (.ty "int")) (tNil)))))) (uTru K (tCB (uIsi K .bool) (tCons (tVar 0) (tCons (tC (.ty "bool")) (tNil)))))) (tRet (tC (.bl false))) (tNext))
  (tRet (tChain (uLe K) (uLe K) (tVar 1) (tVar 0) (tVar 2)))
theorem pure_is_between {K : PySem.W.Frag} {C : Ex} {vs : List V} {H : Hp} {Q : VK} {E : XK} (F : Fa K C) (h : sp_is_between K C vs H Q E) : t_is_between K C E { nx := fun _ H' => Q .non H', rt := Q } (start ["value", "low", "high"] vs) H := by
  obtain ⟨a, b, c, rfl, lo, hi, rfl, rfl, hk, k⟩ := h
  unfold t_is_between
  cases a with
  | non => walk_at "run"; exact k
  | bl b => walk_at "run"; exact k
  | int i =>
    walk_at "run1"
    · rename_i h
      rw [btw_i, decide_eq_true h, Bool.true_and] at k
      exact k
    · walk_at "run1"
      rename_i h
      rw [btw_i, decide_eq_false h, Bool.false_and] at k
      exact k
  | str z => walk_at "run"; exact k
  | ref p =>
    obtain ⟨o, ho⟩ := hk
    walk_at "run1"
    refine ⟨rfl, o, ho, ?_⟩
    cases o <;> (walk_at "run"; exact k)
  | _ => exact hk.elim
theorem btw_int {lo hi i : Int} (h1 : lo ≤ i) (h2 : i ≤ hi) : btw lo hi (.int i) = true := by rw [btw_i, decide_eq_true h1, decide_eq_true h2]; rfl
theorem btw_inv {lo hi : Int} {v : V} (h : btw lo hi v = true) : ∃ i, v = .int i ∧ lo ≤ i ∧ i ≤ hi := by
  cases v <;> first | (cases h; done) | skip
  rename_i i
  exact ⟨i, rfl, of_decide_eq_true (Bool.and_eq_true_iff.mp h).1, of_decide_eq_true (Bool.and_eq_true_iff.mp h).2⟩
def sp_are_words (K : PySem.W.Frag) (_ : Ex) : Sp := S2 fun a b H Q _ => ∃ m : Int, b = .int m ∧
  ((∃ p xs, a = .ref p ∧ SqL K H p xs ∧ (∀ x ∈ xs, Known K H x) ∧ Q (.bl (decide ((xs.length : Int) = m) && xs.all isWord)) H) ∨ (NoList K H a ∧ Q (.bl false) H))
def t_are_words (K : PySem.W.Frag) (C : Ex) (E : XK) : TS :=
  tSeq (tIfS (tOr (tNot (uTru K (tCB (uIsi K .list) (tCons (tVar 0) (tCons (tC (.ty "list")) (tNil)))))) (tTest (tOp (uNe K) (tCB (uLen K) (tCons (tVar 0) (tNil))) (tVar 1)))) (tRet (tC (.bl false))) (tNext))
  (tSeq (tFor (iList K (tVar 0)) (gName 2)
  (tIfS (tNot (uTru K (uCall (sp_is_word K C) (WB E) (tCons (tVar 2) (tNil))))) (tRet (tC (.bl false))) (tNext)))
  (tRet (tC (.bl true))))
theorem pure_are_words {K : PySem.W.Frag} {C : Ex} {vs : List V} {H : Hp} {Q : VK} {E : XK} (F : Fa K C) (h : sp_are_words K C vs H Q E) : t_are_words K C E { nx := fun _ H' => Q .non H', rt := Q } (start ["values", "many", "value"] vs) H := by
  obtain ⟨a, b, rfl, m, rfl, ⟨p, xs, rfl, hS, hk, k⟩ | ⟨hn, k⟩⟩ := h
  · unfold t_are_words
    walk_at "run1"
    refine w_isi_list_L hS ?_
    walk_at "run1"
    · walk_at "run1"
      rename_i hne
      rw [decide_eq_false hne] at k
      exact k
    · walk_at "run1"
      rename_i he
      refine f_list (xs := xs) (fun i σ H' => H' = H ∧ (∃ v, σ = [some (.ref p), some (.int m), v]) ∧ (xs.take i).all isWord = true) ⟨rfl, ⟨none, rfl⟩, rfl⟩ (by rintro i σ H' _ ⟨rfl, _⟩; exact hS) ?_ ?_
      · rintro i x σ H' hx ⟨rfl, ⟨v, rfl⟩, ha⟩
        walk_at "run1"
        refine w_S1 ⟨hk x (List.mem_of_getElem? hx), ?_⟩
        walk_at "run1"
        refine ifBN (fun hf => ?_) (fun ht => ?_)
        · walk_at "run1"
          rw [all_not hx hf, Bool.and_false] at k
          exact k
        · walk_at "run1"
          exact ⟨rfl, ⟨_, rfl⟩, all_take hx ha ht⟩
      · rintro σ H' ⟨rfl, ⟨v, rfl⟩, ha⟩
        walk_at "run1"
        rw [List.take_length] at ha
        rw [ha, decide_eq_true he] at k
        exact k
  · unfold t_are_words
    cases a with
    | ref p =>
      obtain ⟨o, ho, ht⟩ := hn
      walk_at "run1"
      refine ⟨rfl, o, ht, ?_⟩
      cases o with
      | list => exact absurd rfl ho
      | _ => walk_at "run"; exact k
    | byt _ => exact hn.elim
    | flt _ => exact hn.elim
    | ty _ => exact hn.elim
    | _ => walk_at "run"; exact k
def TapeOk (ts : List Int) : Prop := (∀ t ∈ ts, 0 ≤ t ∧ t < 1000) ∧ ts.length ≤ 3780
theorem TapeOk.app {ts : List Int} {z : Int} (h : ∀ t ∈ ts, 0 ≤ t ∧ t < 1000) (h0 : 0 ≤ z) (h1 : z < 1000) : ∀ t ∈ ts ++ [z], 0 ≤ t ∧ t < 1000 := by
  intro t ht
  rcases List.mem_append.mp ht with ht | ht
  · exact h t ht
  · rw [List.mem_singleton.mp ht]; exact ⟨h0, h1⟩
def sp__law_tape (K : PySem.W.Frag) (_ : Ex) : Sp := S1 fun a H Q _ => ∃ (p : Addr) (ns : List Int), a = .ref p ∧ SqL K H p (ns.map V.int) ∧ ns.length ≤ 63 ∧
  ∀ H' l ts, Same H H' → H l = none → H' l = some (.lst (ts.map V.int)) → TapeOk ts → Q (.ref l) H'
def t__law_tape (K : PySem.W.Frag) (C : Ex) (E : XK) : TS :=
  tSeq (tAsg (tLst (tNil)) (gName 1))
  (tSeq (tFor (iRng1 (tCons (tCB (uLen K) (tCons (tVar 0) (tNil))) (tNil))) (gName 2)
  (tSeq (tAsg (tCB (uAbs) (tCons (tCB (uInt) (tCons (tOp (uIx K) (tVar 0) (tVar 2)) (tNil))) (tNil))) (gName 3))
  (tIfS (tTest (tOp (uGe K) (tVar 3) (tOp (uPow) (tC (.int 10)) (tC (.int 18))))) (tFor (iRng1 (tCons (tC (.int 60)) (tNil))) (gName 4)
  (tIfS (tTest (tOp (uGt) (tVar 3) (tC (.int 0)))) (tSeq (tDrop (tBM K "list" (rAppend) (tVar 1) (tCons (tOp (uMod) (tVar 3) (tC (.int 1000))) (tNil))))
  (tAsg (tOp (uDiv) (tVar 3) (tC (.int 1000))) (gName 3))) (tNext))) (tFor (iRng1 (tCons (tC (.int 4)) (tNil))) (gName 4)
  (tSeq (tAsg (tOp (uMod) (tOp (uAdd K) (tOp (uAdd K) (tOp (uMul) (tVar 3) (tC (.int 48271))) (tOp (uMul) (tC (.int 69621)) (tOp (uAdd K) (tVar 2) (tC (.int 1))))) (tOp (uMul) (tC (.int 7)) (tVar 4))) (tC (.int 2147483647))) (gName 3))
  (tSeq (tAsg (tOp (uMod) (tOp (uMul) (tVar 3) (tC (.int 16807))) (tC (.int 2147483647))) (gName 3))
  (tDrop (tBM K "list" (rAppend) (tVar 1) (tCons (tOp (uMod) (tOp (uDiv) (tVar 3) (tC (.int 1000))) (tC (.int 1000))) (tNil))))))))))
  (tRet (tVar 1)))
theorem pure__law_tape {K : PySem.W.Frag} {C : Ex} {vs : List V} {H : Hp} {Q : VK} {E : XK} (F : Fa K C) (h : sp__law_tape K C vs H Q E) : t__law_tape K C E { nx := fun _ H' => Q .non H', rt := Q } (start ["_law_script", "_law_tape_here", "_law_k", "_law_value", "_law_step"] vs) H := by
  obtain ⟨a, rfl, p, ns, rfl, hS, hn, k⟩ := h
  unfold t__law_tape
  walk_at "run1"
  rename_i l hl
  refine f_range (fun i σ H' => ∃ v2 v3 v4 ts, σ = [some (.ref p), some (.ref l), v2, v3, v4] ∧ Same H H' ∧ H' l = some (.lst (ts.map V.int)) ∧ (∀ t ∈ ts, 0 ≤ t ∧ t < 1000) ∧ ts.length ≤ 60 * i)
    ⟨none, none, none, [], rfl, same_new hl, upd_same, by simp, Nat.zero_le _⟩ ?_ ?_
  · rintro i σ H1 hi ⟨v2, v3, v4, ts, rfl, hs, hl1, ht, hz⟩
    have hi' : i < ns.length := by simp only [List.length_map] at hi; omega
    have hS1 := hs.seq hS
    walk_at "run1"
    · have h0 : 0 ≤ (if ns.getD (0 + (i : Int)).toNat 0 < 0 then -ns.getD (0 + (i : Int)).toNat 0 else ns.getD (0 + (i : Int)).toNat 0) := by split <;> omega
      generalize (if ns.getD (0 + (i : Int)).toNat 0 < 0 then -ns.getD (0 + (i : Int)).toNat 0 else ns.getD (0 + (i : Int)).toNat 0) = z at *
      refine f_range (fun j σ H' => ∃ (z : Int) (v4 : Option V) (ts : List Int), σ = [some (.ref p), some (.ref l), some (.int (0 + (i : Int))), some (.int z), v4] ∧ 0 ≤ z ∧ Same H H' ∧ H' l = some (.lst (ts.map V.int)) ∧ (∀ t ∈ ts, 0 ≤ t ∧ t < 1000) ∧ ts.length ≤ 60 * i + j)
        ⟨z, v4, ts, rfl, h0, hs, hl1, ht, hz⟩ ?_ ?_
      · rintro j σ H2 hj ⟨z, v4, ts, rfl, hz0, hs, hl1, ht, hz⟩
        have hj' : j < 60 := hj
        walk_at "run1"
        · exact ⟨_, _, _, rfl, by omega, same_upd hs hl, upd_same, TapeOk.app ht (by omega) (by omega), by simp only [List.length_append, List.length_cons, List.length_nil]; omega⟩
        · walk_at "run1"
          exact ⟨_, _, _, rfl, by omega, hs, hl1, ht, by omega⟩
      · rintro σ H2 ⟨z, v4, ts, rfl, hz0, hs, hl1, ht, hz⟩
        exact ⟨_, _, _, _, rfl, hs, hl1, ht, by have : (60 : Int).toNat = 60 := rfl; omega⟩
    · have h0 : 0 ≤ (if ns.getD (0 + (i : Int)).toNat 0 < 0 then -ns.getD (0 + (i : Int)).toNat 0 else ns.getD (0 + (i : Int)).toNat 0) := by split <;> omega
      generalize (if ns.getD (0 + (i : Int)).toNat 0 < 0 then -ns.getD (0 + (i : Int)).toNat 0 else ns.getD (0 + (i : Int)).toNat 0) = z at *
      have h18 : z < 10 ^ 18 := by
        have e : (18 : Int).toNat = 18 := rfl
        rename_i hne
        rw [e] at hne
        omega
      walk_at "run1"
      refine f_range (fun j σ H' => ∃ (z : Int) (v4 : Option V) (ts : List Int), σ = [some (.ref p), some (.ref l), some (.int (0 + (i : Int))), some (.int z), v4] ∧ (0 ≤ z ∧ z < 10 ^ 18) ∧ Same H H' ∧ H' l = some (.lst (ts.map V.int)) ∧ (∀ t ∈ ts, 0 ≤ t ∧ t < 1000) ∧ ts.length ≤ 60 * i + j)
        ⟨z, v4, ts, rfl, ⟨h0, h18⟩, hs, hl1, ht, hz⟩ ?_ ?_
      · rintro j σ H2 hj ⟨z, v4, ts, rfl, hz0, hs, hl1, ht, hz⟩
        have hj' : j < 4 := hj
        walk_at "run1"
        exact ⟨_, _, _, rfl, by omega, same_upd hs hl, upd_same, TapeOk.app ht (by omega) (by omega), by simp only [List.length_append, List.length_cons, List.length_nil]; omega⟩
      · rintro σ H2 ⟨z, v4, ts, rfl, hz0, hs, hl1, ht, hz⟩
        exact ⟨_, _, _, _, rfl, hs, hl1, ht, by have : (4 : Int).toNat = 4 := rfl; omega⟩
  · rintro σ H1 ⟨v2, v3, v4, ts, rfl, hs, hl1, ht, hz⟩
    walk_at "run1"
    exact k _ _ ts hs hl hl1 ⟨ht, by simp only [List.length_map] at hz; omega⟩
def sp__law_at (K : PySem.W.Frag) (_ : Ex) : Sp := S2 fun a b H Q _ => ∃ (p : Addr) (ts : List Int) (k : Int), a = .ref p ∧ b = .int k ∧ SqL K H p (ts.map V.int) ∧ 0 ≤ k ∧ Q (.int (ts.getD k.toNat 0)) H
def t__law_at (K : PySem.W.Frag) (C : Ex) (E : XK) : TS :=
  tSeq (tIfS (tTest (tOp (uLt K) (tVar 1) (tCB (uLen K) (tCons (tVar 0) (tNil))))) (tRet (tOp (uIx K) (tVar 0) (tVar 1))) (tNext))
  (tRet (tC (.int 0)))
theorem pure__law_at {K : PySem.W.Frag} {C : Ex} {vs : List V} {H : Hp} {Q : VK} {E : XK} (F : Fa K C) (h : sp__law_at K C vs H Q E) : t__law_at K C E { nx := fun _ H' => Q .non H', rt := Q } (start ["_law_tape_here", "_law_k"] vs) H := by
  obtain ⟨a, b, rfl, p, ts, k, rfl, rfl, hS, hk, q⟩ := h
  unfold t__law_at
  walk_at "run1"
  · walk_at "run1"
    exact q
  · walk_at "run1"
    rename_i hlt
    rw [List.getD_eq_getElem?_getD, List.getElem?_eq_none (by simp only [List.length_map] at hlt; omega)] at q
    exact q
theorem TapeOk.at {ts : List Int} (h : TapeOk ts) (k : Nat) : 0 ≤ ts.getD k 0 ∧ ts.getD k 0 < 1000 := by
  rw [List.getD_eq_getElem?_getD]
  cases e : ts[k]? with
  | none => exact ⟨Int.le_refl 0, by decide⟩
  | some z => exact h.1 z (List.mem_of_getElem? e)
theorem u__law_at {K : PySem.W.Frag} {C : Ex} {H : Hp} {Q : VK} {E : XK} {p : Addr} {ts : List Int} {k : Int} (e : SqL K H p (ts.map V.int)) (h0 : 0 ≤ k) (h : Q (.int (ts.getD k.toNat 0)) H) : sp__law_at K C [.ref p, .int k] H Q E := w_S2 ⟨p, ts, k, rfl, rfl, e, h0, h⟩
local macro_rules | `(tactic| walk_at "x") => `(tactic| ((with_reducible apply u__law_at); (· walk_at "hk"); (· omega)))
/-- of the objects of H all but those of S stand in H'; S' is of S or new -/
def Stp (S : List Addr) (H : Hp) (S' : List Addr) (H' : Hp) : Prop := (∀ b o, H b = some o → b ∉ S → H' b = some o) ∧ ∀ b ∈ S', b ∈ S ∨ H b = none
theorem Stp.refl {S : List Addr} {H : Hp} : Stp S H S H := ⟨fun _ _ h _ => h, fun _ h => .inl h⟩
theorem Stp.trans {S S1 S2 : List Addr} {H H1 H2 : Hp} (x : Stp S H S1 H1) (y : Stp S1 H1 S2 H2) : Stp S H S2 H2 := by
  refine ⟨fun b o h n => y.1 b o (x.1 b o h n) fun q => ?_, fun b hb => ?_⟩
  · rcases x.2 b q with z | z
    · exact n z
    · rw [h] at z; cases z
  · rcases y.2 b hb with q | q
    · exact x.2 b q
    · by_cases n : b ∈ S
      · exact .inl n
      · cases e : H b with
        | none => exact .inr rfl
        | some o => rw [x.1 b o e n] at q; cases q
theorem Stp.same {S : List Addr} {H H' : Hp} (s : Same H H') : Stp S H S H' := ⟨fun b o h _ => s b o h, fun _ h => .inl h⟩
theorem Stp.upd {S : List Addr} {H H' : Hp} {p : Addr} {o : HO} (x : Stp S H S H') (h : p ∈ S) : Stp S H S (upd H' p o) :=
  ⟨fun b w e n => by rw [upd_ne (fun q => n (by rw [q]; exact h))]; exact x.1 b w e n, x.2⟩
theorem Stp.new {S : List Addr} {H H' : Hp} {p : Addr} {o : HO} (x : Stp S H S H') (h : H' p = none) : Stp S H S (L2.upd H' p o) := x.trans (.same (same_new h))
theorem Stp.fresh {S S' : List Addr} {H H' : Hp} {p : Addr} (x : Stp S H S' H') (n : H' p = none) : p ∈ S ∨ H p = none := by
  by_cases q : p ∈ S
  · exact .inl q
  · cases e : H p with
    | none => exact .inr rfl
    | some o => rw [x.1 p o e q] at n; cases n
theorem Stp.keep {S S' : List Addr} {H H' : Hp} {b : Addr} {o : HO} (x : Stp S H S' H') (h : H b = some o) (n : b ∉ S) : H' b = some o ∧ b ∉ S' :=
  ⟨x.1 b o h n, fun q => (x.2 b q).elim n fun z => by rw [h] at z; cases z⟩
theorem Stp.toSame {S S' : List Addr} {H0 H H' : Hp} (x : Stp S H S' H') (hn : ∀ b ∈ S, H0 b = none) (s : Same H0 H) : Same H0 H' ∧ ∀ b ∈ S', H0 b = none :=
  ⟨fun b o h => x.1 b o (s b o h) fun q => (by rw [hn b q] at h; cases h), fun b q => (x.2 b q).elim (hn b) fun z => s.free z⟩
/-- a list of eight words -/
def RowAt (H : Hp) (v : V) (r : List Int) : Prop := r.length = 8 ∧ ∃ p, v = .ref p ∧ H p = some (.lst (r.map V.int))
def AllRef (vs : List V) : Prop := ∀ x ∈ vs, ∃ p, x = V.ref p
theorem row_ne {r : List Int} {vs : List V} (h : r.length = 8) (hv : AllRef vs) : HO.lst (r.map V.int) ≠ HO.lst vs := by
  intro e
  have e := HO.lst.inj e
  cases r with
  | nil => cases h
  | cons z r =>
    obtain ⟨p, q⟩ := hv (.int z) (by rw [← e]; exact List.mem_cons_self ..)
    cases q
theorem RowAt.same {H H' : Hp} {v : V} {r : List Int} (x : RowAt H v r) (s : Same H H') : RowAt H' v r := by
  obtain ⟨l, p, rfl, h⟩ := x
  exact ⟨l, p, rfl, s _ _ h⟩
theorem RowAt.upd {H : Hp} {v : V} {r : List Int} {q : Addr} {o u : HO} (x : RowAt H v r) (h : H q = some u) (n : r.length = 8 → HO.lst (r.map V.int) ≠ u) : RowAt (upd H q o) v r := by
  obtain ⟨l, p, rfl, e⟩ := x
  exact ⟨l, p, rfl, by rw [upd_ne (ne_of e h (n l))]; exact e⟩
/-- what may be written without a row's loss -/
def NoRow (u : HO) : Prop := ∀ r : List Int, r.length = 8 → HO.lst (r.map V.int) ≠ u
theorem noRow_ins {C dx : Addr} {fs : List (Str × V)} : NoRow (.ins C dx fs) := fun _ _ e => nomatch e
theorem noRow_dK {kvs : List (Key × V)} : NoRow (.dK kvs) := fun _ _ e => nomatch e
theorem noRow_refs {vs : List V} (h : AllRef vs) : NoRow (.lst vs) := fun _ l => row_ne l h
def RowsAt (H : Hp) (vs : List V) (rs : List (List Int)) : Prop := vs.length = rs.length ∧ ∀ (i : Nat) v, vs[i]? = some v → ∃ r, rs[i]? = some r ∧ RowAt H v r
theorem RowsAt.ref {H : Hp} {vs : List V} {rs : List (List Int)} (x : RowsAt H vs rs) : AllRef vs := fun v hv => by
  obtain ⟨i, hi⟩ := List.getElem?_of_mem hv
  obtain ⟨r, _, _, p, e, _⟩ := x.2 i v hi
  exact ⟨p, e⟩
theorem RowsAt.map {H H' : Hp} {vs : List V} {rs : List (List Int)} (x : RowsAt H vs rs) (f : ∀ v r, RowAt H v r → RowAt H' v r) : RowsAt H' vs rs := ⟨x.1, fun i v h => by
  obtain ⟨r, e, y⟩ := x.2 i v h
  exact ⟨r, e, f v r y⟩⟩
theorem RowsAt.same {H H' : Hp} {vs : List V} {rs : List (List Int)} (x : RowsAt H vs rs) (s : Same H H') : RowsAt H' vs rs := x.map fun _ _ y => y.same s
theorem RowsAt.upd {H : Hp} {vs : List V} {rs : List (List Int)} {q : Addr} {o u : HO} (x : RowsAt H vs rs) (h : H q = some u) (n : NoRow u) : RowsAt (upd H q o) vs rs := x.map fun _ r y => y.upd h (n r)
theorem RowsAt.nil {H : Hp} : RowsAt H [] [] := ⟨rfl, fun i v h => by simp at h⟩
theorem RowsAt.snoc {H : Hp} {vs : List V} {rs : List (List Int)} {v : V} {r : List Int} (x : RowsAt H vs rs) (y : RowAt H v r) : RowsAt H (vs ++ [v]) (rs ++ [r]) := by
  refine ⟨by rw [List.length_append, List.length_append, x.1]; rfl, fun i w h => ?_⟩
  rcases Nat.lt_or_ge i vs.length with q | q
  · rw [List.getElem?_append_left q] at h
    obtain ⟨r', e, z⟩ := x.2 i w h
    exact ⟨r', by rw [List.getElem?_append_left (by rw [← x.1]; exact q)]; exact e, z⟩
  · rw [List.getElem?_append_right q] at h
    have hi : i - vs.length = 0 := by
      have := (List.getElem?_eq_some_iff.mp h).1
      simp at this
      omega
    rw [hi] at h
    cases h
    exact ⟨r, by rw [List.getElem?_append_right (by rw [← x.1]; exact q), ← x.1, hi]; rfl, y⟩
theorem RowsAt.set {H : Hp} {vs : List V} {rs : List (List Int)} {v : V} {r : List Int} {j : Nat} (x : RowsAt H vs rs) (y : RowAt H v r) : RowsAt H (vs.set j v) (rs.set j r) := by
  refine ⟨by rw [List.length_set, List.length_set, x.1], fun i w h => ?_⟩
  by_cases q : j = i
  · subst q
    have hl : j < vs.length := by
      have := (List.getElem?_eq_some_iff.mp h).1
      rw [List.length_set] at this
      exact this
    rw [List.getElem?_set_self hl] at h
    cases h
    exact ⟨r, List.getElem?_set_self (by rw [← x.1]; exact hl), y⟩
  · rw [List.getElem?_set_ne q] at h
    obtain ⟨r', e, z⟩ := x.2 i w h
    exact ⟨r', by rw [List.getElem?_set_ne q]; exact e, z⟩
theorem AllRef.snoc {vs : List V} {p : Addr} (h : AllRef vs) : AllRef (vs ++ [.ref p]) := fun x hx => by
  rcases List.mem_append.mp hx with q | q
  · exact h x q
  · exact ⟨p, List.mem_singleton.mp q⟩
/-- eight words -/
def Row8 (r : List Int) : Prop := r.length = 8 ∧ ∀ z ∈ r, 0 ≤ z
theorem Row8.set {r : List Int} {i : Nat} {z : Int} (h : Row8 r) (hz : 0 ≤ z) : Row8 (r.set i z) := ⟨by rw [List.length_set]; exact h.1, fun y hy => by
  rcases List.mem_or_eq_of_mem_set hy with q | q
  · exact h.2 y q
  · rw [q]; exact hz⟩
theorem getD_nn {l : List Int} (h : ∀ z ∈ l, 0 ≤ z) (k : Nat) : 0 ≤ l.getD k 0 := by
  rw [List.getD_eq_getElem?_getD]
  cases e : l[k]? with
  | none => exact Int.le_refl 0
  | some z => exact h z (List.mem_of_getElem? e)
/-- a heap without some addresses -/
def msk (S : List Addr) (H : Hp) : Hp := fun b => if b ∈ S then none else H b
theorem msk_at {S : List Addr} {H : Hp} {b : Addr} {o : HO} (h : H b = some o) (n : b ∉ S) : msk S H b = some o := by unfold msk; rw [if_neg n]; exact h
theorem msk_none {S : List Addr} {H : Hp} {b : Addr} (h : b ∈ S) : msk S H b = none := by unfold msk; rw [if_pos h]
theorem msk_same {S : List Addr} {H : Hp} : Same (msk S H) H := fun b o h => by
  unfold msk at h
  split at h
  · cases h
  · exact h
structure DiskS where
  blocks : Int
  secs : List (List Int)
  wr : List (Int × List Int)
  left : Option Int
  pw : Bool
def optI : Option Int → V
  | none => .non
  | some i => .int i
theorem optI_n : optI none = .non := rfl
theorem optI_s (z : Int) : optI (some z) = .int z := rfl
/-- what was written to a sector last -/
def lastW : List (Int × List Int) → Int → Option (List Int)
  | [], _ => none
  | (t, r) :: w, s => match lastW w s with
    | some q => some q
    | none => if s = t then some r else none
theorem lastW_snoc (w : List (Int × List Int)) (t : Int) (r : List Int) (s : Int) : lastW (w ++ [(t, r)]) s = if s = t then some r else lastW w s := by
  induction w with
  | nil => rfl
  | cons p w ih =>
    obtain ⟨u, q⟩ := p
    show (match lastW (w ++ [(t, r)]) s with | some q => some q | none => if s = u then some q else none) = if s = t then some r else (match lastW w s with | some q => some q | none => if s = u then some q else none)
    rw [ih]
    by_cases h : s = t
    · rw [if_pos h, if_pos h]
    · rw [if_neg h, if_neg h]
def rdS (D : DiskS) (s : Int) : List Int := (lastW D.wr s).getD (D.secs.getD s.toNat [])
def WrAt (H : Hp) (v : V) (s : Int) (r : List Int) : Prop := ∃ t x, v = .ref t ∧ H t = some (.tup [.int s, x]) ∧ RowAt H x r
def WrsAt (H : Hp) (vs : List V) (ws : List (Int × List Int)) : Prop := vs.length = ws.length ∧ ∀ (i : Nat) v, vs[i]? = some v → ∃ s r, ws[i]? = some (s, r) ∧ WrAt H v s r
def NwAt (H : Hp) (kvs : List (Key × V)) (ws : List (Int × List Int)) : Prop := kvs.length ≤ ws.length ∧ (∀ kv ∈ kvs, ∃ s : Int, kv.1 = .inl s) ∧
  ∀ s : Int, (valV kvs (.inl s) = none ∧ lastW ws s = none) ∨ ∃ v r, valV kvs (.inl s) = some v ∧ lastW ws s = some r ∧ RowAt H v r
/-- the disk's own object -/
def dkO (C : Ex) (dx a w n : Addr) (D : DiskS) : HO := .ins C.Disk dx [("blocks", .int D.blocks), ("sectors", .ref a), ("writes", .ref w), ("newest", .ref n), ("left", optI D.left), ("power", .bl D.pw)]
structure DiskAt (C : Ex) (H : Hp) (d a w n : Addr) (D : DiskS) : Prop where
  ins : ∃ dx, H d = some (dkO C dx a w n D)
  sec : ∃ vs, H a = some (.lst vs) ∧ RowsAt H vs D.secs
  wrt : ∃ vs, H w = some (.lst vs) ∧ WrsAt H vs D.wr
  new : ∃ kvs, H n = some (.dK kvs) ∧ NwAt H kvs D.wr
  ne : a ≠ w
/-- sizes and words -/
structure DiskOk (D : DiskS) : Prop where
  bl : 96 ≤ D.blocks ∧ D.blocks ≤ 256
  sz : (D.secs.length : Int) = 4 * D.blocks
  wk : ∀ p ∈ D.wr, 0 ≤ p.1 ∧ p.1 < 4 * D.blocks
  wn : D.wr.length ≤ 100000
theorem WrAt.map {H H' : Hp} {v : V} {s : Int} {r : List Int} (x : WrAt H v s r) (f : ∀ v r, RowAt H v r → RowAt H' v r) (g : ∀ t xs, H t = some (.tup xs) → H' t = some (.tup xs)) : WrAt H' v s r := by
  obtain ⟨t, y, rfl, e, z⟩ := x
  exact ⟨t, y, rfl, g _ _ e, f _ _ z⟩
theorem WrsAt.ref {H : Hp} {vs : List V} {ws : List (Int × List Int)} (x : WrsAt H vs ws) : AllRef vs := fun v hv => by
  obtain ⟨i, hi⟩ := List.getElem?_of_mem hv
  obtain ⟨s, r, _, t, _, e, _⟩ := x.2 i v hi
  exact ⟨t, e⟩
theorem WrsAt.map {H H' : Hp} {vs : List V} {ws : List (Int × List Int)} (x : WrsAt H vs ws) (f : ∀ v r, RowAt H v r → RowAt H' v r) (g : ∀ t xs, H t = some (.tup xs) → H' t = some (.tup xs)) : WrsAt H' vs ws := ⟨x.1, fun i v h => by
  obtain ⟨s, r, e, y⟩ := x.2 i v h
  exact ⟨s, r, e, y.map f g⟩⟩
theorem NwAt.map {H H' : Hp} {kvs : List (Key × V)} {ws : List (Int × List Int)} (x : NwAt H kvs ws) (f : ∀ v r, RowAt H v r → RowAt H' v r) : NwAt H' kvs ws := ⟨x.1, x.2.1, fun s => by
  rcases x.2.2 s with y | ⟨v, r, a, b, c⟩
  · exact .inl y
  · exact .inr ⟨v, r, a, b, f v r c⟩⟩
/-- neither a row nor a tuple -/
def Plain (u : HO) : Prop := NoRow u ∧ ∀ xs, u ≠ .tup xs
theorem plain_ins {C dx : Addr} {fs : List (Str × V)} : Plain (.ins C dx fs) := ⟨noRow_ins, fun _ e => nomatch e⟩
theorem plain_dK {kvs : List (Key × V)} : Plain (.dK kvs) := ⟨noRow_dK, fun _ e => nomatch e⟩
theorem plain_refs {vs : List V} (h : AllRef vs) : Plain (.lst vs) := ⟨noRow_refs h, fun _ e => nomatch e⟩
theorem row_upd {H : Hp} {q : Addr} {o u : HO} (h : H q = some u) (p : Plain u) : ∀ v r, RowAt H v r → RowAt (upd H q o) v r := fun _ r x => x.upd h (p.1 r)
theorem tup_upd {H : Hp} {q : Addr} {o u : HO} (h : H q = some u) (p : Plain u) : ∀ t xs, H t = some (.tup xs) → upd H q o t = some (.tup xs) := fun t xs e => by rw [upd_ne (ne_of e h fun z => p.2 xs z.symm)]; exact e
theorem DiskAt.same {C : Ex} {H H' : Hp} {d a w n : Addr} {D : DiskS} (x : DiskAt C H d a w n D) (s : Same H H') : DiskAt C H' d a w n D := by
  obtain ⟨⟨dx, i⟩, ⟨vs, e1, r1⟩, ⟨ws, e2, r2⟩, ⟨kvs, e3, r3⟩, ne⟩ := x
  exact ⟨⟨dx, s _ _ i⟩, ⟨vs, s _ _ e1, r1.same s⟩, ⟨ws, s _ _ e2, r2.map (fun _ _ y => y.same s) fun _ _ e => s _ _ e⟩, ⟨kvs, s _ _ e3, r3.map fun _ _ y => y.same s⟩, ne⟩
/-- the disk's own object changes -/
theorem DiskAt.fields {C : Ex} {H : Hp} {d a w n dx : Addr} {D D' : DiskS} (x : DiskAt C H d a w n D) (h1 : D'.secs = D.secs) (h2 : D'.wr = D.wr) : DiskAt C (upd H d (dkO C dx a w n D')) d a w n D' := by
  obtain ⟨⟨_, i⟩, ⟨vs, e1, r1⟩, ⟨ws, e2, r2⟩, ⟨kvs, e3, r3⟩, ne⟩ := x
  refine ⟨⟨dx, upd_same⟩, ⟨vs, upd_oth e1 (ne_of e1 i fun z => nomatch z), by rw [h1]; exact r1.map (row_upd i plain_ins)⟩, ⟨ws, upd_oth e2 (ne_of e2 i fun z => nomatch z), by rw [h2]; exact r2.map (row_upd i plain_ins) (tup_upd i plain_ins)⟩, ⟨kvs, upd_oth e3 (ne_of e3 i fun z => nomatch z), by rw [h2]; exact r3.map (row_upd i plain_ins)⟩, ne⟩
/-- the addresses that a disk writes -/
abbrev dkF (d a w n : Addr) : List Addr := [d, a, w, n]
def opA (D : DiskS) : DiskS := if D.left = some 0 then { D with pw := false } else D
def opB (D : DiskS) : DiskS := if D.pw = true then { D with left := D.left.map (· - 1) } else D
def opS (D : DiskS) : DiskS := opB (opA D)
theorem opS_secs (D : DiskS) : (opS D).secs = D.secs ∧ (opS D).wr = D.wr ∧ (opS D).blocks = D.blocks := by
  have a : (opA D).secs = D.secs ∧ (opA D).wr = D.wr ∧ (opA D).blocks = D.blocks := by unfold opA; split <;> exact ⟨rfl, rfl, rfl⟩
  have b : ∀ D : DiskS, (opB D).secs = D.secs ∧ (opB D).wr = D.wr ∧ (opB D).blocks = D.blocks := fun D => by unfold opB; split <;> exact ⟨rfl, rfl, rfl⟩
  exact ⟨(b _).1.trans a.1, (b _).2.1.trans a.2.1, (b _).2.2.trans a.2.2⟩
def sp_Disk_operate (K : PySem.W.Frag) (C : Ex) : Sp := S1 fun x H Q E => ∃ d a w n D, x = .ref d ∧ DiskAt C H d a w n D ∧ ∀ H', DiskAt C H' d a w n (opS D) → (∀ b o, H b = some o → b ≠ d → H' b = some o) →
  ((opS D).pw = true → Q .non H') ∧ ((opS D).pw = false → E (.ref C.PowerOff) none H')
def t_Disk_operate (K : PySem.W.Frag) (C : Ex) (E : XK) : TS :=
  tCut (tIfS (tTest (tOp (uEq K) (uFld C.Disk "left" (tVar 0)) (tC (.int 0)))) (uSetF C.Disk "power" (tVar 0) (tC (.bl false))) (tNext))
  (tSeq (tIfS (tNot (uTru K (uFld C.Disk "power" (tVar 0)))) (uRaise C.PowerOff (WB E)) (tNext))
  (tIfS (tTest (tOp (uIsnt) (uFld C.Disk "left" (tVar 0)) (tC .non))) (uAugF C.Disk "left" rSub (tVar 0) (tC (.int 1))) (tNext)))
theorem pure_Disk_operate {K : PySem.W.Frag} {C : Ex} {vs : List V} {H : Hp} {Q : VK} {E : XK} (F : Fa K C) (h : sp_Disk_operate K C vs H Q E) : t_Disk_operate K C E { nx := fun _ H' => Q .non H', rt := Q } (start ["self"] vs) H := by
  obtain ⟨x, rfl, d, a, w, n, D, rfl, hD, k⟩ := h
  obtain ⟨dx, i⟩ := hD.ins
  unfold t_Disk_operate
  unfold dkO at i
  refine w_cut (fun σ H1 => σ = [some (.ref d)] ∧ DiskAt C H1 d a w n (opA D) ∧ ∀ b o, H b = some o → b ≠ d → H1 b = some o) ?_ ?_
  · cases hl : D.left with
    | none =>
      rw [hl, optI_n] at i
      walk_at "run1"
      rw [show opA D = D by unfold opA; rw [hl, if_neg (by simp)]]
      exact ⟨rfl, hD, fun _ _ h _ => h⟩
    | some z =>
      rw [hl, optI_s] at i
      walk_at "run1"
      · rename_i e
        subst e
        rw [show opA D = { D with pw := false } by unfold opA; rw [if_pos hl]]
        refine ⟨rfl, ?_, fun b o h n => upd_oth h n⟩
        have z := hD.fields (dx := dx) (D' := { D with pw := false }) rfl rfl
        have e : dkO C dx a w n { D with pw := false } = .ins C.Disk dx [("blocks", .int D.blocks), ("sectors", .ref a), ("writes", .ref w), ("newest", .ref n), ("left", .int 0), ("power", .bl false)] := by
          show HO.ins C.Disk dx [("blocks", .int D.blocks), ("sectors", .ref a), ("writes", .ref w), ("newest", .ref n), ("left", optI D.left), ("power", .bl false)] = _
          rw [hl]
          rfl
        rw [e] at z
        exact z
      · walk_at "run1"
        rename_i e
        rw [show opA D = D by unfold opA; rw [hl, if_neg (fun q => e (Option.some.inj q))]]
        exact ⟨rfl, hD, fun _ _ h _ => h⟩
  · rintro σ H1 ⟨rfl, hD1, fr⟩
    unfold opS at k
    generalize opA D = D1 at *
    obtain ⟨dx1, i1⟩ := hD1.ins
    unfold dkO at i1
    cases hp : D1.pw with
    | false =>
      rw [hp] at i1
      rw [show opB D1 = D1 by unfold opB; rw [if_neg (by rw [hp]; decide)]] at k
      walk_at "run1"
      exact (k H1 hD1 fr).2 hp
    | true =>
      rw [hp] at i1
      rw [show opB D1 = { D1 with left := D1.left.map (· - 1) } by unfold opB; rw [if_pos hp]] at k
      walk_at "run1"
      cases hl : D1.left with
      | none =>
        rw [hl, optI_n] at i1
        rw [optI_n]
        walk_at "run1"
        refine (k H1 ?_ fr).1 hp
        have : ({ D1 with left := Option.map (fun x => x - 1) D1.left } : DiskS) = D1 := by rw [hl, Option.map_none, ← hl]
        rw [this]
        exact hD1
      | some z =>
        rw [hl, optI_s] at i1
        rw [optI_s]
        walk_at "run1"
        have z2 := hD1.fields (dx := dx1) (D' := { D1 with left := D1.left.map (· - 1) }) rfl rfl
        have e : dkO C dx1 a w n { D1 with left := D1.left.map (· - 1) } = .ins C.Disk dx1 [("blocks", .int D1.blocks), ("sectors", .ref a), ("writes", .ref w), ("newest", .ref n), ("left", .int (z - 1)), ("power", .bl true)] := by
          show HO.ins C.Disk dx1 [("blocks", .int D1.blocks), ("sectors", .ref a), ("writes", .ref w), ("newest", .ref n), ("left", optI (D1.left.map (· - 1))), ("power", .bl D1.pw)] = _
          rw [hl, hp]
          rfl
        rw [e] at z2
        exact (k _ z2 fun b o h n => upd_oth (fr b o h n) n).1 hp
def newD (z : Int) : DiskS := ⟨z, List.replicate (z * 4).toNat (List.replicate 8 0), [], none, true⟩
/-- a disk that is being made -/
def Ini (H H' : Hp) (d a dx c : Addr) (fs : List (Str × V)) (rs : List (List Int)) : Prop := H' d = some (.ins c dx fs) ∧ (∀ b o, H b = some o → b ≠ d → H' b = some o) ∧ ∃ vs, H' a = some (.lst vs) ∧ RowsAt H' vs rs
theorem Ini.new {H H' : Hp} {d a dx c p : Addr} {fs : List (Str × V)} {rs : List (List Int)} {o : HO} (x : Ini H H' d a dx c fs rs) (n : H' p = none) : Ini H (upd H' p o) d a dx c fs rs := by
  obtain ⟨x1, x2, vs, x3, x4⟩ := x
  exact ⟨upd_old x1 n, fun b w h q => upd_old (x2 b w h q) n, vs, upd_old x3 n, x4.same (same_new n)⟩
theorem Ini.set {H H' : Hp} {d a dx c : Addr} {fs fs' : List (Str × V)} {rs : List (List Int)} (x : Ini H H' d a dx c fs rs) : Ini H (upd H' d (.ins c dx fs')) d a dx c fs' rs := by
  obtain ⟨x1, x2, vs, x3, x4⟩ := x
  exact ⟨upd_same, fun b w h q => upd_oth (x2 b w h q) q, vs, upd_oth x3 (ne_of x3 x1 fun z => nomatch z), x4.map (row_upd x1 plain_ins)⟩
theorem Ini.free {H H' : Hp} {d a dx c p : Addr} {fs : List (Str × V)} {rs : List (List Int)} (x : Ini H H' d a dx c fs rs) (n : H' p = none) : H p = none := by
  cases e : H p with
  | none => rfl
  | some o =>
    by_cases q : p = d
    · rw [q, x.1] at n; cases n
    · rw [x.2.1 p o e q] at n; cases n
def sp_Disk___init__ (K : PySem.W.Frag) (C : Ex) : Sp := S2 fun x b H Q E => ∃ d dx, x = .ref d ∧ H d = some (.ins C.Disk dx []) ∧ Known K H b ∧
  (∀ z : Int, b = .int z → 96 ≤ z → z ≤ 256 → ∀ H' a w n, (∀ c o, H c = some o → c ≠ d → H' c = some o) → H a = none → H w = none → H n = none → DiskAt C H' d a w n (newD z) → Q .non H') ∧ (btw 96 256 b = false → E (.ref C.NotValid) none H)
def t_Disk___init__ (K : PySem.W.Frag) (C : Ex) (E : XK) : TS :=
  tSeq (tIfS (tNot (uTru K (uCall (sp_is_between K C) (WB E) (tCons (tVar 1) (tCons (tC (.int 96)) (tCons (tC (.int 256)) (tNil))))))) (uRaise C.NotValid (WB E)) (tNext))
  (tSeq (uSetF C.Disk "blocks" (tVar 0) (tVar 1))
  (tSeq (uSetF C.Disk "sectors" (tVar 0) (tLc (iRng1 (tCons (tOp (uMul) (tVar 1) (tC (.int 4))) (tNil))) (gName 2) (tYes) (tOp (uMul) (tLst (tCons (tC (.int 0)) (tNil))) (tC (.int 8))) [2]))
  (tSeq (uSetF C.Disk "writes" (tVar 0) (tLst (tNil)))
  (tSeq (uSetF C.Disk "newest" (tVar 0) (tDNewK))
  (tSeq (uSetF C.Disk "left" (tVar 0) (tC .non))
  (uSetF C.Disk "power" (tVar 0) (tC (.bl true))))))))
theorem pure_Disk___init__ {K : PySem.W.Frag} {C : Ex} {vs : List V} {H : Hp} {Q : VK} {E : XK} (F : Fa K C) (h : sp_Disk___init__ K C vs H Q E) : t_Disk___init__ K C E { nx := fun _ H' => Q .non H', rt := Q } (start ["self", "blocks", "sector"] vs) H := by
  obtain ⟨x, b, rfl, d, dx, rfl, i, hk, k1, k2⟩ := h
  unfold t_Disk___init__
  walk_at "run1"
  refine w_S3 ⟨96, 256, rfl, rfl, hk, ?_⟩
  walk_at "run1"
  refine ifBN (fun hf => ?_) (fun ht => ?_)
  · walk_at "run1"
    exact k2 hf
  · obtain ⟨z, rfl, z1, z2⟩ := btw_inv ht
    walk_at "run1"
    have i0 : upd H d (.ins C.Disk dx (putF "blocks" (V.int z) [])) d = some (.ins C.Disk dx (putF "blocks" (V.int z) [])) := upd_same
    have fr0 : ∀ b o, H b = some o → b ≠ d → upd H d (.ins C.Disk dx (putF "blocks" (V.int z) [])) b = some o := fun b o h n => upd_oth h n
    generalize upd H d (.ins C.Disk dx (putF "blocks" (V.int z) [])) = H0 at *
    refine l_range (fun a i H1 => Same H0 H1 ∧ ∃ vs, H1 a = some (.lst vs) ∧ vs.length = i ∧ RowsAt H1 vs (List.replicate i (List.replicate 8 0))) (fun a ha => ⟨same_new ha, [], upd_same, rfl, .nil⟩) ?_ ?_
    · rintro a i H1 ha hi ⟨s1, vs, e1, hv, r1⟩
      walk_at "run1"
      refine ⟨rfl, ?_⟩
      walk_at "run1"
      rename_i p hp q hq
      refine ⟨vs, upd_old (upd_old e1 hp) hq, Nat.lt_of_le_of_lt (by omega) (lt_line (n := 2000) (by decide)), ?_⟩
      have hs : Same H1 (upd (upd H1 p (.lst [.int 0])) q (.lst ((List.replicate (8 : Int).toNat (0 : Int)).map V.int))) := same_updN (same_new hp) hq
      have ea : upd (upd H1 p (.lst [.int 0])) q (.lst ((List.replicate (8 : Int).toNat (0 : Int)).map V.int)) a = some (.lst vs) := hs _ _ e1
      have rq : RowAt (upd (upd H1 p (.lst [.int 0])) q (.lst ((List.replicate (8 : Int).toNat (0 : Int)).map V.int))) (.ref q) (List.replicate 8 0) := ⟨rfl, q, rfl, upd_same⟩
      have rr := (r1.same hs).snoc rq
      refine ⟨same_upd (s1.trans hs) ha, vs ++ [.ref q], upd_same, by rw [List.length_append, hv]; rfl, ?_⟩
      rw [List.replicate_succ']
      exact rr.upd ea (noRow_refs r1.ref)
    · rintro a H1 ha ⟨s1, vs, e1, hv, r1⟩
      have J0 : Ini H H1 d a dx C.Disk (putF "blocks" (V.int z) []) (List.replicate (z * 4).toNat (List.replicate 8 0)) := ⟨s1 _ _ i0, fun b o h n => s1 _ _ (fr0 b o h n), vs, e1, r1⟩
      have fa : H a = none := by
        cases e : H a with
        | none => rfl
        | some o =>
          by_cases q : a = d
          · rw [q, i0] at ha; cases ha
          · rw [fr0 a o e q] at ha; cases ha
      have i1 := J0.1
      walk_at "run1"
      have J1 := J0.set (fs' := putF "sectors" (V.ref a) (putF "blocks" (V.int z) []))
      generalize upd H1 d (.ins C.Disk dx (putF "sectors" (V.ref a) (putF "blocks" (V.int z) []))) = H2 at *
      have i2 := J1.1
      walk_at "run1"
      rename_i w n hw hn
      have J2 := J1.new (o := .lst []) hw
      have nwd : w ≠ d := (ne_of_none i2 hw).symm
      have J3 := J2.set (fs' := putF "writes" (V.ref w) (putF "sectors" (V.ref a) (putF "blocks" (V.int z) [])))
      have nnd : n ≠ d := (ne_of_none J3.1 hn).symm
      have ew : upd (upd H2 w (.lst [])) d (.ins C.Disk dx (putF "writes" (V.ref w) (putF "sectors" (V.ref a) (putF "blocks" (V.int z) [])))) w = some (.lst []) := by rw [upd_ne nwd]; exact upd_same
      have nwn : w ≠ n := ne_of_none ew hn
      have J4 := (J3.new (o := .dK []) hn)
      have J5 := ((J4.set (fs' := putF "newest" (V.ref n) (putF "writes" (V.ref w) (putF "sectors" (V.ref a) (putF "blocks" (V.int z) []))))).set (fs' := putF "left" V.non (putF "newest" (V.ref n) (putF "writes" (V.ref w) (putF "sectors" (V.ref a) (putF "blocks" (V.int z) [])))))).set (fs' := putF "power" (V.bl true) (putF "left" V.non (putF "newest" (V.ref n) (putF "writes" (V.ref w) (putF "sectors" (V.ref a) (putF "blocks" (V.int z) []))))))
      obtain ⟨j1, j2, vs, j3, j4⟩ := J5
      have naw : a ≠ w := by
        obtain ⟨_, _, _, y, _⟩ := J1
        exact ne_of_none y hw
      refine k1 z rfl z1 z2 _ a w n j2 fa (J1.free hw) (J3.free hn) ⟨⟨dx, j1⟩, ⟨vs, j3, j4⟩, ⟨[], ?_, rfl, fun i v h => by simp at h⟩, ⟨[], ?_, Nat.le_refl 0, fun _ h => by simp at h, fun s => .inl ⟨rfl, rfl⟩⟩, naw⟩
      · rw [upd_ne nwd, upd_ne nwd, upd_ne nwd, upd_ne nwn]; exact ew
      · rw [upd_ne nnd, upd_ne nnd, upd_ne nnd]; exact upd_same
def sp_Disk_read (K : PySem.W.Frag) (C : Ex) : Sp := S2 fun x b H Q E => ∃ d a w n D, x = .ref d ∧ DiskAt C H d a w n D ∧ DiskOk D ∧ Known K H b ∧
  (D.pw = false → E (.ref C.PowerOff) none H) ∧ (D.pw = true → btw 0 (D.secs.length - 1) b = false → E (.ref C.NotValid) none H) ∧
  ∀ s : Int, D.pw = true → b = .int s → 0 ≤ s → s < D.secs.length → (rdS D s).length = 8 → ∀ p, H p = none → ∀ H', Same H H' → H' p = some (.lst ((rdS D s).map V.int)) → Q (.ref p) H'
def t_Disk_read (K : PySem.W.Frag) (C : Ex) (E : XK) : TS :=
  tSeq (tIfS (tNot (uTru K (uFld C.Disk "power" (tVar 0)))) (uRaise C.PowerOff (WB E)) (tNext))
  (tSeq (tIfS (tNot (uTru K (uCall (sp_is_between K C) (WB E) (tCons (tVar 1) (tCons (tC (.int 0)) (tCons (tOp (uSub) (tCB (uLen K) (tCons (uFld C.Disk "sectors" (tVar 0)) (tNil))) (tC (.int 1))) (tNil))))))) (uRaise C.NotValid (WB E)) (tNext))
  (tSeq (tIfS (tTest (tOp (uIn K) (tVar 1) (uFld C.Disk "newest" (tVar 0)))) (tRet (tCB (uList K) (tCons (tDGet (uFld C.Disk "newest" (tVar 0)) (tVar 1)) (tNil)))) (tNext))
  (tRet (tCB (uList K) (tCons (tOp (uIx K) (uFld C.Disk "sectors" (tVar 0)) (tVar 1)) (tNil))))))
theorem pure_Disk_read {K : PySem.W.Frag} {C : Ex} {vs : List V} {H : Hp} {Q : VK} {E : XK} (F : Fa K C) (h : sp_Disk_read K C vs H Q E) : t_Disk_read K C E { nx := fun _ H' => Q .non H', rt := Q } (start ["self", "sector"] vs) H := by
  obtain ⟨x, b, rfl, d, a, w, n, D, rfl, hD, ok, hk, k0, k1, k2⟩ := h
  obtain ⟨⟨dx, i⟩, ⟨vs, e1, r1⟩, ⟨ws, e2, r2⟩, ⟨kvs, e3, r3⟩, ne⟩ := hD
  unfold dkO at i
  unfold t_Disk_read
  walk_at "run1"
  refine ifBN (fun hf => ?_) (fun hp => ?_)
  · walk_at "run1"
    exact k0 hf
  · walk_at "run1"
    rw [r1.1]
    refine w_S3 ⟨0, (D.secs.length : Int) - 1, rfl, rfl, hk, ?_⟩
    walk_at "run1"
    refine ifBN (fun hf => ?_) (fun ht => ?_)
    · walk_at "run1"
      exact k1 hp hf
    · obtain ⟨s, rfl, s0, s1⟩ := btw_inv ht
      walk_at "run1"
      rcases r3.2.2 s with ⟨hv, hl⟩ | ⟨v, r, hv, hl, h8, q, rfl, hq⟩
      · rw [hv, Option.isSome_none]
        have er : rdS D s = D.secs.getD s.toNat [] := by unfold rdS; rw [hl]; rfl
        walk_at "run1"
        refine w_ixA (SqL.of e1) ⟨s0, by rw [r1.1]; omega⟩ fun v ev => ?_
        obtain ⟨r, hr, h8, q, rfl, hq⟩ := r1.2 _ v ev
        have er2 : rdS D s = r := by rw [er, List.getD_eq_getElem?_getD, hr]; rfl
        walk_at "run1"
        refine w_tlist (SqL.of hq) fun l hl => ?_
        exact k2 s hp rfl s0 (by omega) (by rw [er2]; exact h8) l hl _ (same_new hl) (by rw [er2]; exact upd_same)
      · rw [hv, Option.isSome_some]
        have er2 : rdS D s = r := by unfold rdS; rw [hl]; rfl
        walk_at "run1"
        refine w_dgetI e3 hv ?_
        walk_at "run1"
        refine w_tlist (SqL.of hq) fun l hl => ?_
        exact k2 s hp rfl s0 (by omega) (by rw [er2]; exact h8) l hl _ (same_new hl) (by rw [er2]; exact upd_same)
theorem sql_fr {K : PySem.W.Frag} {H H1 : Hp} {d q c dx : Addr} {fs : List (Str × V)} {xs : List V} (i : H d = some (.ins c dx fs)) (fr : ∀ b o, H b = some o → b ≠ d → H1 b = some o) (h : SqL K H q xs) : SqL K H1 q xs := by
  rcases h with (h | ⟨o, h⟩) | h
  · exact .inl (.inl (fr _ _ h (ne_of h i fun z => nomatch z)))
  · exact .inl (.inr ⟨o, fr _ _ h (ne_of h i fun z => nomatch z)⟩)
  · exact .inr h
theorem RowAt.of {H : Hp} {p : Addr} {r : List Int} (l : r.length = 8) (h : H p = some (.lst (r.map V.int))) : RowAt H (.ref p) r := ⟨l, p, rfl, h⟩
theorem WrsAt.snoc {H : Hp} {vs : List V} {ws : List (Int × List Int)} {v : V} {s : Int} {r : List Int} (x : WrsAt H vs ws) (y : WrAt H v s r) : WrsAt H (vs ++ [v]) (ws ++ [(s, r)]) := by
  refine ⟨by rw [List.length_append, List.length_append, x.1]; rfl, fun i w h => ?_⟩
  rcases Nat.lt_or_ge i vs.length with q | q
  · rw [List.getElem?_append_left q] at h
    obtain ⟨s', r', e, z⟩ := x.2 i w h
    exact ⟨s', r', by rw [List.getElem?_append_left (by rw [← x.1]; exact q)]; exact e, z⟩
  · rw [List.getElem?_append_right q] at h
    have hi : i - vs.length = 0 := by
      have := (List.getElem?_eq_some_iff.mp h).1
      simp at this
      omega
    rw [hi] at h
    cases h
    exact ⟨s, r, by rw [List.getElem?_append_right (by rw [← x.1]; exact q), ← x.1, hi]; rfl, y⟩
theorem mem_putK {kvs : List (Key × V)} {k : Key} {v : V} {kv : Key × V} (h : kv ∈ putK kvs k v) : kv.1 = k ∨ kv ∈ kvs := by
  unfold putK at h
  split at h
  · obtain ⟨x, hx, e⟩ := List.mem_map.mp h
    by_cases q : x.1 = k
    · rw [if_pos q] at e; subst e; exact .inl q
    · rw [if_neg q] at e; subst e; exact .inr hx
  · rcases List.mem_append.mp h with h | h
    · exact .inr h
    · rw [List.mem_singleton.mp h]; exact .inl rfl
theorem NwAt.put {H : Hp} {kvs : List (Key × V)} {ws : List (Int × List Int)} {s : Int} {v : V} {r : List Int} (x : NwAt H kvs ws) (y : RowAt H v r) : NwAt H (putK kvs (.inl s) v) (ws ++ [(s, r)]) := by
  refine ⟨?_, fun kv hk => ?_, fun t => ?_⟩
  · have := length_putK kvs (.inl s) v
    rw [List.length_append]
    have := x.1
    simp only [List.length_cons, List.length_nil]
    omega
  · rcases mem_putK hk with h | h
    · exact ⟨s, h⟩
    · exact x.2.1 kv h
  · rw [valV_put, lastW_snoc]
    by_cases h : t = s
    · subst h
      rw [if_pos rfl, if_pos rfl]
      exact .inr ⟨v, r, rfl, rfl, y⟩
    · rw [if_neg (fun e => h (Sum.inl.inj e)), if_neg h]
      exact x.2.2 t
/-- one more write waits -/
def pushW (D : DiskS) (s : Int) (r : List Int) : DiskS := { D with wr := D.wr ++ [(s, r)] }
theorem DiskAt.rowNot {C : Ex} {H : Hp} {d a w n p : Addr} {D : DiskS} {r : List Int} (x : DiskAt C H d a w n D) (h : RowAt H (.ref p) r) : p ∉ dkF d a w n := by
  obtain ⟨⟨_, x1⟩, ⟨_, x2, r2⟩, ⟨_, x3, r3⟩, ⟨_, x4, _⟩, _⟩ := x
  obtain ⟨l8, p', e, hp⟩ := h
  cases e
  intro hb
  simp only [dkF, List.mem_cons, List.not_mem_nil, or_false] at hb
  rcases hb with rfl | rfl | rfl | rfl
  · rw [x1] at hp; cases hp
  · rw [x2] at hp; exact row_ne l8 r2.ref (Option.some.inj hp).symm
  · rw [x3] at hp; exact row_ne l8 r3.ref (Option.some.inj hp).symm
  · rw [x4] at hp; cases hp
theorem DiskAt.tupNot {C : Ex} {H : Hp} {d a w n t : Addr} {D : DiskS} {xs : List V} (x : DiskAt C H d a w n D) (h : H t = some (.tup xs)) : t ∉ dkF d a w n := by
  obtain ⟨⟨_, x1⟩, ⟨_, x2, r2⟩, ⟨_, x3, r3⟩, ⟨_, x4, _⟩, _⟩ := x
  intro hb
  simp only [dkF, List.mem_cons, List.not_mem_nil, or_false] at hb
  rcases hb with rfl | rfl | rfl | rfl
  · rw [x1] at h; cases h
  · rw [x2] at h; cases h
  · rw [x3] at h; cases h
  · rw [x4] at h; cases h
theorem RowAt.stp {C : Ex} {H H' : Hp} {d a w n : Addr} {D : DiskS} {v : V} {r : List Int} {S' : List Addr} (x : RowAt H v r) (hD : DiskAt C H d a w n D) (st : Stp (dkF d a w n) H S' H') : RowAt H' v r := by
  have x0 := x
  obtain ⟨l8, p, rfl, hp⟩ := x
  exact ⟨l8, p, rfl, (st.keep hp (hD.rowNot x0)).1⟩
theorem WrsAt.stp {C : Ex} {H H' : Hp} {d a w n : Addr} {D : DiskS} {vs : List V} {ws : List (Int × List Int)} {S' : List Addr} (x : WrsAt H vs ws) (hD : DiskAt C H d a w n D) (st : Stp (dkF d a w n) H S' H') : WrsAt H' vs ws :=
  x.map (fun _ _ y => y.stp hD st) fun _ _ e => (st.keep e (hD.tupNot e)).1
theorem WrsAt.same {H H' : Hp} {vs : List V} {ws : List (Int × List Int)} (x : WrsAt H vs ws) (s : Same H H') : WrsAt H' vs ws := x.map (fun _ _ y => y.same s) fun _ _ e => s _ _ e
theorem NwAt.same {H H' : Hp} {kvs : List (Key × V)} {ws : List (Int × List Int)} (x : NwAt H kvs ws) (s : Same H H') : NwAt H' kvs ws := x.map fun _ _ y => y.same s
def sp_Disk_write (K : PySem.W.Frag) (C : Ex) : Sp := S3 fun x b c H Q E => ∃ d a w n D, x = .ref d ∧ DiskAt C H d a w n D ∧ DiskOk D ∧ D.wr.length < 100000 ∧ Known K H b ∧
  ((∃ q xs, c = .ref q ∧ SqL K H q xs ∧ (∀ x ∈ xs, Known K H x) ∧ ((btw 0 (D.secs.length - 1) b = false ∨ (decide ((xs.length : Int) = 8) && xs.all isWord) = false) → E (.ref C.NotValid) none H) ∧
    ∀ s : Int, b = .int s → 0 ≤ s → s < D.secs.length → ∀ r, xs = r.map V.int → r.length = 8 → (∀ z ∈ r, 0 ≤ z) →
      (∀ H', DiskAt C H' d a w n (opS D) → Stp (dkF d a w n) H (dkF d a w n) H' → (opS D).pw = false → E (.ref C.PowerOff) none H') ∧
      (∀ H', DiskAt C H' d a w n (pushW (opS D) s r) → Stp (dkF d a w n) H (dkF d a w n) H' → (opS D).pw = true → Q .non H')) ∨ (NoList K H c ∧ E (.ref C.NotValid) none H))
theorem all_ints {xs : List V} (h : xs.all isWord = true) : ∃ r : List Int, xs = r.map V.int ∧ ∀ z ∈ r, 0 ≤ z := by
  induction xs with
  | nil => exact ⟨[], rfl, by simp⟩
  | cons x xs ih =>
    rw [List.all_cons, Bool.and_eq_true] at h
    obtain ⟨r, rfl, hr⟩ := ih h.2
    cases x <;> first | (cases h.1; done) | skip
    rename_i i
    exact ⟨i :: r, rfl, fun z hz => by
      rcases List.mem_cons.mp hz with rfl | hz
      · exact of_decide_eq_true h.1
      · exact hr z hz⟩
def t_Disk_write (K : PySem.W.Frag) (C : Ex) (E : XK) : TS :=
  tSeq (tIfS (tNot (uTru K (uCall (sp_is_between K C) (WB E) (tCons (tVar 1) (tCons (tC (.int 0)) (tCons (tOp (uSub) (tCB (uLen K) (tCons (uFld C.Disk "sectors" (tVar 0)) (tNil))) (tC (.int 1))) (tNil))))))) (uRaise C.NotValid (WB E)) (tNext))
  (tSeq (tIfS (tNot (uTru K (uCall (sp_are_words K C) (WB E) (tCons (tVar 2) (tCons (tC (.int 8)) (tNil)))))) (uRaise C.NotValid (WB E)) (tNext))
  (tSeq (tDrop (uMeth C.Disk "operate" (sp_Disk_operate K C) (WB E) (tVar 0) (tNil)))
  (tSeq (tDrop (tBM K "list" (rAppend) (uFld C.Disk "writes" (tVar 0)) (tCons (tTup (tCons (tVar 1) (tCons (tCB (uList K) (tCons (tVar 2) (tNil))) (tNil)))) (tNil))))
  (sDPut (uFld C.Disk "newest" (tVar 0)) (tVar 1) (tCB (uList K) (tCons (tVar 2) (tNil)))))))
theorem pure_Disk_write {K : PySem.W.Frag} {C : Ex} {vs : List V} {H : Hp} {Q : VK} {E : XK} (F : Fa K C) (h : sp_Disk_write K C vs H Q E) : t_Disk_write K C E { nx := fun _ H' => Q .non H', rt := Q } (start ["self", "sector", "words"] vs) H := by
  obtain ⟨x, b, c, rfl, d, a, w, n, D, rfl, hD, ok, hw, hk, hc⟩ := h
  have hD' := hD
  obtain ⟨⟨dx, i⟩, ⟨vs, e1, r1⟩, ⟨ws, e2, r2⟩, ⟨kvs, e3, r3⟩, ne⟩ := hD
  unfold dkO at i
  unfold t_Disk_write
  walk_at "run1"
  rw [r1.1]
  refine w_S3 ⟨0, (D.secs.length : Int) - 1, rfl, rfl, hk, ?_⟩
  walk_at "run1"
  refine ifBN (fun hf => ?_) (fun ht => ?_)
  · walk_at "run1"
    rcases hc with ⟨_, _, _, _, _, z, _⟩ | ⟨_, z⟩
    · exact z (.inl hf)
    · exact z
  · obtain ⟨s, rfl, s0, s1⟩ := btw_inv ht
    walk_at "run1"
    rcases hc with ⟨q, xs, rfl, hq, hx, z, k⟩ | ⟨hn, z⟩
    · refine w_S2 ⟨8, rfl, .inl ⟨q, xs, rfl, hq, hx, ?_⟩⟩
      walk_at "run1"
      refine ifBN (fun hf => ?_) (fun hg => ?_)
      · walk_at "run1"
        exact z (.inr hf)
      · obtain ⟨r, rfl, hr⟩ := all_ints (Bool.and_eq_true_iff.mp hg).2
        have h8 : r.length = 8 := by
          have := of_decide_eq_true (Bool.and_eq_true_iff.mp hg).1
          rw [List.length_map] at this
          omega
        obtain ⟨k1, k2⟩ := k s rfl s0 (by omega) r rfl h8 hr
        walk_at "run1"
        refine w_S1 ⟨d, a, w, n, D, rfl, hD', fun H1 hD1 fr => ⟨fun hp => ?_, fun hp => ?_⟩⟩
        · have st1 : Stp (dkF d a w n) H (dkF d a w n) H1 := ⟨fun b o h nb => fr b o h fun e => nb (by rw [e]; exact List.mem_cons_self ..), fun b h => .inl h⟩
          have hq1 := sql_fr i fr hq
          have hD1' := hD1
          have hl : D.wr.length = (opS D).wr.length := by rw [(opS_secs D).2.1]
          generalize opS D = D1 at *
          obtain ⟨⟨dx1, i1⟩, ⟨vs1, e11, r11⟩, ⟨ws1, e21, r21⟩, ⟨kvs1, e31, r31⟩, ne1⟩ := hD1
          unfold dkO at i1
          walk_at "run1"
          refine w_tlist hq1 fun l hl => ?_
          walk_at "run1"
          rename_i t ht
          have s3 : Same H1 (upd (upd H1 l (.lst (r.map V.int))) t (.tup [.int s, .ref l])) := same_updN (same_new hl) ht
          have et : upd (upd H1 l (.lst (r.map V.int))) t (.tup [.int s, .ref l]) t = some (.tup [.int s, .ref l]) := upd_same
          have rl : RowAt (upd (upd H1 l (.lst (r.map V.int))) t (.tup [.int s, .ref l])) (.ref l) r := .of h8 (upd_old upd_same ht)
          generalize upd (upd H1 l (.lst (r.map V.int))) t (.tup [.int s, .ref l]) = H3 at *
          have r13 := r11.same s3
          have r23 := r21.map (fun _ _ y => y.same s3) fun _ _ e => s3 _ _ e
          have r33 := r31.map fun _ _ y => y.same s3
          have pw := plain_refs r21.ref
          have hlen := r21.1
          refine w_app (s3 _ _ e21) (lt_line (by omega)) ?_
          have i4 : upd H3 w (.lst (ws1 ++ [.ref t])) d = _ := upd_oth (s3 _ _ i1) (ne_of i1 e21 fun z => nomatch z)
          have a4 : upd H3 w (.lst (ws1 ++ [.ref t])) a = _ := upd_oth (s3 _ _ e11) ne1
          have n4 : upd H3 w (.lst (ws1 ++ [.ref t])) n = _ := upd_oth (s3 _ _ e31) (ne_of e31 e21 fun z => nomatch z)
          have w4 : upd H3 w (.lst (ws1 ++ [.ref t])) w = _ := upd_same
          have q4 : SqL K (upd H3 w (.lst (ws1 ++ [.ref t]))) q (r.map V.int) := by
            rcases s3.seq hq1 with (h | ⟨o, h⟩) | h
            · exact .inl (.inl (upd_oth h (ne_of h (s3 _ _ e21) (row_ne h8 r21.ref))))
            · exact .inl (.inr ⟨o, upd_oth h (ne_of h (s3 _ _ e21) fun z => nomatch z)⟩)
            · exact .inr h
          have r14 := r13.map (row_upd (o := .lst (ws1 ++ [.ref t])) (s3 _ _ e21) pw)
          have r24 := (r23.map (row_upd (o := .lst (ws1 ++ [.ref t])) (s3 _ _ e21) pw) (tup_upd (s3 _ _ e21) pw)).snoc (v := .ref t) (s := s) (r := r) ⟨t, _, rfl, tup_upd (s3 _ _ e21) pw _ _ et, row_upd (s3 _ _ e21) pw _ _ rl⟩
          have r34 := r33.map (row_upd (o := .lst (ws1 ++ [.ref t])) (s3 _ _ e21) pw)
          have st4 : Stp (dkF d a w n) H (dkF d a w n) (upd H3 w (.lst (ws1 ++ [.ref t]))) := (st1.trans (.same s3)).upd (by simp [dkF])
          generalize upd H3 w (.lst (ws1 ++ [.ref t])) = H4 at *
          walk_at "run1"
          refine w_tlist q4 fun l2 hl2 => ?_
          have s5 : Same H4 (upd H4 l2 (.lst (r.map V.int))) := same_new hl2
          have rl2 : RowAt (upd H4 l2 (.lst (r.map V.int))) (.ref l2) r := .of h8 upd_same
          generalize upd H4 l2 (.lst (r.map V.int)) = H5 at *
          have i5 := s5 _ _ i4
          have n5 := s5 _ _ n4
          walk_at "run1"
          refine w_dputI n5 (by have := r31.1; omega) ?_
          have fr6 := row_upd (o := .dK (putK kvs1 (.inl s) (.ref l2))) n5 plain_dK
          have ft6 := tup_upd (o := .dK (putK kvs1 (.inl s) (.ref l2))) n5 plain_dK
          refine k2 _ ⟨⟨dx1, upd_oth i5 (ne_of i5 n5 fun z => nomatch z)⟩, ⟨vs1, upd_oth (s5 _ _ a4) (ne_of (s5 _ _ a4) n5 fun z => nomatch z), (r14.same s5).map fr6⟩, ⟨_, upd_oth (s5 _ _ w4) (ne_of (s5 _ _ w4) n5 fun z => nomatch z), (r24.map (fun _ _ y => y.same s5) fun _ _ e => s5 _ _ e).map fr6 ft6⟩, ⟨_, upd_same, NwAt.put ((r34.map fun _ _ y => y.same s5).map fr6) (fr6 _ _ rl2)⟩, ne1⟩ ((st4.trans (.same s5)).upd (by simp [dkF])) hp
        · exact k1 H1 hD1 ⟨fun b o h nb => fr b o h fun e => nb (by rw [e]; exact List.mem_cons_self ..), fun b h => .inl h⟩ hp
    · refine w_S2 ⟨8, rfl, .inr ⟨hn, ?_⟩⟩
      walk_at "run1"
      exact z
/-- the sectors behind a flush -/
def flushS : List (List Int) → List (Int × List Int) → List (List Int)
  | rs, [] => rs
  | rs, (s, r) :: w => flushS (rs.set s.toNat r) w
theorem flushS_snoc (rs : List (List Int)) (w : List (Int × List Int)) (s : Int) (r : List Int) : flushS rs (w ++ [(s, r)]) = (flushS rs w).set s.toNat r := by
  induction w generalizing rs with
  | nil => rfl
  | cons p w ih => obtain ⟨t, q⟩ := p; exact ih _
theorem flushS_len (rs : List (List Int)) (w : List (Int × List Int)) : (flushS rs w).length = rs.length := by
  induction w generalizing rs with
  | nil => rfl
  | cons p w ih => obtain ⟨t, q⟩ := p; show (flushS (rs.set t.toNat q) w).length = _; rw [ih, List.length_set]
def flushD (D : DiskS) : DiskS := { D with secs := flushS D.secs D.wr, wr := [] }
def sp_Disk_flush (K : PySem.W.Frag) (C : Ex) : Sp := S1 fun x H Q E => ∃ d a w n D, x = .ref d ∧ DiskAt C H d a w n D ∧ DiskOk D ∧
  (∀ H', DiskAt C H' d a w n (opS D) → Stp (dkF d a w n) H (dkF d a w n) H' → (opS D).pw = false → E (.ref C.PowerOff) none H') ∧
  (∀ H' w' n', DiskAt C H' d a w' n' (flushD (opS D)) → Stp (dkF d a w n) H (dkF d a w' n') H' → (opS D).pw = true → Q .non H')
theorem w_f_list {K : PySem.W.Frag} {D : Ends} {σ : L2.St} {H : Hp} {g : TG} {tb : TS} {a : Addr} {xs : List V} (Pv : Nat → L2.St → Hp → Prop) (h0 : Pv 0 σ H) (hl : ∀ i σ H, i ≤ xs.length → Pv i σ H → H a = some (.lst xs))
    (hs : ∀ i x σ H, xs[i]? = some x → Pv i σ H → g x σ H fun σ2 H2 => tb { D with nx := Pv (i + 1), ct := Pv (i + 1), bk := D.nx } σ2 H2) (hd : ∀ σ H, Pv xs.length σ H → D.nx σ H) : forQ g tb D σ (Itl K a) H :=
  f_list Pv h0 (fun i σ H q p => SqL.of (hl i σ H q p)) hs hd
def t_Disk_flush (K : PySem.W.Frag) (C : Ex) (E : XK) : TS :=
  tSeq (tDrop (uMeth C.Disk "operate" (sp_Disk_operate K C) (WB E) (tVar 0) (tNil)))
  (tSeq (tFor (iList K (uFld C.Disk "writes" (tVar 0))) (gTup K 2 (gCons (gName 1) (gCons (gName 2) (gNil))))
  (tAsg (tCB (uList K) (tCons (tVar 2) (tNil))) (gSub (uFld C.Disk "sectors" (tVar 0)) (tVar 1) uSet)))
  (tSeq (uSetF C.Disk "writes" (tVar 0) (tLst (tNil)))
  (uSetF C.Disk "newest" (tVar 0) (tDNewK))))
theorem pure_Disk_flush {K : PySem.W.Frag} {C : Ex} {vs : List V} {H : Hp} {Q : VK} {E : XK} (F : Fa K C) (h : sp_Disk_flush K C vs H Q E) : t_Disk_flush K C E { nx := fun _ H' => Q .non H', rt := Q } (start ["self", "sector", "words"] vs) H := by
  obtain ⟨x, rfl, d, a, w, n, D, rfl, hD, ok, k1, k2⟩ := h
  obtain ⟨dx, i⟩ := hD.ins
  unfold dkO at i
  unfold t_Disk_flush
  walk_at "run1"
  refine w_S1 ⟨d, a, w, n, D, rfl, hD, fun H1 hD1 fr => ⟨fun hp => ?_, fun hp => ?_⟩⟩
  · have st1 : Stp (dkF d a w n) H (dkF d a w n) H1 := ⟨fun b o h nb => fr b o h fun e => nb (by rw [e]; exact List.mem_cons_self ..), fun b h => .inl h⟩
    have wk : ∀ p ∈ (opS D).wr, 0 ≤ p.1 ∧ p.1.toNat < (opS D).secs.length := by
      rw [(opS_secs D).1, (opS_secs D).2.1]
      intro p hp
      have := ok.wk p hp
      have := ok.sz
      omega
    clear k1
    generalize opS D = D1 at *
    obtain ⟨⟨dx1, i1⟩, ⟨vs1, e11, r11⟩, ⟨ws1, e21, r21⟩, ⟨kvs1, e31, r31⟩, ne1⟩ := hD1
    unfold dkO at i1
    have hw := r21.1
    walk_at "run1"
    refine w_f_list (xs := ws1) (fun i σ H2 => ∃ v1 v2, σ = [some (.ref d), v1, v2] ∧ H2 d = some (dkO C dx1 a w n D1) ∧ (∃ vs, H2 a = some (.lst vs) ∧ RowsAt H2 vs (flushS D1.secs (D1.wr.take i))) ∧ H2 w = some (.lst ws1) ∧ WrsAt H2 ws1 D1.wr ∧ (∃ kvs, H2 n = some (.dK kvs)) ∧ Stp (dkF d a w n) H (dkF d a w n) H2)
      ⟨none, none, rfl, i1, ⟨vs1, e11, r11⟩, e21, r21, ⟨kvs1, e31⟩, st1⟩ (by rintro i σ H2 _ ⟨_, _, _, _, _, h, _⟩; exact h) ?_ ?_
    · rintro i x σ H2 hx ⟨v1, v2, rfl, h1, ⟨vs, h2, rr⟩, h3, h4, ⟨kvs, h5⟩, st⟩
      obtain ⟨s, r, hsr, t, y, rfl, et, ry⟩ := h4.2 _ _ hx
      obtain ⟨l8, py, rfl, ey⟩ := ry
      have hm := List.mem_of_getElem? hsr
      have ws := wk _ hm
      unfold dkO at h1
      walk_at "run1"
      refine w_tlist (SqL.of ey) fun l hl => ?_
      have s3 : Same H2 (upd H2 l (.lst (r.map V.int))) := same_new hl
      have rl : RowAt (upd H2 l (.lst (r.map V.int))) (.ref l) r := .of l8 upd_same
      generalize upd H2 l (.lst (r.map V.int)) = H3 at *
      have h13 := s3 _ _ h1
      walk_at "run1"
      refine w_setL (s3 _ _ h2) ⟨ws.1, by rw [rr.1, flushS_len]; exact ws.2⟩ ?_
      have pa := plain_refs rr.ref
      have fr4 := row_upd (o := .lst (vs.set s.toNat (.ref l))) (s3 _ _ h2) pa
      have ft4 := tup_upd (o := .lst (vs.set s.toNat (.ref l))) (s3 _ _ h2) pa
      refine ⟨_, _, rfl, upd_oth h13 (ne_of h1 h2 fun z => nomatch z), ⟨_, upd_same, ?_⟩, upd_oth (s3 _ _ h3) ne1.symm, (h4.map (fun _ _ y => y.same s3) fun _ _ e => s3 _ _ e).map fr4 ft4, ⟨kvs, upd_oth (s3 _ _ h5) (ne_of h5 h2 fun z => nomatch z)⟩, (st.trans (.same s3)).upd (by simp [dkF])⟩
      rw [take_snoc hsr, flushS_snoc]
      exact ((rr.same s3).map fr4).set (fr4 _ _ rl)
    · rintro σ H2 ⟨v1, v2, rfl, h1, ⟨vs, h2, rr⟩, h3, h4, ⟨kvs, h5⟩, st⟩
      rw [hw, List.take_length] at rr
      unfold dkO at h1
      walk_at "run1"
      rename_i w' hw' n' hn'
      have J0 : Ini H2 H2 d a dx1 C.Disk _ (flushS D1.secs D1.wr) := ⟨h1, fun _ _ h _ => h, vs, h2, rr⟩
      have J1 := J0.new (o := .lst []) hw'
      have nwd : w' ≠ d := (ne_of_none h1 hw').symm
      have naw : a ≠ w' := ne_of_none h2 hw'
      have e1 : upd (upd H2 w' (.lst [])) d (.ins C.Disk dx1 (putF "writes" (.ref w') [("blocks", .int D1.blocks), ("sectors", .ref a), ("writes", .ref w), ("newest", .ref n), ("left", optI D1.left), ("power", .bl D1.pw)])) w' = some (.lst []) := by rw [upd_ne nwd]; exact upd_same
      have J2 := J1.set (fs' := putF "writes" (V.ref w') [("blocks", .int D1.blocks), ("sectors", .ref a), ("writes", .ref w), ("newest", .ref n), ("left", optI D1.left), ("power", .bl D1.pw)])
      have nnd : n' ≠ d := (ne_of_none J2.1 hn').symm
      have nwn : w' ≠ n' := ne_of_none e1 hn'
      have st2 : Stp (dkF d a w n) H (dkF d a w n) (upd (upd H2 w' (.lst [])) d (.ins C.Disk dx1 (putF "writes" (.ref w') [("blocks", .int D1.blocks), ("sectors", .ref a), ("writes", .ref w), ("newest", .ref n), ("left", optI D1.left), ("power", .bl D1.pw)]))) := (st.trans (.same (same_new hw'))).upd (by simp [dkF])
      have J3 := (J2.new (o := .dK []) hn').set (fs' := putF "newest" (V.ref n') (putF "writes" (V.ref w') [("blocks", .int D1.blocks), ("sectors", .ref a), ("writes", .ref w), ("newest", .ref n), ("left", optI D1.left), ("power", .bl D1.pw)]))
      obtain ⟨j1, j2, vs', j3, j4⟩ := J3
      refine k2 _ w' n' ⟨⟨dx1, j1⟩, ⟨vs', j3, j4⟩, ⟨[], ?_, rfl, fun i v h => by simp at h⟩, ⟨[], ?_, Nat.le_refl 0, fun _ h => by simp at h, fun s => .inl ⟨rfl, rfl⟩⟩, naw⟩ ?_ hp
      · rw [upd_ne nwd, upd_ne nwn]; exact e1
      · rw [upd_ne nnd]; exact upd_same
      · have st3 := (st2.trans (.same (same_new (o := .dK []) hn'))).upd (p := d) (o := .ins C.Disk dx1 (putF "newest" (.ref n') (putF "writes" (.ref w') [("blocks", .int D1.blocks), ("sectors", .ref a), ("writes", .ref w), ("newest", .ref n), ("left", optI D1.left), ("power", .bl D1.pw)]))) (by simp [dkF])
        refine ⟨st3.1, fun b hb => ?_⟩
        rcases List.mem_cons.mp hb with rfl | hb
        · exact .inl (by simp [dkF])
        rcases List.mem_cons.mp hb with rfl | hb
        · exact .inl (by simp [dkF])
        rcases List.mem_cons.mp hb with rfl | hb
        · exact st.fresh hw'
        rcases List.mem_cons.mp hb with rfl | hb
        · exact st2.fresh hn'
        · cases hb
  · exact k1 H1 hD1 ⟨fun b o h nb => fr b o h fun e => nb (by rw [e]; exact List.mem_cons_self ..), fun b h => .inl h⟩ hp
/-- the rows of data -/
theorem RowsAt.dt {K : PySem.W.Frag} {H : Hp} : ∀ {vs : List V} {rs : List (List Int)}, RowsAt H vs rs → DtAll K H vs rs
  | [], [], _ => DtAll.nil
  | [], _ :: _, h => by cases h.1
  | _ :: _, [], h => by cases h.1
  | v :: vs, r :: rs, h => by
    obtain ⟨r', e, _, p, rfl, q⟩ := h.2 0 v rfl
    cases e
    refine DtAll.cons (Dt.list (SqL.of q) (DtAll.ints r)) (RowsAt.dt ⟨by simpa using h.1, fun i w hw => ?_⟩)
    exact h.2 (i + 1) w hw
/-- waiting writes as data -/
theorem WrsAt.dt {K : PySem.W.Frag} {H : Hp} : ∀ {vs : List V} {rs : List (Int × List Int)}, WrsAt H vs rs → DtAll K H vs rs
  | [], [], _ => DtAll.nil
  | [], _ :: _, h => by cases h.1
  | _ :: _, [], h => by cases h.1
  | v :: vs, r :: rs, h => by
    obtain ⟨s, r', e, t, x, rfl, et, _, p, rfl, q⟩ := h.2 0 v rfl
    cases e
    refine DtAll.cons (Dt.pair (SqT.of et) Dt.int (Dt.list (SqL.of q) (DtAll.ints r'))) (WrsAt.dt ⟨by simpa using h.1, fun i w hw => ?_⟩)
    exact h.2 (i + 1) w hw
def sp_Disk_waiting (K : PySem.W.Frag) (C : Ex) : Sp := S1 fun x H Q _ => ∃ d a w n D, x = .ref d ∧ DiskAt C H d a w n D ∧ D.wr.length ≤ 100000 ∧
  ∀ p, H p = none → ∀ H' vs, Same H H' → H' p = some (.lst vs) → WrsAt H' vs D.wr → Q (.ref p) H'
def t_Disk_waiting (K : PySem.W.Frag) (C : Ex) (E : XK) : TS :=
  tRet (tLc (iList K (uFld C.Disk "writes" (tVar 0))) (gTup K 2 (gCons (gName 1) (gCons (gName 2) (gNil)))) (tYes) (tTup (tCons (tVar 1) (tCons (tCB (uList K) (tCons (tVar 2) (tNil))) (tNil)))) [1, 2])
theorem pure_Disk_waiting {K : PySem.W.Frag} {C : Ex} {vs : List V} {H : Hp} {Q : VK} {E : XK} (F : Fa K C) (h : sp_Disk_waiting K C vs H Q E) : t_Disk_waiting K C E { nx := fun _ H' => Q .non H', rt := Q } (start ["self", "sector", "words"] vs) H := by
  obtain ⟨x, rfl, d, a, w, n, D, rfl, hD, hl, k⟩ := h
  obtain ⟨⟨dx, i⟩, ⟨vs, e1, r1⟩, ⟨ws, e2, r2⟩, ⟨kvs, e3, r3⟩, ne⟩ := hD
  unfold dkO at i
  unfold t_Disk_waiting
  walk_at "run1"
  refine l_list (xs := ws) (fun b i H1 => Same H H1 ∧ ∃ us, H1 b = some (.lst us) ∧ WrsAt H1 us (D.wr.take i)) (fun b hb => ⟨same_new hb, [], upd_same, rfl, fun i v h => by simp at h⟩) (fun b i H1 _ p => SqL.of (p.1 _ _ e2)) ?_ ?_
  · rintro b i x H1 hb hx ⟨s1, us, h1, rr⟩
    obtain ⟨s, r, hr, t, y, rfl, et, l8, py, rfl, ey⟩ := r2.2 _ _ hx
    have et1 := s1 _ _ et
    walk_at "run1"
    refine ⟨rfl, ?_⟩
    walk_at "run1"
    refine w_tlist (SqL.of (s1 _ _ ey)) fun l hl2 => ?_
    walk_at "run1"
    rename_i t2 ht2
    have s3 : Same H1 (upd (upd H1 l (.lst (r.map V.int))) t2 (.tup [.int s, .ref l])) := same_updN (same_new hl2) ht2
    have rl : WrAt (upd (upd H1 l (.lst (r.map V.int))) t2 (.tup [.int s, .ref l])) (.ref t2) s r := ⟨t2, _, rfl, upd_same, .of l8 (upd_old upd_same ht2)⟩
    generalize upd (upd H1 l (.lst (r.map V.int))) t2 (.tup [.int s, .ref l]) = H3 at *
    have hz : us.length ≤ D.wr.length := by rw [rr.1, List.length_take]; omega
    have pw := plain_refs rr.ref
    refine ⟨us, s3 _ _ h1, lt_line (by omega), same_upd (s1.trans s3) hb, us ++ [.ref t2], upd_same, ?_⟩
    rw [take_snoc hr]
    exact ((rr.map (fun _ _ y => y.same s3) fun _ _ e => s3 _ _ e).snoc rl).map (row_upd (s3 _ _ h1) pw) (tup_upd (s3 _ _ h1) pw)
  · rintro b H1 hb ⟨s1, us, h1, rr⟩
    rw [r2.1, List.take_length] at rr
    exact k b hb H1 us s1 h1 rr
theorem opS_id {D : DiskS} (h1 : D.left = none) (h2 : D.pw = true) : opS D = D := by
  have a : opA D = D := by unfold opA; rw [if_neg (by rw [h1]; simp)]
  unfold opS
  rw [a]
  unfold opB
  rw [if_pos h2, h1]
  cases D
  cases h1
  rfl
def Rd8 (D : DiskS) : Prop := ∀ s : Int, 0 ≤ s → s < D.secs.length → (rdS D s).length = 8
theorem rd_push {D : DiskS} {s t : Int} {r : List Int} : rdS (pushW D s r) t = if t = s then r else rdS D t := by
  unfold rdS pushW
  rw [lastW_snoc]
  split <;> rfl
/-- a read that is served -/
theorem w_read {K : PySem.W.Frag} {C : Ex} {H : Hp} {Q : VK} {E : XK} {d a w n : Addr} {D : DiskS} {s : Int} (x : DiskAt C H d a w n D) (ok : DiskOk D) (r8 : Rd8 D) (pw : D.pw = true) (h0 : 0 ≤ s) (h1 : s < D.secs.length)
    (k : ∀ p, H p = none → ∀ H', Same H H' → H' p = some (.lst ((rdS D s).map V.int)) → Q (.ref p) H') : sp_Disk_read K C [.ref d, .int s] H Q E :=
  w_S2 ⟨d, a, w, n, D, rfl, x, ok, trivial, (fun q => by rw [pw] at q; cases q), (fun _ q => by rw [btw_int h0 (by omega)] at q; cases q), fun t _ e _ _ _ => by cases e; exact k⟩
structure DskOn (D : DiskS) (b : Int) (m : Nat) : Prop where
  ok : DiskOk D
  lf : D.left = none
  pw : D.pw = true
  bl : D.blocks = b
  r8 : Rd8 D
  wl : D.wr.length ≤ m
theorem DskOn.push {D : DiskS} {b : Int} {m : Nat} {s : Int} {r : List Int} (x : DskOn D b m) (hm : m < 100000) (h0 : 0 ≤ s) (h1 : s < D.secs.length) (l : r.length = 8) : DskOn (pushW D s r) b (m + 1) := by
  refine ⟨⟨x.ok.bl, x.ok.sz, fun p hp => ?_, ?_⟩, x.lf, x.pw, x.bl, fun t t0 t1 => ?_, ?_⟩
  · have := x.ok.sz
    rcases List.mem_append.mp hp with q | q
    · exact x.ok.wk p q
    · rw [List.mem_singleton.mp q]
      show 0 ≤ s ∧ s < 4 * D.blocks
      omega
  · show (D.wr ++ [(s, r)]).length ≤ 100000
    have := x.wl
    rw [List.length_append]
    simp only [List.length_cons, List.length_nil]
    omega
  · rw [rd_push]
    split
    · exact l
    · exact x.r8 t t0 t1
  · show (D.wr ++ [(s, r)]).length ≤ m + 1
    have := x.wl
    rw [List.length_append]
    simp only [List.length_cons, List.length_nil]
    omega
/-- a write that is served -/
theorem w_write {K : PySem.W.Frag} {C : Ex} {H : Hp} {Q : VK} {E : XK} {d a w n : Addr} {D : DiskS} {b : Int} {m : Nat} {s : Int} {q : Addr} {r : List Int} (x : DiskAt C H d a w n D) (o : DskOn D b m) (hm : m < 100000) (h0 : 0 ≤ s) (h1 : s < D.secs.length)
    (hq : SqL K H q (r.map V.int)) (h8 : r.length = 8) (hr : ∀ z ∈ r, 0 ≤ z) (k : ∀ H', DiskAt C H' d a w n (pushW D s r) → Stp (dkF d a w n) H (dkF d a w n) H' → Q .non H') : sp_Disk_write K C [.ref d, .int s, .ref q] H Q E := by
  refine w_S3 ⟨d, a, w, n, D, rfl, x, o.ok, by have := o.wl; omega, trivial, .inl ⟨q, _, rfl, hq, fun y hy => ?_, fun z => ?_, fun t e _ _ r2 er _ _ => ?_⟩⟩
  · obtain ⟨i, _, rfl⟩ := List.mem_map.mp hy
    trivial
  · exfalso
    rcases z with z | z
    · rw [btw_int h0 (by omega)] at z; cases z
    · have : (r.map V.int).all isWord = true := List.all_eq_true.mpr fun y hy => by
        obtain ⟨i, hi, rfl⟩ := List.mem_map.mp hy
        exact decide_eq_true (hr i hi)
      rw [this, decide_eq_true (by rw [List.length_map]; omega)] at z
      cases z
  · cases e
    have er : r = r2 := (List.map_inj_right (fun _ _ h => V.int.inj h)).mp er
    subst er
    rw [opS_id o.lf o.pw]
    exact ⟨fun _ _ _ h => (by rw [o.pw] at h; cases h), fun H' a b _ => k H' a b⟩
theorem flushS_get (t : Int) (ht : 0 ≤ t) : ∀ (w : List (Int × List Int)) (rs : List (List Int)), t.toNat < rs.length → (∀ p ∈ w, 0 ≤ p.1) → (flushS rs w).getD t.toNat [] = (lastW w t).getD (rs.getD t.toNat [])
  | [], rs, _, _ => rfl
  | (s, r) :: w, rs, hl, hp => by
    have ih := flushS_get t ht w (rs.set s.toNat r) (by rw [List.length_set]; exact hl) fun p h => hp p (List.mem_cons_of_mem _ h)
    show (flushS (rs.set s.toNat r) w).getD t.toNat [] = _
    rw [ih]
    show _ = (match lastW w t with | some q => some q | none => if t = s then some r else none).getD (rs.getD t.toNat [])
    cases lastW w t with
    | some q => rfl
    | none =>
      have h0 := hp (s, r) (List.mem_cons_self ..)
      by_cases e : t = s
      · subst e
        rw [if_pos rfl]
        show (rs.set t.toNat r).getD t.toNat [] = r
        rw [List.getD_eq_getElem?_getD, List.getElem?_set_self hl]; rfl
      · rw [if_neg e]
        show (rs.set s.toNat r).getD t.toNat [] = rs.getD t.toNat []
        have : s.toNat ≠ t.toNat := fun q => e (by have : 0 ≤ s := h0; omega)
        rw [List.getD_eq_getElem?_getD, List.getElem?_set_ne this, List.getD_eq_getElem?_getD]
theorem rd_flush {D : DiskS} {b : Int} {m : Nat} (o : DskOn D b m) {t : Int} (h0 : 0 ≤ t) (h1 : t < D.secs.length) : rdS (flushD D) t = rdS D t := by
  show (lastW [] t).getD ((flushS D.secs D.wr).getD t.toNat []) = _
  show (flushS D.secs D.wr).getD t.toNat [] = _
  rw [flushS_get t h0 _ _ (by omega) fun p h => (o.ok.wk p h).1]
  rfl
theorem DskOn.flush {D : DiskS} {b : Int} {m : Nat} (o : DskOn D b m) : DskOn (flushD D) b 0 := by
  have hl : (flushD D).secs.length = D.secs.length := flushS_len _ _
  refine ⟨⟨o.ok.bl, by rw [hl]; exact o.ok.sz, fun p h => (by cases h), Nat.zero_le _⟩, o.lf, o.pw, o.bl, fun t t0 t1 => ?_, Nat.le_refl 0⟩
  rw [hl] at t1
  rw [rd_flush o t0 t1]
  exact o.r8 t t0 t1
/-- a flush that is served -/
theorem w_flush {K : PySem.W.Frag} {C : Ex} {H : Hp} {Q : VK} {E : XK} {d a w n : Addr} {D : DiskS} {b : Int} {m : Nat} (x : DiskAt C H d a w n D) (o : DskOn D b m)
    (k : ∀ H' w' n', DiskAt C H' d a w' n' (flushD D) → Stp (dkF d a w n) H (dkF d a w' n') H' → Q .non H') : sp_Disk_flush K C [.ref d] H Q E :=
  w_S1 ⟨d, a, w, n, D, rfl, x, o.ok, by rw [opS_id o.lf o.pw]; exact fun _ _ _ h => (by rw [o.pw] at h; cases h), by rw [opS_id o.lf o.pw]; exact fun H' w' n' a b _ => k H' w' n' a b⟩
theorem newD_on {z : Int} (h : 96 ≤ z ∧ z ≤ 256) : DskOn (newD z) z 0 := by
  have hl : (newD z).secs.length = (z * 4).toNat := List.length_replicate ..
  have rd : ∀ t : Int, t < (newD z).secs.length → 0 ≤ t → rdS (newD z) t = List.replicate 8 0 := fun t h1 h0 => by
    show (newD z).secs.getD t.toNat [] = _
    rw [List.getD_eq_getElem?_getD]
    show ((List.replicate (z * 4).toNat (List.replicate 8 (0 : Int)))[t.toNat]?).getD [] = _
    rw [List.getElem?_replicate, if_pos (by omega)]
    rfl
  exact ⟨⟨h, by rw [hl]; show ((z * 4).toNat : Int) = 4 * z; omega, fun p h => (by cases h), Nat.zero_le _⟩, rfl, rfl, rfl, fun t t0 t1 => by rw [rd t t1 t0]; rfl, Nat.le_refl 0⟩
theorem rd_new {z t : Int} (h0 : 0 ≤ t) (h1 : t < 4 * z) : rdS (newD z) t = List.replicate 8 0 := by
  show (newD z).secs.getD t.toNat [] = _
  rw [List.getD_eq_getElem?_getD]
  show ((List.replicate (z * 4).toNat (List.replicate 8 (0 : Int)))[t.toNat]?).getD [] = _
  rw [List.getElem?_replicate, if_pos (by omega)]
  rfl
theorem DiskAt.fresh {C : Ex} {H : Hp} {d a w n p : Addr} {D : DiskS} (x : DiskAt C H d a w n D) (h : H p = none) : p ∉ dkF d a w n := by
  obtain ⟨⟨_, x1⟩, ⟨_, x2, _⟩, ⟨_, x3, _⟩, ⟨_, x4, _⟩, _⟩ := x
  intro hb
  simp only [dkF, List.mem_cons, List.not_mem_nil, or_false] at hb
  rcases hb with rfl | rfl | rfl | rfl
  · rw [x1] at h; cases h
  · rw [x2] at h; cases h
  · rw [x3] at h; cases h
  · rw [x4] at h; cases h
theorem Stp.wide {S T : List Addr} {H H' : Hp} (x : Stp S H S H') (s : ∀ b ∈ S, b ∈ T) : Stp T H T H' := ⟨fun b o h n => x.1 b o h fun q => n (s b q), fun _ h => .inl h⟩
/-- another object is written: the disk stays -/
theorem DiskAt.other {C : Ex} {H : Hp} {d a w n m : Addr} {D : DiskS} {ns ns' : List Int} (x : DiskAt C H d a w n D) (hm : H m = some (.lst (ns.map V.int))) (h16 : ns.length ≠ 8) (hp : 0 < ns.length) (nm : m ∉ dkF d a w n) : DiskAt C (upd H m (.lst (ns'.map V.int))) d a w n D := by
  obtain ⟨⟨dx, i⟩, ⟨vs, e1, r1⟩, ⟨ws, e2, r2⟩, ⟨kvs, e3, r3⟩, ne⟩ := x
  simp only [dkF, List.mem_cons, List.not_mem_nil, or_false, not_or] at nm
  have pl : Plain (.lst (ns.map V.int)) := ⟨fun r h8 e => h16 (by have := congrArg List.length (HO.lst.inj e); rw [List.length_map, List.length_map] at this; omega), fun _ e => nomatch e⟩
  exact ⟨⟨dx, upd_oth i (Ne.symm nm.1)⟩, ⟨vs, upd_oth e1 (Ne.symm nm.2.1), r1.map (row_upd hm pl)⟩, ⟨ws, upd_oth e2 (Ne.symm nm.2.2.1), r2.map (row_upd hm pl) (tup_upd hm pl)⟩, ⟨kvs, upd_oth e3 (Ne.symm nm.2.2.2), r3.map (row_upd hm pl)⟩, ne⟩
def hdO (C : Ex) (dx : Addr) (g t b : V) : HO := .ins C.Head dx [("generation", g), ("table", t), ("blocks", b)]
def sp_Head___init__ (K : PySem.W.Frag) (C : Ex) : Sp := S4 fun x g t b H Q _ => ∃ p dx, x = .ref p ∧ H p = some (.ins C.Head dx []) ∧ ∀ H', H' p = some (hdO C dx g t b) → (∀ c o, H c = some o → c ≠ p → H' c = some o) → Q .non H'
def t_Head___init__ (K : PySem.W.Frag) (C : Ex) (E : XK) : TS :=
  tSeq (uSetF C.Head "generation" (tVar 0) (tVar 1))
  (tSeq (uSetF C.Head "table" (tVar 0) (tVar 2))
  (uSetF C.Head "blocks" (tVar 0) (tVar 3)))
theorem pure_Head___init__ {K : PySem.W.Frag} {C : Ex} {vs : List V} {H : Hp} {Q : VK} {E : XK} (F : Fa K C) (h : sp_Head___init__ K C vs H Q E) : t_Head___init__ K C E { nx := fun _ H' => Q .non H', rt := Q } (start ["self", "generation", "table", "blocks"] vs) H := by
  obtain ⟨x, g, t, b, rfl, p, dx, rfl, i, k⟩ := h
  unfold t_Head___init__
  walk_at "run1"
  refine k _ upd_same fun c o h n => ?_
  rw [upd_ne n, upd_ne n, upd_ne n]
  exact h
/-- the words of a head -/
def headW (g a b m : Int) : List Int := [g, a, b, 4, m, 0, 0, g]
def sp_Head_sector (K : PySem.W.Frag) (C : Ex) : Sp := S1 fun x H Q _ => ∃ p dx t, ∃ g a b m : Int, x = .ref p ∧ H p = some (hdO C dx (.int g) (.ref t) (.int m)) ∧ SqT K H t [.int a, .int b] ∧
  ∀ l, H l = none → Q (.ref l) (upd H l (.lst ((headW g a b m).map V.int)))
def t_Head_sector (K : PySem.W.Frag) (C : Ex) (E : XK) : TS :=
  tSeq (tAsg (uFld C.Head "table" (tVar 0)) (gTup K 2 (gCons (gName 1) (gCons (gName 2) (gNil)))))
  (tRet (tLst (tCons (uFld C.Head "generation" (tVar 0)) (tCons (tVar 1) (tCons (tVar 2) (tCons (tC (.int 4)) (tCons (uFld C.Head "blocks" (tVar 0)) (tCons (tC (.int 0)) (tCons (tC (.int 0)) (tCons (uFld C.Head "generation" (tVar 0)) (tNil)))))))))))
theorem pure_Head_sector {K : PySem.W.Frag} {C : Ex} {vs : List V} {H : Hp} {Q : VK} {E : XK} (F : Fa K C) (h : sp_Head_sector K C vs H Q E) : t_Head_sector K C E { nx := fun _ H' => Q .non H', rt := Q } (start ["self", "number", "birth"] vs) H := by
  obtain ⟨x, rfl, p, dx, t, g, a, b, m, rfl, i, e, k⟩ := h
  unfold hdO at i
  unfold t_Head_sector
  walk_at "run1"
  rename_i l hl
  exact k l hl
def sp_place (K : PySem.W.Frag) (_ : Ex) : Sp := S1 fun a H Q _ => ∃ g : Int, a = .int g ∧ Q (.int (g % 2)) H
def t_place (K : PySem.W.Frag) (C : Ex) (E : XK) : TS :=
  tRet (tOp (uMod) (tVar 0) (tC (.int 2)))
theorem pure_place {K : PySem.W.Frag} {C : Ex} {vs : List V} {H : Hp} {Q : VK} {E : XK} (F : Fa K C) (h : sp_place K C vs H Q E) : t_place K C E { nx := fun _ H' => Q .non H', rt := Q } (start ["generation"] vs) H := by
  obtain ⟨a, rfl, g, rfl, k⟩ := h
  unfold t_place
  walk_at "run1"
  exact k
/-- a word of a row -/
abbrev rw8 (r : List Int) (i : Nat) : Int := r.getD i 0
def validH (s : Int) (r : List Int) : Bool := decide (rw8 r 0 = rw8 r 7) && (!decide (rw8 r 0 = 0) && decide (rw8 r 0 % 2 = s))
def sp_is_valid_head (K : PySem.W.Frag) (_ : Ex) : Sp := S2 fun a b H Q _ => ∃ (s : Int) (q : Addr) (r : List Int), a = .int s ∧ b = .ref q ∧ SqL K H q (r.map V.int) ∧ r.length = 8 ∧ Q (.bl (validH s r)) H
theorem tn0 : (0 : Int).toNat = 0 := rfl
theorem tn1 : (1 : Int).toNat = 1 := rfl
theorem tn2 : (2 : Int).toNat = 2 := rfl
theorem tn7 : (7 : Int).toNat = 7 := rfl
def t_is_valid_head (K : PySem.W.Frag) (C : Ex) (E : XK) : TS :=
  tRet (tAndV (tOp (uEq K) (tOp (uIx K) (tVar 1) (tC (.int 0))) (tOp (uIx K) (tVar 1) (tC (.int 7)))) (tAndV (tOp (uNe K) (tOp (uIx K) (tVar 1) (tC (.int 0))) (tC (.int 0))) (tOp (uEq K) (uCall (sp_place K C) (WB E) (tCons (tOp (uIx K) (tVar 1) (tC (.int 0))) (tNil))) (tVar 0))))
theorem pure_is_valid_head {K : PySem.W.Frag} {C : Ex} {vs : List V} {H : Hp} {Q : VK} {E : XK} (F : Fa K C) (h : sp_is_valid_head K C vs H Q E) : t_is_valid_head K C E { nx := fun _ H' => Q .non H', rt := Q } (start ["sector", "words"] vs) H := by
  obtain ⟨a, b, rfl, s, q, r, rfl, rfl, hq, h8, k⟩ := h
  unfold t_is_valid_head
  unfold validH rw8 at k
  walk_at "run1"
  · rename_i h1 h2
    rw [tn0, tn7] at h1
    rw [tn0] at h2
    refine w_S1 ⟨_, rfl, ?_⟩
    walk_at "run1"
    rw [decide_eq_true h1, decide_eq_false h2] at k
    exact k
  · walk_at "run1"
    rename_i h1 h2
    rw [tn0, tn7] at h1
    rw [tn0] at h2
    rw [decide_eq_true h1, decide_eq_true h2] at k
    exact k
  · walk_at "run1"
    rename_i h1
    rw [tn0, tn7] at h1
    rw [decide_eq_false h1] at k
    exact k
/-- the mark of the log -/
def markD (D : DiskS) : Nat → Int
  | 0 => 0
  | i + 1 => if rw8 (rdS D (4 + (i : Nat))) 7 > markD D i then rw8 (rdS D (4 + (i : Nat))) 7 else markD D i
def sp_log_mark (K : PySem.W.Frag) (C : Ex) : Sp := S1 fun x H Q E => ∃ d a w n D, x = .ref d ∧ DiskAt C H d a w n D ∧ DiskOk D ∧ Rd8 D ∧ (D.pw = false → E (.ref C.PowerOff) none H) ∧ (D.pw = true → ∀ H', Same H H' → Q (.int (markD D 16)) H')
def t_log_mark (K : PySem.W.Frag) (C : Ex) (E : XK) : TS :=
  tSeq (tAsg (tC (.int 0)) (gName 1))
  (tSeq (tFor (iRng2 (tCons (tC (.int 4)) (tCons (tOp (uAdd K) (tC (.int 4)) (tC (.int 16))) (tNil)))) (gName 2)
  (tAsg (tCB (uMax K) (tCons (tVar 1) (tCons (tOp (uIx K) (uMeth C.Disk "read" (sp_Disk_read K C) (WB E) (tVar 0) (tCons (tVar 2) (tNil))) (tC (.int 7))) (tNil)))) (gName 1)))
  (tRet (tVar 1)))
theorem pure_log_mark {K : PySem.W.Frag} {C : Ex} {vs : List V} {H : Hp} {Q : VK} {E : XK} (F : Fa K C) (h : sp_log_mark K C vs H Q E) : t_log_mark K C E { nx := fun _ H' => Q .non H', rt := Q } (start ["disk", "mark", "sector"] vs) H := by
  obtain ⟨x, rfl, d, a, w, n, D, rfl, hD, ok, r8, k0, k⟩ := h
  unfold t_log_mark
  walk_at "run1"
  have := ok.sz
  have := ok.bl
  cases pw : D.pw with
  | false =>
    refine f_range (fun i σ H1 => i = 0 ∧ H1 = H ∧ ∃ v2, σ = [some (.ref d), some (.int 0), v2]) ⟨rfl, rfl, none, rfl⟩ ?_ ?_
    · rintro i σ H1 hi ⟨rfl, rfl, v2, rfl⟩
      obtain ⟨dx, i1⟩ := hD.ins
      unfold dkO at i1
      walk_at "run1"
      exact w_S2 ⟨d, a, w, n, D, rfl, hD, ok, trivial, fun _ => k0 pw, fun q => (by rw [pw] at q; cases q), fun t q => (by rw [pw] at q; cases q)⟩
    · rintro σ H1 ⟨h, _⟩
      cases h
  | true =>
    refine f_range (fun i σ H1 => Same H H1 ∧ ∃ v2, σ = [some (.ref d), some (.int (markD D i)), v2]) ⟨L2.Same.refl _, none, rfl⟩ ?_ ?_
    · rintro i σ H1 hi ⟨s1, v2, rfl⟩
      have hi' : i < 16 := hi
      have hD1 := hD.same s1
      obtain ⟨dx, i1⟩ := hD1.ins
      unfold dkO at i1
      walk_at "run1"
      refine w_read hD1 ok r8 pw (by omega) (by omega) fun p hp H2 s2 e2 => ?_
      have l8 := r8 (4 + (i : Int)) (by omega) (by omega)
      walk_at "run1"
      exact ⟨s1.trans s2, _, rfl⟩
    · rintro σ H1 ⟨s1, v2, rfl⟩
      walk_at "run1"
      exact k pw _ s1
theorem w_log_mark {K : PySem.W.Frag} {C : Ex} {H : Hp} {Q : VK} {E : XK} {d a w n : Addr} {D : DiskS} (x : DiskAt C H d a w n D) (ok : DiskOk D) (r8 : Rd8 D) (pw : D.pw = true) (k : ∀ H', Same H H' → Q (.int (markD D 16)) H') : sp_log_mark K C [.ref d] H Q E := w_S1 ⟨d, a, w, n, D, rfl, x, ok, r8, fun q => (by rw [pw] at q; cases q), fun _ => k⟩
def fitH (r : List Int) (m : Int) : Bool := decide ((r.drop 3).take 4 = [4, m, 0, 0]) && (decide (5 ≤ rw8 r 1 ∧ rw8 r 1 < m) && decide (1 ≤ rw8 r 2 ∧ rw8 r 2 ≤ rw8 r 0))
def sp_check_head (K : PySem.W.Frag) (C : Ex) : Sp := S2 fun a b H Q E => ∃ (q : Addr) (r : List Int) (m : Int), a = .ref q ∧ b = .int m ∧ SqL K H q (r.map V.int) ∧ r.length = 8 ∧ ∀ H', Same H H' → (fitH r m = true → Q .non H') ∧ (fitH r m = false → E (.ref C.BadImage) none H')
def t_check_head (K : PySem.W.Frag) (C : Ex) (E : XK) : TS :=
  tSeq (tIfS (tTest (tOp (uNe K) (tSl (uSl K) (tVar 0) (tPart (tC (.int 3))) (tPart (tC (.int 7)))) (tLst (tCons (tC (.int 4)) (tCons (tVar 1) (tCons (tC (.int 0)) (tCons (tC (.int 0)) (tNil)))))))) (uRaise C.BadImage (WB E)) (tNext))
  (tIfS (tOr (tNot (tTest (tChain (uLe K) (uLt K) (tC (.int 5)) (tOp (uIx K) (tVar 0) (tC (.int 1))) (tVar 1)))) (tNot (tTest (tChain (uLe K) (uLe K) (tC (.int 1)) (tOp (uIx K) (tVar 0) (tC (.int 2))) (tOp (uIx K) (tVar 0) (tC (.int 0))))))) (uRaise C.BadImage (WB E)) (tNext))
theorem pure_check_head {K : PySem.W.Frag} {C : Ex} {vs : List V} {H : Hp} {Q : VK} {E : XK} (F : Fa K C) (h : sp_check_head K C vs H Q E) : t_check_head K C E { nx := fun _ H' => Q .non H', rt := Q } (start ["words", "blocks"] vs) H := by
  obtain ⟨a, b, rfl, q, r, m, rfl, rfl, hq, h8, k⟩ := h
  unfold t_check_head
  walk_at "run1"
  refine w_slL hq fun l hl => ?_
  rw [show (3 : Int) = ((3 : Nat) : Int) from rfl, show (7 : Int) = ((7 : Nat) : Int) from rfl, cut_mid _ 3 7 (by decide) (by rw [List.length_map]; omega), ← List.map_drop, ← List.map_take]
  have s1 : Same H (upd H l (.lst (((r.drop 3).take 4).map V.int))) := same_new hl
  have e1 : upd H l (.lst (((r.drop 3).take 4).map V.int)) l = some (.lst (((r.drop 3).take 4).map V.int)) := upd_same
  rw [show 7 - 3 = 4 from rfl]
  generalize upd H l (.lst (((r.drop 3).take 4).map V.int)) = H1 at *
  walk_at "run1"
  rename_i p hp
  refine w_neD (a := (r.drop 3).take 4) (b := [4, m, 0, 0]) (Dt.list (SqL.of (upd_old e1 hp)) (DtAll.ints _)) (Dt.list (SqL.of upd_same) (DtAll.ints [4, m, 0, 0])) (by decide) ⟨_, rfl⟩ ?_
  have s2 : Same H (upd H1 p (.lst [.int 4, .int m, .int 0, .int 0])) := same_updN s1 hp
  generalize upd H1 p (.lst [.int 4, .int m, .int 0, .int 0]) = H2 at *
  obtain ⟨k1, k2⟩ := k H2 s2
  unfold fitH rw8 at k1 k2
  walk_at "run1"
  · rename_i h
    rw [decide_eq_false h] at k2
    exact k2 rfl
  · rename_i h
    rw [decide_eq_true h, Bool.true_and, ← Bool.decide_and] at k1 k2
    walk_at "run1"
    · simp only [tn0, tn1, tn2] at *
      exact k2 (decide_eq_false (by omega))
    · walk_at "run1"
      · simp only [tn0, tn1, tn2] at *
        exact k2 (decide_eq_false (by omega))
      · walk_at "run1"
        simp only [tn0, tn1, tn2] at *
        exact k1 (decide_eq_true ⟨⟨by assumption, by assumption⟩, by assumption, by assumption⟩)
      · walk_at "run1"
        simp only [tn0, tn1, tn2] at *
        exact k2 (decide_eq_false (by omega))
    · walk_at "run1"
      simp only [tn0, tn1, tn2] at *
      exact k2 (decide_eq_false (by omega))
/-- the better one of the rows below i -/
def bestH (row : Nat → List Int) : Nat → Option Nat
  | 0 => none
  | i + 1 => if validH (i : Nat) (row i) = true then (match bestH row i with
    | none => some i
    | some j => if rw8 (row i) 0 > rw8 (row j) 0 then some i else some j) else bestH row i
theorem bestH_lt (row : Nat → List Int) : ∀ (n j : Nat), bestH row n = some j → j < n
  | 0, _, h => by cases h
  | n + 1, j, h => by
    unfold bestH at h
    split at h
    · cases e : bestH row n with
      | none => rw [e] at h; cases h; omega
      | some i =>
        have := bestH_lt row n i e
        rw [e] at h
        dsimp only at h
        split at h <;> (cases h; omega)
    · have := bestH_lt row n j h
      omega
/-- the words of the present head -/
def presH (row : Nat → List Int) (m mark : Int) : Option (List Int) := match bestH row 2 with
  | none => none
  | some j => if rw8 (row (1 - j)) 7 ≥ rw8 (row j) 0 ∨ fitH (row j) m = false ∨ mark > rw8 (row j) 0 then none else some (row j)
def optN : Option Nat → V
  | none => .non
  | some j => .int (j : Nat)
def sp_present_head (K : PySem.W.Frag) (C : Ex) : Sp := S1 fun x H Q E => ∃ d a w n D, x = .ref d ∧ DiskAt C H d a w n D ∧ DiskOk D ∧ Rd8 D ∧ D.pw = true ∧
  ∀ H', Same H H' → match presH (fun i => rdS D (i : Nat)) D.blocks (markD D 16) with
    | none => E (.ref C.BadImage) none H'
    | some r => ∀ p dx t, H' p = some (hdO C dx (.int (rw8 r 0)) (.ref t) (.int D.blocks)) → SqT K H' t [.int (rw8 r 1), .int (rw8 r 2)] → H p = none → Q (.ref p) H'
def t_present_head (K : PySem.W.Frag) (C : Ex) (E : XK) : TS :=
  tSeq (tAsg (tLst (tCons (uMeth C.Disk "read" (sp_Disk_read K C) (WB E) (tVar 0) (tCons (tC (.int 0)) (tNil))) (tCons (uMeth C.Disk "read" (sp_Disk_read K C) (WB E) (tVar 0) (tCons (tC (.int 1)) (tNil))) (tNil)))) (gName 1))
  (tSeq (tAsg (tC .non) (gName 2))
  (tSeq (tFor (iRng1 (tCons (tC (.int 2)) (tNil))) (gName 3)
  (tIfS (uTru K (uCall (sp_is_valid_head K C) (WB E) (tCons (tVar 3) (tCons (tOp (uIx K) (tVar 1) (tVar 3)) (tNil))))) (tIfS (tOr (tTest (tOp (uIs) (tVar 2) (tC .non))) (tTest (tOp (uGt) (tOp (uIx K) (tOp (uIx K) (tVar 1) (tVar 3)) (tC (.int 0))) (tOp (uIx K) (tOp (uIx K) (tVar 1) (tVar 2)) (tC (.int 0)))))) (tAsg (tVar 3) (gName 2)) (tNext)) (tNext)))
  (tSeq (tIfS (tTest (tOp (uIs) (tVar 2) (tC .non))) (uRaise C.BadImage (WB E)) (tNext))
  (tSeq (tAsg (tOp (uIx K) (tVar 1) (tVar 2)) (gName 4))
  (tSeq (tIfS (tTest (tOp (uGe K) (tOp (uIx K) (tOp (uIx K) (tVar 1) (tOp (uSub) (tC (.int 1)) (tVar 2))) (tC (.int 7))) (tOp (uIx K) (tVar 4) (tC (.int 0))))) (uRaise C.BadImage (WB E)) (tNext))
  (tSeq (tDrop (uCall (sp_check_head K C) (WB E) (tCons (tVar 4) (tCons (uFld C.Disk "blocks" (tVar 0)) (tNil)))))
  (tSeq (tIfS (tTest (tOp (uGt) (uCall (sp_log_mark K C) (WB E) (tCons (tVar 0) (tNil))) (tOp (uIx K) (tVar 4) (tC (.int 0))))) (uRaise C.BadImage (WB E)) (tNext))
  (tRet (uMake C.Head (sp_Head___init__ K C) (WB E) (tCons (tOp (uIx K) (tVar 4) (tC (.int 0))) (tCons (tTup (tCons (tOp (uIx K) (tVar 4) (tC (.int 1))) (tCons (tOp (uIx K) (tVar 4) (tC (.int 2))) (tNil)))) (tCons (uFld C.Disk "blocks" (tVar 0)) (tNil)))))))))))))
theorem pure_present_head {K : PySem.W.Frag} {C : Ex} {vs : List V} {H : Hp} {Q : VK} {E : XK} (F : Fa K C) (h : sp_present_head K C vs H Q E) : t_present_head K C E { nx := fun _ H' => Q .non H', rt := Q } (start ["disk", "rows", "best", "sector", "words"] vs) H := by
  obtain ⟨x, rfl, d, a, w, n, D, rfl, hD, ok, r8, pw, k⟩ := h
  obtain ⟨dx, i0⟩ := hD.ins
  unfold dkO at i0
  have hsz := ok.sz
  have hbl := ok.bl
  unfold t_present_head
  walk_at "run1"
  refine w_read hD ok r8 pw (by omega) (by omega) fun p0 hp0 H1 s1 e1 => ?_
  have i1 := s1 _ _ i0
  walk_at "run1"
  refine w_read (hD.same s1) ok r8 pw (by omega) (by omega) fun p1 hp1 H2 s2 e2 => ?_
  have e12 := s2 _ _ e1
  walk_at "run1"
  rename_i l hl
  have s3 : Same H2 (upd H2 l (.lst [.ref p0, .ref p1])) := same_new hl
  have e3 : upd H2 l (.lst [.ref p0, .ref p1]) l = some (.lst [.ref p0, .ref p1]) := upd_same
  have sH : Same H (upd H2 l (.lst [.ref p0, .ref p1])) := (s1.trans s2).trans s3
  have q0 := s3 _ _ e12
  have q1 := s3 _ _ e2
  generalize upd H2 l (.lst [.ref p0, .ref p1]) = H3 at *
  have hD3 := hD.same sH
  have l0 : (rdS D 0).length = 8 := r8 0 (by omega) (by omega)
  have l1 : (rdS D 1).length = 8 := r8 1 (by omega) (by omega)
  have row : ∀ i : Nat, i < 2 → ∃ p, [V.ref p0, V.ref p1][i]? = some (.ref p) ∧ SqL K H3 p ((rdS D (i : Nat)).map V.int) ∧ (rdS D (i : Nat)).length = 8 := by
    intro i hi
    rcases i with _ | _ | i
    · exact ⟨p0, rfl, SqL.of q0, l0⟩
    · exact ⟨p1, rfl, SqL.of q1, l1⟩
    · omega
  refine f_range (fun i σ H4 => H4 = H3 ∧ ∃ v3, σ = [some (.ref d), some (.ref l), some (optN (bestH (fun i => rdS D (i : Nat)) i)), v3, none]) ⟨rfl, none, rfl⟩ ?_ ?_
  · rintro i σ H4 hi ⟨rfl, v3, rfl⟩
    have hi' : i < 2 := hi
    obtain ⟨p, hp, hq, h8⟩ := row i hi'
    walk_at "run1"
    refine w_ixL (k := i) (SqL.of e3) (by omega) hp ?_
    walk_at "run1"
    refine w_S2 ⟨_, p, _, rfl, rfl, hq, h8, ?_⟩
    have eb : bestH (fun i => rdS D (i : Nat)) (i + 1) = if validH (i : Nat) (rdS D (i : Nat)) = true then (match bestH (fun i => rdS D (i : Nat)) i with
      | none => some i
      | some j => if rw8 (rdS D (i : Nat)) 0 > rw8 (rdS D (j : Nat)) 0 then some i else some j) else bestH (fun i => rdS D (i : Nat)) i := rfl
    rw [show (0 + (i : Int)) = (i : Int) by omega]
    walk_at "run1"
    refine ifB (fun hv => ?_) (fun hv => ?_)
    · rw [if_pos hv] at eb
      cases ej : bestH (fun i => rdS D (i : Nat)) i with
      | none =>
        rw [ej] at eb
        rw [show optN none = V.non from rfl]
        walk_at "run1"
        exact ⟨rfl, _, by rw [eb]; rfl⟩
      | some j =>
        rw [ej] at eb
        rw [show optN (some j) = V.int (j : Nat) from rfl]
        obtain ⟨p', hp', hq', h8'⟩ := row j (by have := bestH_lt _ _ _ ej; omega)
        walk_at "run1"
        refine w_ixL (k := i) (SqL.of e3) rfl hp ?_
        walk_at "run1"
        refine w_ixL (k := j) (SqL.of e3) rfl hp' ?_
        walk_at "run1"
        · rename_i hg
          exact ⟨rfl, _, by rw [eb]; dsimp only; rw [if_pos (show rw8 (rdS D (i : Nat)) 0 > rw8 (rdS D (j : Nat)) 0 from hg)]; rfl⟩
        · walk_at "run1"
          rename_i hg
          exact ⟨rfl, _, by rw [eb]; dsimp only; rw [if_neg (show ¬ rw8 (rdS D (i : Nat)) 0 > rw8 (rdS D (j : Nat)) 0 from hg)]; rfl⟩
    · rw [if_neg (by rw [hv]; decide)] at eb
      walk_at "run1"
      exact ⟨rfl, _, by rw [eb]; rfl⟩
  · rintro σ H4 ⟨rfl, v3, rfl⟩
    rw [tn2]
    unfold presH at k
    cases ej : bestH (fun i => rdS D (i : Nat)) 2 with
    | none =>
      rw [ej] at k
      rw [show optN none = V.non from rfl]
      walk_at "run1"
      exact k H4 sH
    | some j =>
      rw [ej] at k
      rw [show optN (some j) = V.int (j : Nat) from rfl]
      have hj := bestH_lt _ _ _ ej
      obtain ⟨p, hp, hq, h8⟩ := row j hj
      obtain ⟨p', hp', hq', h8'⟩ := row (1 - j) (by omega)
      walk_at "run1"
      refine w_ixL (k := j) (SqL.of e3) rfl hp ?_
      walk_at "run1"
      refine w_ixL (k := 1 - j) (SqL.of e3) (by omega) hp' ?_
      have i4 := sH _ _ i0
      walk_at "run1"
      · rename_i hg
        have := k H4 sH
        dsimp only at this
        rw [if_pos (.inl hg)] at this
        exact this
      · walk_at "run1"
        rename_i hg
        refine w_S2 ⟨p, _, _, rfl, rfl, hq, h8, fun H5 s5 => ⟨fun hf => ?_, fun hf => ?_⟩⟩
        · walk_at "run1"
          refine w_log_mark (hD3.same s5) ok r8 pw fun H6 s6 => ?_
          have hq6 := (s5.trans s6).seq hq
          walk_at "run1"
          · rename_i hm
            have := k H6 ((sH.trans s5).trans s6)
            dsimp only at this
            rw [if_pos (.inr (.inr hm))] at this
            exact this
          · walk_at "run1"
            rename_i hm t ht
            have s16 := (sH.trans s5).trans s6
            have st := same_updN s16 (o := .tup [V.int ((rdS D (j : Nat)).getD (1 : Int).toNat 0), V.int ((rdS D (j : Nat)).getD (2 : Int).toNat 0)]) ht
            have et : upd H6 t (.tup [V.int ((rdS D (j : Nat)).getD (1 : Int).toNat 0), V.int ((rdS D (j : Nat)).getD (2 : Int).toNat 0)]) t = some (.tup [V.int (rw8 (rdS D (j : Nat)) 1), V.int (rw8 (rdS D (j : Nat)) 2)]) := upd_same
            generalize upd H6 t (.tup [V.int ((rdS D (j : Nat)).getD (1 : Int).toNat 0), V.int ((rdS D (j : Nat)).getD (2 : Int).toNat 0)]) = H7 at *
            have i7 := st _ _ i0
            walk_at "run1"
            intro x dx' hx hdx hne
            refine w_S4 ⟨x, dx', rfl, upd_same, fun H' hh fr => ⟨rfl, ?_⟩⟩
            have s7 : Same H7 H' := fun c o h => fr c o (by rw [upd_ne (ne_of_none h hx), upd_ne (ne_of_none h hdx)]; exact h) (ne_of_none h hx)
            have := k H' (st.trans s7)
            dsimp only at this
            rw [if_neg (fun h => h.elim hg fun h => h.elim (fun h => by rw [hf] at h; cases h) hm)] at this
            exact this x dx' t hh (SqT.of (s7 _ _ et)) (st.free hx)
        · have := k H5 (sH.trans s5)
          dsimp only at this
          rw [if_pos (.inr (.inl hf))] at this
          exact this
def torn (k : Int) (r old : List Int) : List Int := r.take k.toNat ++ old.drop k.toNat
theorem torn_len {k : Int} {r old : List Int} (h : r.length = 8) (h' : old.length = 8) : (torn k r old).length = 8 := by
  unfold torn
  rw [List.length_append, List.length_take, List.length_drop]
  omega
def cutS : List (List Int) → List (Int × List Int) → List Int → List (List Int)
  | rs, [], _ => rs
  | rs, _ :: _, [] => rs
  | rs, (s, r) :: w, c :: cs => cutS (rs.set s.toNat (torn c r (rs.getD s.toNat []))) w cs
theorem cutS_e (rs : List (List Int)) (cs : List Int) : cutS rs [] cs = rs := by cases cs <;> rfl
theorem cutS_nil (rs : List (List Int)) (w : List (Int × List Int)) : cutS rs w [] = rs := by cases w <;> rfl
theorem cutS_snoc (s : Int) (r : List Int) : ∀ (w : List (Int × List Int)) (rs : List (List Int)) (cs : List Int), cutS rs (w ++ [(s, r)]) cs = match cs[w.length]? with
    | some c => (cutS rs w cs).set s.toNat (torn c r ((cutS rs w cs).getD s.toNat []))
    | none => cutS rs w cs
  | [], rs, [] => rfl
  | [], rs, c :: cs => by
    show cutS (rs.set s.toNat (torn c r (rs.getD s.toNat []))) [] cs = (cutS rs [] (c :: cs)).set s.toNat (torn c r ((cutS rs [] (c :: cs)).getD s.toNat []))
    rw [cutS_e, cutS_e]
  | p :: w, rs, [] => rfl
  | (t, q) :: w, rs, c :: cs => by
    show cutS (rs.set t.toNat (torn c q (rs.getD t.toNat []))) (w ++ [(s, r)]) cs = _
    rw [cutS_snoc s r w _ cs]
    rfl
theorem cutS_len : ∀ (w : List (Int × List Int)) (rs : List (List Int)) (cs : List Int), (cutS rs w cs).length = rs.length
  | [], rs, cs => by rw [cutS_e]
  | _ :: _, _, [] => rfl
  | (t, q) :: w, rs, c :: cs => (cutS_len w _ cs).trans (List.length_set ..)
def cutD (D : DiskS) (cs : List Int) : DiskS := { D with secs := cutS D.secs D.wr cs, wr := [], left := none, pw := true }
theorem all_btw {lo hi : Int} {xs : List V} (h : xs.all (btw lo hi) = true) : ∃ cs : List Int, xs = cs.map V.int ∧ ∀ z ∈ cs, lo ≤ z ∧ z ≤ hi := by
  induction xs with
  | nil => exact ⟨[], rfl, fun z h => by simp at h⟩
  | cons x xs ih =>
    rw [List.all_cons, Bool.and_eq_true] at h
    obtain ⟨cs, rfl, hc⟩ := ih h.2
    obtain ⟨i, rfl, h1, h2⟩ := btw_inv h.1
    refine ⟨i :: cs, rfl, fun z hz => ?_⟩
    rcases List.mem_cons.mp hz with rfl | hz
    · exact ⟨h1, h2⟩
    · exact hc z hz
/-- the lists of writes are new, the disk's own object has changed -/
theorem reset {C : Ex} {H H2 H5 : Hp} {d a w n dx w' n' : Addr} {fs : List (Str × V)} {vs : List V} {D : DiskS} (st : Stp (dkF d a w n) H (dkF d a w n) H2) (h1 : H2 d = some (.ins C.Disk dx fs)) (h2 : H2 a = some (.lst vs)) (rr : RowsAt H2 vs D.secs)
    (hw : H2 w' = none) (hn : H2 n' = none) (fr : ∀ b o, H2 b = some o → b ≠ d → H5 b = some o) (i5 : H5 d = some (dkO C dx a w' n' D)) (w5 : H5 w' = some (.lst [])) (n5 : H5 n' = some (.dK [])) (e : D.wr = []) :
    DiskAt C H5 d a w' n' D ∧ Stp (dkF d a w n) H (dkF d a w' n') H5 := by
  have rr5 : RowsAt H5 vs D.secs := rr.map fun v r ⟨l, p, ep, hp⟩ => ⟨l, p, ep, fr p _ hp (ne_of hp h1 fun z => nomatch z)⟩
  refine ⟨⟨⟨dx, i5⟩, ⟨vs, fr a _ h2 (ne_of h2 h1 fun z => nomatch z), rr5⟩, ⟨[], w5, by rw [e]; exact ⟨rfl, fun i v h => by simp at h⟩⟩, ⟨[], n5, by rw [e]; exact ⟨Nat.le_refl 0, fun _ h => by simp at h, fun s => .inl ⟨rfl, rfl⟩⟩⟩, ne_of_none h2 hw⟩, fun b o h nb => ?_, fun b hb => ?_⟩
  · exact fr b o (st.1 b o h nb) fun q => nb (by rw [q]; exact List.mem_cons_self ..)
  · rcases List.mem_cons.mp hb with rfl | hb
    · exact .inl (by simp [dkF])
    rcases List.mem_cons.mp hb with rfl | hb
    · exact .inl (by simp [dkF])
    rcases List.mem_cons.mp hb with rfl | hb
    · exact st.fresh hw
    rcases List.mem_cons.mp hb with rfl | hb
    · exact st.fresh hn
    · cases hb
def sp_Disk_cut (K : PySem.W.Frag) (C : Ex) : Sp := S2 fun x c H Q E => ∃ d a w n D q xs, x = .ref d ∧ c = .ref q ∧ DiskAt C H d a w n D ∧ DiskOk D ∧ SqL K H q xs ∧ (∀ x ∈ xs, Known K H x) ∧ q ≠ a ∧
  (xs.all (btw 0 8) = false → E (.ref C.NotValid) none H) ∧
  ∀ cs : List Int, xs = cs.map V.int → (∀ z ∈ cs, 0 ≤ z ∧ z ≤ 8) → ∀ H' w' n', DiskAt C H' d a w' n' (cutD D cs) → Stp (dkF d a w n) H (dkF d a w' n') H' → Q .non H'
def t_Disk_cut (K : PySem.W.Frag) (C : Ex) (E : XK) : TS :=
  tSeq (tIfS (tNot (uTru K (tCB (uIsi K .list) (tCons (tVar 1) (tCons (tC (.ty "list")) (tNil)))))) (uRaise C.NotValid (WB E)) (tNext))
  (tSeq (tFor (iList K (tVar 1)) (gName 2)
  (tIfS (tNot (uTru K (uCall (sp_is_between K C) (WB E) (tCons (tVar 2) (tCons (tC (.int 0)) (tCons (tC (.int 8)) (tNil))))))) (uRaise C.NotValid (WB E)) (tNext)))
  (tSeq (tFor (iEnum K (tCons (uFld C.Disk "writes" (tVar 0)) (tNil))) (gTup K 2 (gCons (gName 3) (gCons (gTup K 2 (gCons (gName 4) (gCons (gName 5) (gNil)))) (gNil))))
  (tIfS (tTest (tOp (uLt K) (tVar 3) (tCB (uLen K) (tCons (tVar 1) (tNil))))) (tSeq (tAsg (tOp (uIx K) (tVar 1) (tVar 3)) (gName 6))
  (tAsg (tOp (uAdd K) (tSl (uSl K) (tVar 5) (tNoPart) (tPart (tVar 6))) (tSl (uSl K) (tOp (uIx K) (uFld C.Disk "sectors" (tVar 0)) (tVar 4)) (tPart (tVar 6)) (tNoPart))) (gSub (uFld C.Disk "sectors" (tVar 0)) (tVar 4) uSet))) (tNext)))
  (tSeq (uSetF C.Disk "writes" (tVar 0) (tLst (tNil)))
  (tSeq (uSetF C.Disk "newest" (tVar 0) (tDNewK))
  (tSeq (uSetF C.Disk "left" (tVar 0) (tC .non))
  (uSetF C.Disk "power" (tVar 0) (tC (.bl true))))))))
theorem pure_Disk_cut {K : PySem.W.Frag} {C : Ex} {vs : List V} {H : Hp} {Q : VK} {E : XK} (F : Fa K C) (h : sp_Disk_cut K C vs H Q E) : t_Disk_cut K C E { nx := fun _ H' => Q .non H', rt := Q } (start ["self", "choices", "choice", "index", "sector", "words", "kept"] vs) H := by
  obtain ⟨x, c, rfl, d, a, w, n, D, q, xs, rfl, rfl, hD, ok, hq, hk, nqa, k1, k2⟩ := h
  obtain ⟨⟨dx, i⟩, ⟨vs, e1, r1⟩, ⟨ws, e2, r2⟩, ⟨kvs, e3, r3⟩, ne⟩ := hD
  have hsz := ok.sz
  have hbl := ok.bl
  have hdk := i
  unfold dkO at i
  unfold t_Disk_cut
  walk_at "run1"
  refine w_isi_list_L hq ?_
  walk_at "run1"
  refine f_list (xs := xs) (fun i σ H1 => H1 = H ∧ (∃ v2, σ = [some (.ref d), some (.ref q), v2, none, none, none, none]) ∧ (xs.take i).all (btw 0 8) = true) ⟨rfl, ⟨none, rfl⟩, rfl⟩ (by rintro i σ H1 _ ⟨rfl, _⟩; exact hq) ?_ ?_
  · rintro i x σ H1 hx ⟨rfl, ⟨v2, rfl⟩, ha⟩
    walk_at "run1"
    refine w_S3 ⟨0, 8, rfl, rfl, hk x (List.mem_of_getElem? hx), ?_⟩
    walk_at "run1"
    refine ifBN (fun hf => ?_) (fun ht => ?_)
    · walk_at "run1"
      exact k1 (all_not hx hf)
    · walk_at "run1"
      exact ⟨rfl, ⟨_, rfl⟩, all_take hx ha ht⟩
  rintro σ H1 ⟨rfl, ⟨v2, rfl⟩, ha⟩
  rw [List.take_length] at ha
  obtain ⟨cs, rfl, hcs⟩ := all_btw ha
  have k2 := k2 cs rfl hcs
  clear k1 ha hk
  walk_at "run1"
  refine f_enum (xs := ws) (fun i σ H2 => ∃ v3 v4 v5 v6, σ = [some (.ref d), some (.ref q), v2, v3, v4, v5, v6] ∧ H2 d = some (dkO C dx a w n D) ∧ (∃ vs, H2 a = some (.lst vs) ∧ RowsAt H2 vs (cutS D.secs (D.wr.take i) cs)) ∧ H2 w = some (.lst ws) ∧ WrsAt H2 ws D.wr ∧ SqL K H2 q (cs.map V.int) ∧ Stp (dkF d a w n) H1 (dkF d a w n) H2)
    ⟨none, none, none, none, rfl, hdk, ⟨vs, e1, by rw [List.take_zero, cutS_e]; exact r1⟩, e2, r2, hq, .refl⟩ (by rintro i σ H2 _ ⟨_, _, _, _, _, _, _, h, _⟩; exact SqL.of h) ?_ ?_
  · rintro i x σ H2 T hx ⟨v3, v4, v5, v6, rfl, h1, ⟨vs, h2, rr⟩, h3, h4, hq2, st⟩ hT
    obtain ⟨s, r, hsr, t, y, rfl, et, ry⟩ := h4.2 _ _ hx
    obtain ⟨l8, py, rfl, ey⟩ := ry
    have wk := ok.wk _ (List.mem_of_getElem? hsr)
    have hs0 : 0 ≤ s := wk.1
    have hs1 : s < 4 * D.blocks := wk.2
    have hiw : i < D.wr.length := (List.getElem?_eq_some_iff.mp hsr).1
    have hlr : vs.length = D.secs.length := by rw [rr.1, cutS_len]
    have htk : (D.wr.take i).length = i := by rw [List.length_take]; omega
    have sT : Same H2 (upd H2 T (.tup [.int (i : Nat), .ref t])) := same_new hT
    have eT : upd H2 T (.tup [.int (i : Nat), .ref t]) T = some (.tup [.int (i : Nat), .ref t]) := upd_same
    generalize upd H2 T (.tup [.int (i : Nat), .ref t]) = H3 at *
    have h13 := sT _ _ h1
    have h23 := sT _ _ h2
    have h33 := sT _ _ h3
    have et3 := sT _ _ et
    have ey3 := sT _ _ ey
    have hq3 := sT.seq hq2
    have rr3 := rr.same sT
    have h43 := h4.map (fun _ _ y => y.same sT) fun _ _ e => sT _ _ e
    have st3 := st.trans (.same sT)
    unfold dkO at h13
    walk_at "run1"
    · rename_i hlt
      have hc : i < cs.length := by simp only [List.length_map] at hlt; omega
      have hcc : cs[i]? = some (cs.getD (i : Int).toNat 0) := by rw [Int.toNat_natCast, List.getD_eq_getElem?_getD, List.getElem?_eq_getElem hc]; rfl
      have hc8 := hcs _ (List.mem_of_getElem? hcc)
      generalize cs.getD (i : Int).toNat 0 = cc at *
      refine w_slL (SqL.of ey3) fun l hl => ?_
      rw [show cutV (r.map V.int) none (some cc) = (r.take cc.toNat).map V.int by
        have z := cut_take (r.map V.int) cc.toNat
        rw [show ((cc.toNat : Nat) : Int) = cc by omega] at z
        rw [z, List.map_take]]
      have s4 : Same H3 (upd H3 l (.lst ((r.take cc.toNat).map V.int))) := same_new hl
      have e4 : upd H3 l (.lst ((r.take cc.toNat).map V.int)) l = some (.lst ((r.take cc.toNat).map V.int)) := upd_same
      generalize upd H3 l (.lst ((r.take cc.toNat).map V.int)) = H4 at *
      have h14 := s4 _ _ h13
      have hsn : s.toNat < vs.length := by omega
      obtain ⟨ro, ero, lo8, po, epo, hpo⟩ := (rr3.same s4).2 s.toNat _ (List.getElem?_eq_getElem hsn)
      walk_at "run1"
      refine w_ixL (k := s.toNat) (SqL.of (s4 _ _ h23)) (by omega) ((List.getElem?_eq_getElem hsn).trans (by rw [epo])) ?_
      walk_at "run1"
      refine w_slL (SqL.of hpo) fun l2 hl2 => ?_
      rw [show cutV (ro.map V.int) (some cc) none = (ro.drop cc.toNat).map V.int by
        have z := cut_drop (ro.map V.int) cc.toNat
        rw [show ((cc.toNat : Nat) : Int) = cc by omega] at z
        rw [z, List.map_drop]]
      refine w_cat (upd_old e4 hl2) upd_same (by rw [List.length_map, List.length_map, List.length_take, List.length_drop]; omega) fun l3 hl3 => ?_
      rw [← List.map_append]
      have s5 := same_updN (o := .lst ((r.take cc.toNat ++ ro.drop cc.toNat).map V.int)) (same_new (o := .lst ((ro.drop cc.toNat).map V.int)) hl2) hl3
      have rl : RowAt (upd (upd H4 l2 (.lst ((ro.drop cc.toNat).map V.int))) l3 (.lst ((r.take cc.toNat ++ ro.drop cc.toNat).map V.int))) (.ref l3) (torn cc r ro) := .of (torn_len l8 lo8) upd_same
      generalize upd (upd H4 l2 _) l3 _ = H5 at *
      have s35 := s4.trans s5
      have h15 := s5 _ _ h14
      have h25 := s35 _ _ h23
      walk_at "run1"
      refine w_setL h25 ⟨hs0, hsn⟩ ?_
      have pa := plain_refs rr.ref
      have fr6 := row_upd (o := .lst (vs.set s.toNat (.ref l3))) h25 pa
      have ft6 := tup_upd (o := .lst (vs.set s.toNat (.ref l3))) h25 pa
      refine ⟨_, _, _, _, rfl, upd_oth h15 (ne_of h15 h25 fun z => nomatch z), ⟨_, upd_same, ?_⟩, upd_oth (s35 _ _ h33) ne.symm, (h43.map (fun _ _ y => y.same s35) fun _ _ e => s35 _ _ e).map fr6 ft6, sql_oth (s35.seq hq3) nqa, (st3.trans (.same s35)).upd (by simp [dkF])⟩
      rw [take_snoc hsr, cutS_snoc, htk, hcc]
      dsimp only
      rw [show (cutS D.secs (D.wr.take i) cs).getD s.toNat [] = ro by rw [List.getD_eq_getElem?_getD, ero]; rfl]
      exact ((rr3.same s35).map fr6).set (fr6 _ _ rl)
    · walk_at "run1"
      rename_i hlt
      have hc : cs[i]? = none := List.getElem?_eq_none (by simp only [List.length_map] at hlt; omega)
      refine ⟨_, _, _, _, rfl, h13, ⟨vs, h23, ?_⟩, h33, h43, hq3, st3⟩
      rw [take_snoc hsr, cutS_snoc, htk, hc]
      exact rr3
  · rintro σ H2 ⟨v3, v4, v5, v6, rfl, h1, ⟨vs, h2, rr⟩, h3, h4, hq2, st⟩
    rw [r2.1, List.take_length] at rr
    unfold dkO at h1
    walk_at "run1"
    rename_i w' hw' n' hn'
    have nwd : w' ≠ d := (ne_of_none h1 hw').symm
    have hn2 := none_of_upd (none_of_upd hn').1
    have nnd : n' ≠ d := (none_of_upd hn').2
    have nnw : n' ≠ w' := hn2.2
    obtain ⟨g1, g2⟩ := reset (C := C) (D := cutD D cs) (w' := w') (n' := n') (H5 := upd (upd (upd (upd (upd (upd H2 w' (.lst [])) d (.ins C.Disk dx [("blocks", .int D.blocks), ("sectors", .ref a), ("writes", .ref w'), ("newest", .ref n), ("left", optI D.left), ("power", .bl D.pw)])) n' (.dK [])) d (.ins C.Disk dx [("blocks", .int D.blocks), ("sectors", .ref a), ("writes", .ref w'), ("newest", .ref n'), ("left", optI D.left), ("power", .bl D.pw)])) d (.ins C.Disk dx [("blocks", .int D.blocks), ("sectors", .ref a), ("writes", .ref w'), ("newest", .ref n'), ("left", .non), ("power", .bl D.pw)])) d (dkO C dx a w' n' (cutD D cs)))
      st h1 h2 rr hw' hn2.1 (fun b o h nb => by
        rw [upd_ne nb, upd_ne nb, upd_ne nb, upd_ne (ne_of_none h hn2.1), upd_ne nb, upd_ne (ne_of_none h hw')]; exact h) upd_same
      (by rw [upd_ne nwd, upd_ne nwd, upd_ne nwd, upd_ne nnw.symm, upd_ne nwd]; exact upd_same) (by rw [upd_ne nnd, upd_ne nnd, upd_ne nnd]; exact upd_same) rfl
    exact k2 _ w' n' g1 g2
def sp_Disk_fail_after (K : PySem.W.Frag) (C : Ex) : Sp := S2 fun x c H Q E => ∃ d a w n D, x = .ref d ∧ DiskAt C H d a w n D ∧ Known K H c ∧ (c ≠ .non → btw 0 100000 c = false → E (.ref C.NotValid) none H) ∧
  ∀ o : Option Int, c = optI o → (∀ z, o = some z → 0 ≤ z ∧ z ≤ 100000) → ∀ H', DiskAt C H' d a w n { D with left := o } → Stp (dkF d a w n) H (dkF d a w n) H' → Q .non H'
def t_Disk_fail_after (K : PySem.W.Frag) (C : Ex) (E : XK) : TS :=
  tSeq (tIfS (tAnd (tTest (tOp (uIsnt) (tVar 1) (tC .non))) (tNot (uTru K (uCall (sp_is_between K C) (WB E) (tCons (tVar 1) (tCons (tC (.int 0)) (tCons (tC (.int 100000)) (tNil)))))))) (uRaise C.NotValid (WB E)) (tNext))
  (uSetF C.Disk "left" (tVar 0) (tVar 1))
theorem pure_Disk_fail_after {K : PySem.W.Frag} {C : Ex} {vs : List V} {H : Hp} {Q : VK} {E : XK} (F : Fa K C) (h : sp_Disk_fail_after K C vs H Q E) : t_Disk_fail_after K C E { nx := fun _ H' => Q .non H', rt := Q } (start ["self", "count"] vs) H := by
  obtain ⟨x, c, rfl, d, a, w, n, D, rfl, hD, hk, k1, k2⟩ := h
  obtain ⟨dx, i⟩ := hD.ins
  have i0 := i
  unfold dkO at i
  have fin : ∀ o : Option Int, c = optI o → (∀ z, o = some z → 0 ≤ z ∧ z ≤ 100000) → Q .non (upd H d (.ins C.Disk dx [("blocks", .int D.blocks), ("sectors", .ref a), ("writes", .ref w), ("newest", .ref n), ("left", optI o), ("power", .bl D.pw)])) := fun o e ho =>
    k2 o e ho _ (hD.fields (dx := dx) (D' := { D with left := o }) rfl rfl) ⟨fun b u h nb => upd_oth h fun q => nb (by rw [q]; exact List.mem_cons_self ..), fun b h => .inl h⟩
  unfold t_Disk_fail_after
  cases c with
  | non =>
    walk_at "run1"
    exact fin none rfl fun z h => nomatch h
  | byt _ => exact hk.elim
  | flt _ => exact hk.elim
  | ty _ => exact hk.elim
  | int z =>
    walk_at "run1"
    refine w_S3 ⟨0, 100000, rfl, rfl, trivial, ?_⟩
    walk_at "run1"
    refine ifBN (fun hf => ?_) (fun ht => ?_)
    · walk_at "run1"
      exact k1 (fun q => nomatch q) hf
    · walk_at "run1"
      obtain ⟨z', e, h1, h2⟩ := btw_inv ht
      cases e
      exact fin (some z) rfl fun y h => by cases h; exact ⟨h1, h2⟩
  | _ =>
    walk_at "run1"
    refine w_S3 ⟨0, 100000, rfl, rfl, hk, ?_⟩
    walk_at "run1"
    exact k1 (fun q => nomatch q) rfl
structure SpS where
  nums : List Int
  held : List Bool
  low : Int
def isFr (ns : List Int) (hs : List Bool) (i : Nat) : Bool := decide (ns.getD i 0 = 0) && !hs.getD i false
/-- the free blocks in ascending order -/
def freeL (ns : List Int) (hs : List Bool) : List Nat := (List.range ns.length).filter (isFr ns hs)
structure SpOk (S : SpS) : Prop where
  len : S.nums.length = S.held.length
  nn : ∀ z ∈ S.nums, 0 ≤ z
  lo : 0 ≤ S.low
  fr : ∀ i : Nat, (i : Int) < S.low → isFr S.nums S.held i = false
  sz : S.nums.length ≤ 100000
def spO (C : Ex) (dx a b : Addr) (ns : List Int) (sp low : Int) : HO := .ins C.Space dx [("blocks", .int (ns.length : Nat)), ("numbers", .ref a), ("held", .ref b), ("spare", .int sp), ("low", .int low)]
structure SpAt (C : Ex) (H : Hp) (s a b : Addr) (S : SpS) : Prop where
  ins : ∃ dx, H s = some (spO C dx a b S.nums (freeL S.nums S.held).length S.low)
  nm : H a = some (.lst (S.nums.map V.int))
  hd : H b = some (.lst (S.held.map V.bl))
  ne : a ≠ b
/-- the lists alone; what is counted stands open -/
structure SpR (C : Ex) (H : Hp) (s a b : Addr) (S : SpS) : Prop where
  ins : ∃ dx sp low, H s = some (spO C dx a b S.nums sp low)
  nm : H a = some (.lst (S.nums.map V.int))
  hd : H b = some (.lst (S.held.map V.bl))
  ne : a ≠ b
theorem SpAt.r {C : Ex} {H : Hp} {s a b : Addr} {S : SpS} (x : SpAt C H s a b S) : SpR C H s a b S := by
  obtain ⟨⟨dx, i⟩, h1, h2, ne⟩ := x
  exact ⟨⟨dx, _, _, i⟩, h1, h2, ne⟩
theorem SpAt.same {C : Ex} {H H' : Hp} {s a b : Addr} {S : SpS} (x : SpAt C H s a b S) (e : Same H H') : SpAt C H' s a b S := by
  obtain ⟨⟨dx, i⟩, h1, h2, ne⟩ := x
  exact ⟨⟨dx, e _ _ i⟩, e _ _ h1, e _ _ h2, ne⟩
abbrev spF (s a b : Addr) : List Addr := [s, a, b]
theorem SpAt.fresh {C : Ex} {H : Hp} {s a b p : Addr} {S : SpS} (x : SpAt C H s a b S) (h : H p = none) : p ∉ spF s a b := by
  obtain ⟨⟨_, x1⟩, x2, x3, _⟩ := x
  intro hb
  simp only [spF, List.mem_cons, List.not_mem_nil, or_false] at hb
  rcases hb with rfl | rfl | rfl
  · rw [x1] at h; cases h
  · rw [x2] at h; cases h
  · rw [x3] at h; cases h
theorem isFr_set {ns : List Int} {hs : List Bool} {k i : Nat} {z : Int} (h : k ≠ i) : isFr (ns.set k z) hs i = isFr ns hs i := by
  unfold isFr
  rw [List.getD_eq_getElem?_getD, List.getElem?_set_ne h, ← List.getD_eq_getElem?_getD]
theorem isFr_here {ns : List Int} {hs : List Bool} {k : Nat} {z : Int} (h : k < ns.length) : isFr (ns.set k z) hs k = (decide (z = 0) && !hs.getD k false) := by
  unfold isFr
  rw [List.getD_eq_getElem?_getD, List.getElem?_set_self h]
  rfl
theorem freeL_eq {ns ns' : List Int} {hs hs' : List Bool} (hl : ns'.length = ns.length) (h : ∀ i, i < ns.length → isFr ns' hs' i = isFr ns hs i) : freeL ns' hs' = freeL ns hs := by
  unfold freeL
  rw [hl]
  exact List.filter_congr fun i hi => h i (List.mem_range.mp hi)
theorem freeL_mem {ns : List Int} {hs : List Bool} {i : Nat} : i ∈ freeL ns hs ↔ i < ns.length ∧ isFr ns hs i = true := by
  unfold freeL
  rw [List.mem_filter, List.mem_range]
theorem freeL_sorted (ns : List Int) (hs : List Bool) : (freeL ns hs).Pairwise (· < ·) := List.Pairwise.filter _ List.pairwise_lt_range
/-- the least free block -/
theorem freeL_head {ns : List Int} {hs : List Bool} {k : Nat} {r : List Nat} (e : freeL ns hs = k :: r) : k < ns.length ∧ isFr ns hs k = true ∧ ∀ i, i < k → isFr ns hs i = false := by
  have hk : k ∈ freeL ns hs := by rw [e]; exact List.mem_cons_self ..
  obtain ⟨h1, h2⟩ := freeL_mem.mp hk
  refine ⟨h1, h2, fun i hi => ?_⟩
  cases q : isFr ns hs i with
  | false => rfl
  | true =>
    have hm : i ∈ freeL ns hs := freeL_mem.mpr ⟨by omega, q⟩
    have hs' := freeL_sorted ns hs
    rw [e] at hm hs'
    rcases List.mem_cons.mp hm with h | h
    · omega
    · have := (List.pairwise_cons.mp hs').1 i h
      omega
/-- a free block is taken -/
theorem freeL_take {ns : List Int} {hs : List Bool} {k : Nat} {r : List Nat} {z : Int} (e : freeL ns hs = k :: r) (hz : z ≠ 0) : freeL (ns.set k z) hs = r := by
  obtain ⟨h1, h2, h3⟩ := freeL_head e
  have e2 : freeL (ns.set k z) hs = (freeL ns hs).filter (fun i => decide (i ≠ k)) := by
    unfold freeL
    rw [List.length_set, List.filter_filter]
    refine List.filter_congr fun i hi => ?_
    by_cases q : k = i
    · subst q
      rw [isFr_here h1, decide_eq_false hz]
      simp
    · rw [isFr_set q, decide_eq_true (Ne.symm q)]
      simp
  rw [e2, e]
  have hs' := freeL_sorted ns hs
  rw [e] at hs'
  have hr := (List.pairwise_cons.mp hs').1
  rw [List.filter_cons, if_neg (by simp)]
  exact List.filter_eq_self.mpr fun i hi => decide_eq_true (by have := hr i hi; omega)
/-- a block becomes free -/
theorem freeL_drop {ns : List Int} {hs : List Bool} {k : Nat} (hk : k < ns.length) (h1 : isFr ns hs k = false) (h2 : hs.getD k false = false) : (freeL (ns.set k 0) hs).length = (freeL ns hs).length + 1 := by
  have z0 : ns.getD k 0 ≠ 0 := fun q => by
    unfold isFr at h1
    rw [q, h2] at h1
    simp at h1
  have hn : (freeL (ns.set k 0) hs).Nodup := (freeL_sorted _ _).imp fun h => Nat.ne_of_lt h
  have hm : k ∈ freeL (ns.set k 0) hs := freeL_mem.mpr ⟨by rw [List.length_set]; exact hk, by rw [isFr_here hk, h2]; rfl⟩
  have e2 : freeL ns hs = (freeL (ns.set k 0) hs).filter (fun i => decide (i ≠ k)) := by
    unfold freeL
    rw [List.length_set, List.filter_filter]
    refine List.filter_congr fun i hi => ?_
    by_cases q : k = i
    · subst q
      rw [h1]
      simp
    · rw [isFr_set q, decide_eq_true (Ne.symm q)]
      simp
  have e3 : (freeL (ns.set k 0) hs).filter (fun i => decide (i ≠ k)) = (freeL (ns.set k 0) hs).erase k := by
    rw [hn.erase_eq_filter]
    exact List.filter_congr fun i _ => by simp [bne, Bool.beq_eq_decide_eq]
  rw [e2, e3, List.length_erase_of_mem hm]
  have := List.length_pos_of_mem hm
  omega
def sp_Space_count_spare (K : PySem.W.Frag) (C : Ex) : Sp := S1 fun x H Q _ => ∃ (s a b dx : Addr) (ns : List Int) (hs : List Bool) (sp low : Int), x = .ref s ∧ H s = some (spO C dx a b ns sp low) ∧ H a = some (.lst (ns.map V.int)) ∧ H b = some (.lst (hs.map V.bl)) ∧ ns.length = hs.length ∧ ns.length ≤ 100000 ∧
  ∀ H', H' s = some (spO C dx a b ns (freeL ns hs).length 0) → (∀ c o, H c = some o → c ≠ s → H' c = some o) → Q .non H'
def t_Space_count_spare (K : PySem.W.Frag) (C : Ex) (E : XK) : TS :=
  tSeq (uSetF C.Space "spare" (tVar 0) (tCB (uLen K) (tCons (tLc (iZip K (tCons (uFld C.Space "numbers" (tVar 0)) (tCons (uFld C.Space "held" (tVar 0)) (tNil)))) (gTup K 2 (gCons (gName 1) (gCons (gName 2) (gNil)))) (tAnd (tTest (tOp (uEq K) (tVar 1) (tC (.int 0)))) (tNot (uTru K (tVar 2)))) (tVar 1) [1, 2]) (tNil))))
  (uSetF C.Space "low" (tVar 0) (tC (.int 0)))
theorem pure_Space_count_spare {K : PySem.W.Frag} {C : Ex} {vs : List V} {H : Hp} {Q : VK} {E : XK} (F : Fa K C) (h : sp_Space_count_spare K C vs H Q E) : t_Space_count_spare K C E { nx := fun _ H' => Q .non H', rt := Q } (start ["self", "many", "held"] vs) H := by
  obtain ⟨x, rfl, s, a, b, dx, ns, hs, sp, low, rfl, i, ha, hb, hl, hz, k⟩ := h
  unfold spO at i
  unfold t_Space_count_spare
  walk_at "run1"
  refine l_zip (xs := ns.map V.int) (ys := hs.map V.bl) (by rw [List.length_map, List.length_map, hl]) (fun D i H1 => Same H H1 ∧ ∃ acc, H1 D = some (.lst acc) ∧ acc.length = ((List.range i).filter (isFr ns hs)).length) (fun D hD => ⟨same_new hD, [], upd_same, rfl⟩) (fun D i H1 _ p => ⟨SqL.of (p.1 _ _ ha), SqL.of (p.1 _ _ hb)⟩) ?_ ?_
  · rintro D i x y H1 T hD hx hy ⟨s1, acc, h1, la⟩ hT
    obtain ⟨z, hz1, rfl⟩ := at_int hx
    obtain ⟨w, hw1, rfl⟩ := at_bl hy
    have hi : i < ns.length := (List.getElem?_eq_some_iff.mp hz1).1
    have ef : isFr ns hs i = (decide (z = 0) && !w) := by
      unfold isFr
      rw [List.getD_eq_getElem?_getD, List.getD_eq_getElem?_getD, hz1, hw1]
      rfl
    have la' : acc.length ≤ i := by rw [la]; exact Nat.le_trans (List.length_filter_le _ _) (by rw [List.length_range]; exact Nat.le_refl _)
    have s2 := same_updN (o := .tup [.int z, .bl w]) s1 hT
    have h2 : upd H1 T (.tup [.int z, .bl w]) D = some (.lst acc) := upd_old h1 hT
    have eT : upd H1 T (.tup [.int z, .bl w]) T = some (.tup [.int z, .bl w]) := upd_same
    generalize upd H1 T _ = H2 at *
    have skip : isFr ns hs i = false → Same H H2 ∧ ∃ acc, H2 D = some (.lst acc) ∧ acc.length = ((List.range (i + 1)).filter (isFr ns hs)).length := fun q => by
      refine ⟨s2, acc, h2, ?_⟩
      rw [List.range_succ, List.filter_append, List.length_append, la]
      simp [q]
    cases w with
    | true =>
      walk_at "run1"
      refine ⟨rfl, ?_⟩
      walk_at "run1"
      · exact skip (by rw [ef]; simp)
      · walk_at "run1"
        exact skip (by rw [ef]; simp)
    | false =>
      walk_at "run1"
      refine ⟨rfl, ?_⟩
      walk_at "run1"
      · rename_i q
        refine ⟨acc, h2, lt_line (by omega), same_upd s2 hD, _, upd_same, ?_⟩
        rw [List.range_succ, List.filter_append, List.length_append, List.length_append, la]
        simp [ef, q]
      · walk_at "run1"
        rename_i q
        exact skip (by rw [ef, decide_eq_false q]; rfl)
  · rintro D H1 hD ⟨s1, acc, h1, la⟩
    have i1 := s1 _ _ i
    walk_at "run1"
    rw [List.length_map] at la
    refine k _ ?_ fun c o h n => ?_
    · rw [upd_same, la]
      rfl
    · rw [upd_ne n, upd_ne n]
      exact s1 _ _ h
/-- the sub-steps: the lists and the object anew -/
theorem SpAt.of {C : Ex} {H H' : Hp} {s a b dx : Addr} {ns : List Int} {hs : List Bool} {low : Int} (i : H' s = some (spO C dx a b ns (freeL ns hs).length low)) (ha : H a = some (.lst (ns.map V.int))) (hb : H b = some (.lst (hs.map V.bl))) (na : a ≠ s) (nb : b ≠ s) (fr : ∀ c o, H c = some o → c ≠ s → H' c = some o) (ne : a ≠ b) : SpAt C H' s a b ⟨ns, hs, low⟩ :=
  ⟨⟨dx, i⟩, fr _ _ ha na, fr _ _ hb nb, ne⟩
def posL (ns : List Int) : List Bool := ns.map fun z => decide (0 < z)
/-- [many > 0 for many in ns] -/
theorem l_pos {K : PySem.W.Frag} {H1 : Hp} {Q : VK} {σ : L2.St} {p : Addr} {ns : List Int} {j : Nat} (hp : H1 p = some (.lst (ns.map V.int))) (hz : ns.length ≤ 100000) (hj : j < σ.length)
    (k : ∀ D H, H1 D = none → Same H1 H → H D = some (.lst ((posL ns).map V.bl)) → Q (.ref D) H) : lcQ (gName j) tYes (tOp uGt (tVar j) (tC (.int 0))) [j] σ (Itl K p) H1 Q := by
  refine l_list (xs := ns.map V.int) (fun D i H => Same H1 H ∧ H D = some (.lst ((posL (ns.take i)).map V.bl))) (fun D hD => ⟨same_new hD, upd_same⟩) (fun D i H _ z => SqL.of (z.1 _ _ hp)) ?_ ?_
  · rintro D i x H hD hx ⟨s1, h1⟩
    obtain ⟨z, hz1, rfl⟩ := at_int hx
    have hi : i < ns.length := (List.getElem?_eq_some_iff.mp hz1).1
    have hw : wipe ((wipe σ [j]).set j (some (.int z))) [j] = wipe σ [j] := by
      show ((σ.set j none).set j (some (.int z))).set j none = σ.set j none
      rw [List.set_set, List.set_set]
    refine w_name ⟨hw, ?_⟩
    refine w_yes ?_
    refine iteT ?_
    refine w_op ?_
    refine w_var (v := .int z) (by
      show ((σ.set j none).set j (some (.int z)))[j]? = some (some (.int z))
      rw [List.getElem?_set_self (by rw [List.length_set]; exact hj)]) ?_
    refine w_c ?_
    refine w_gt ?_
    refine ⟨_, h1, by rw [List.length_map]; unfold posL; rw [List.length_map, List.length_take]; exact lt_line (by omega), same_upd s1 hD, ?_⟩
    rw [upd_same, take_snoc hz1]
    unfold posL
    rw [List.map_append, List.map_append]
    rfl
  · rintro D H hD ⟨s1, h1⟩
    rw [List.length_map, List.take_length] at h1
    exact k D H hD s1 h1
def sp_Space___init__ (K : PySem.W.Frag) (C : Ex) : Sp := S2 fun x u H Q _ => ∃ (s dx p : Addr) (ns : List Int), x = .ref s ∧ u = .ref p ∧ H s = some (.ins C.Space dx []) ∧ H p = some (.lst (ns.map V.int)) ∧ ns.length ≤ 100000 ∧
  ∀ H' a b, SpAt C H' s a b ⟨ns, posL ns, 0⟩ → (∀ c o, H c = some o → c ≠ s → H' c = some o) → H a = none → H b = none → Q .non H'
def t_Space___init__ (K : PySem.W.Frag) (C : Ex) (E : XK) : TS :=
  tSeq (uSetF C.Space "blocks" (tVar 0) (tCB (uLen K) (tCons (tVar 1) (tNil))))
  (tSeq (uSetF C.Space "numbers" (tVar 0) (tCB (uList K) (tCons (tVar 1) (tNil))))
  (tSeq (uSetF C.Space "held" (tVar 0) (tLc (iList K (tVar 1)) (gName 2) (tYes) (tOp (uGt) (tVar 2) (tC (.int 0))) [2]))
  (tSeq (uSetF C.Space "spare" (tVar 0) (tC (.int 0)))
  (tSeq (uSetF C.Space "low" (tVar 0) (tC (.int 0)))
  (tDrop (uMeth C.Space "count_spare" (sp_Space_count_spare K C) (WB E) (tVar 0) (tNil)))))))
theorem pure_Space___init__ {K : PySem.W.Frag} {C : Ex} {vs : List V} {H : Hp} {Q : VK} {E : XK} (F : Fa K C) (h : sp_Space___init__ K C vs H Q E) : t_Space___init__ K C E { nx := fun _ H' => Q .non H', rt := Q } (start ["self", "uses", "many"] vs) H := by
  obtain ⟨x, u, rfl, s, dx, p, ns, rfl, rfl, i, hp, hz, k⟩ := h
  have nps : p ≠ s := ne_of hp i fun z => nomatch z
  unfold t_Space___init__
  walk_at "run1"
  have hp1 := upd_oth (o := .ins C.Space dx (putF "blocks" (.int ((ns.map V.int).length : Nat)) [])) hp nps
  refine w_tlist (SqL.of hp1) fun a ha => ?_
  have ha0 : H a = none := (none_of_upd ha).1
  have nas : a ≠ s := (none_of_upd ha).2
  have f1 : ∀ c o, H c = some o → c ≠ s → upd (upd H s (.ins C.Space dx (putF "blocks" (.int ((ns.map V.int).length : Nat)) []))) a (.lst (ns.map V.int)) c = some o := fun c o h n => upd_old (upd_oth h n) ha
  have i1 : upd (upd H s (.ins C.Space dx (putF "blocks" (.int ((ns.map V.int).length : Nat)) []))) a (.lst (ns.map V.int)) s = some (.ins C.Space dx [("blocks", .int ((ns.map V.int).length : Nat))]) := upd_old upd_same ha
  have ha1 : upd (upd H s (.ins C.Space dx (putF "blocks" (.int ((ns.map V.int).length : Nat)) []))) a (.lst (ns.map V.int)) a = some (.lst (ns.map V.int)) := upd_same
  generalize upd (upd H s _) a _ = H1 at *
  walk_at "run1"
  generalize hH2 : upd H1 s _ = H2 at *
  have f2 : ∀ c o, H c = some o → c ≠ s → H2 c = some o := fun c o h n => by rw [← hH2]; exact upd_oth (f1 c o h n) n
  have i2 : H2 s = some (.ins C.Space dx [("blocks", .int ((ns.map V.int).length : Nat)), ("numbers", .ref a)]) := by rw [← hH2]; exact upd_same
  have ha2 : H2 a = some (.lst (ns.map V.int)) := by rw [← hH2]; exact upd_oth ha1 nas
  clear hH2
  have hp2 := f2 _ _ hp nps
  refine w_iListv (SqL.of hp2) ?_
  refine l_pos hp2 hz (by show 2 < 3; decide) fun b H3 hb s3 h3 => ?_
  have i3 := s3 _ _ i2
  have nbs : b ≠ s := (ne_of_none i2 hb).symm
  have nab : a ≠ b := ne_of_none ha2 hb
  walk_at "run1"
  refine w_S1 ⟨s, a, b, dx, ns, posL ns, 0, 0, rfl, ?_, upd_oth (upd_oth (upd_oth (s3 _ _ ha2) nas) nas) nas, upd_oth (upd_oth (upd_oth h3 nbs) nbs) nbs, by unfold posL; rw [List.length_map], hz, fun H4 i4 f4 => ?_⟩
  · rw [upd_same, List.length_map]
    rfl
  · walk_at "run1"
    have g : ∀ c o, H3 c = some o → c ≠ s → H4 c = some o := fun c o h n => f4 c o (upd_oth (upd_oth (upd_oth h n) n) n) n
    refine k H4 a b (SpAt.of i4 (s3 _ _ ha2) h3 nas nbs g nab) (fun c o h n => g c o (s3 _ _ (f2 c o h n)) n) ha0 ?_
    cases e : H b with
    | none => rfl
    | some o => rw [f2 b o e nbs] at hb; cases hb
def sp_Space_check_block (K : PySem.W.Frag) (C : Ex) : Sp := S2 fun x c H Q E => ∃ s a b S, x = .ref s ∧ SpR C H s a b S ∧ Known K H c ∧ (btw 0 ((S.nums.length : Int) - 1) c = true → Q .non H) ∧ (btw 0 ((S.nums.length : Int) - 1) c = false → E (.ref C.NotValid) none H)
def t_Space_check_block (K : PySem.W.Frag) (C : Ex) (E : XK) : TS :=
  tIfS (tNot (uTru K (uCall (sp_is_between K C) (WB E) (tCons (tVar 1) (tCons (tC (.int 0)) (tCons (tOp (uSub) (uFld C.Space "blocks" (tVar 0)) (tC (.int 1))) (tNil))))))) (uRaise C.NotValid (WB E)) (tNext)
theorem pure_Space_check_block {K : PySem.W.Frag} {C : Ex} {vs : List V} {H : Hp} {Q : VK} {E : XK} (F : Fa K C) (h : sp_Space_check_block K C vs H Q E) : t_Space_check_block K C E { nx := fun _ H' => Q .non H', rt := Q } (start ["self", "block"] vs) H := by
  obtain ⟨x, c, rfl, s, a, b, S, rfl, hS, hk, k1, k2⟩ := h
  obtain ⟨dx, sp, low, i⟩ := hS.ins
  unfold spO at i
  unfold t_Space_check_block
  walk_at "run1"
  refine w_S3 ⟨_, _, rfl, rfl, hk, ?_⟩
  walk_at "run1"
  refine ifBN (fun h => ?_) (fun h => ?_)
  · walk_at "run1"
    exact k2 h
  · walk_at "run1"
    exact k1 h
def lowOf (H : Hp) (s : Addr) : Int := match H s with
  | some (.ins _ _ fs) => (match fs.lookup ("low" : Str) with
    | some (V.int l) => l
    | _ => 0)
  | _ => 0
theorem lowOf_at {C : Ex} {H : Hp} {s dx a b : Addr} {ns : List Int} {sp low : Int} (i : H s = some (spO C dx a b ns sp low)) : lowOf H s = low := by
  unfold lowOf
  rw [i]
  rfl
def sp_Space_least_free (K : PySem.W.Frag) (C : Ex) : Sp := S1 fun x H Q _ => ∃ s a b S, x = .ref s ∧ SpAt C H s a b S ∧ SpOk S ∧ (freeL S.nums S.held = [] → Q .non H) ∧
  ∀ k r, freeL S.nums S.held = k :: r → ∀ H', SpAt C H' s a b { S with low := (k : Int) } → Stp (spF s a b) H (spF s a b) H' → Q (.int (k : Nat)) H'
def t_Space_least_free (K : PySem.W.Frag) (C : Ex) (E : XK) : TS :=
  tSeq (tIfS (tTest (tOp (uEq K) (uFld C.Space "spare" (tVar 0)) (tC (.int 0)))) (tRet (tC .non)) (tNext))
  (tSeq (tWhile (tOr (tTest (tOp (uGt) (tOp (uIx K) (uFld C.Space "numbers" (tVar 0)) (uFld C.Space "low" (tVar 0))) (tC (.int 0)))) (uTru K (tOp (uIx K) (uFld C.Space "held" (tVar 0)) (uFld C.Space "low" (tVar 0)))))
  (uAugF C.Space "low" rAdd (tVar 0) (tC (.int 1))))
  (tRet (uFld C.Space "low" (tVar 0))))
theorem pure_Space_least_free {K : PySem.W.Frag} {C : Ex} {vs : List V} {H : Hp} {Q : VK} {E : XK} (F : Fa K C) (h : sp_Space_least_free K C vs H Q E) : t_Space_least_free K C E { nx := fun _ H' => Q .non H', rt := Q } (start ["self"] vs) H := by
  obtain ⟨x, rfl, s, a, b, S, rfl, hS, ok, k1, k2⟩ := h
  obtain ⟨dx, i⟩ := hS.ins
  have len := ok.len
  unfold spO at i
  unfold t_Space_least_free
  walk_at "run1"
  · rename_i h
    exact k1 (List.eq_nil_of_length_eq_zero (by omega))
  walk_at "run1"
  rename_i hne
  cases e : freeL S.nums S.held with
  | nil => rw [e] at hne; exact absurd rfl hne
  | cons k r =>
    obtain ⟨h1, h2, h3⟩ := freeL_head e
    have lk : S.low ≤ k := by
      rcases (show (k : Int) < S.low ∨ S.low ≤ k by omega) with q | q
      · have := ok.fr k q
        rw [h2] at this
        cases this
      · exact q
    refine f_while (fun σ H' => σ = [some (.ref s)] ∧ ∃ l : Int, 0 ≤ l ∧ l ≤ k ∧ SpAt C H' s a b { S with low := l } ∧ Stp (spF s a b) H (spF s a b) H') (fun _ H' => ((k : Int) - lowOf H' s).toNat) ⟨rfl, S.low, ok.lo, lk, hS, .refl⟩ ?_
    rintro σ H1 ⟨rfl, l, l0, l1, hS1, st1⟩
    obtain ⟨⟨dx1, i1⟩, ha, hb, nab⟩ := hS1
    have i0 : H1 s = some (spO C dx1 a b S.nums ((freeL S.nums S.held).length : Nat) l) := i1
    clear i1
    have i1 := i0
    unfold spO at i1
    have ha : H1 a = some (.lst (S.nums.map V.int)) := ha
    have hb : H1 b = some (.lst (S.held.map V.bl)) := hb
    have hn := getD_nn ok.nn l.toNat
    have more : l < k → (([some (V.ref s)] = [some (V.ref s)] ∧ ∃ l' : Int, 0 ≤ l' ∧ l' ≤ k ∧ SpAt C (upd H1 s (.ins C.Space dx1 [("blocks", .int (S.nums.length : Nat)), ("numbers", .ref a), ("held", .ref b), ("spare", .int ((freeL S.nums S.held).length : Nat)), ("low", .int (l + 1))])) s a b { S with low := l' } ∧
        Stp (spF s a b) H (spF s a b) (upd H1 s (.ins C.Space dx1 [("blocks", .int (S.nums.length : Nat)), ("numbers", .ref a), ("held", .ref b), ("spare", .int ((freeL S.nums S.held).length : Nat)), ("low", .int (l + 1))]))) ∧
        ((k : Int) - lowOf (upd H1 s (.ins C.Space dx1 [("blocks", .int (S.nums.length : Nat)), ("numbers", .ref a), ("held", .ref b), ("spare", .int ((freeL S.nums S.held).length : Nat)), ("low", .int (l + 1))])) s).toNat < ((k : Int) - lowOf H1 s).toNat) := fun hlt => by
      refine ⟨⟨rfl, l + 1, by omega, by omega, ⟨⟨dx1, upd_same⟩, upd_oth ha (ne_of ha i1 fun z => nomatch z), upd_oth hb (ne_of hb i1 fun z => nomatch z), nab⟩, st1.upd (by simp [spF])⟩, ?_⟩
      exact (show ∀ x y : Int, x = l + 1 → y = l → ((k : Int) - x).toNat < (k - y).toNat from fun x y hx hy => by omega) _ _ (lowOf_at (C := C) (dx := dx1) (a := a) (b := b) (ns := S.nums) (sp := ((freeL S.nums S.held).length : Nat)) upd_same) (lowOf_at i0)
    have hfr : l < k → isFr S.nums S.held l.toNat = false := fun hlt => h3 _ (by omega)
    walk_at "run1"
    · refine more ?_
      rename_i h
      rcases (show l < k ∨ (k : Int) ≤ l by omega) with q | q
      · exact q
      · have : l.toNat = k := by omega
        rw [this] at h
        unfold isFr at h2
        have := of_decide_eq_true (Bool.and_eq_true_iff.mp h2).1
        omega
    · walk_at "run1"
      rename_i h
      refine ifB (fun q => ?_) (fun q => ?_)
      · walk_at "run1"
        refine more ?_
        rcases (show l < k ∨ (k : Int) ≤ l by omega) with q2 | q2
        · exact q2
        · have : l.toNat = k := by omega
          rw [this] at q
          unfold isFr at h2
          rw [q] at h2
          simp at h2
      · have elk : l = k := by
          rcases (show l < k ∨ (k : Int) ≤ l by omega) with q2 | q2
          · have z := hfr q2
            unfold isFr at z
            rw [q, decide_eq_true (show S.nums.getD l.toNat 0 = 0 by omega)] at z
            cases z
          · omega
        subst elk
        walk_at "run1"
        exact k2 k r e H1 ⟨⟨dx1, i1⟩, ha, hb, nab⟩ st1
/-- one block's number changes -/
theorem SpOk.set {S : SpS} {k : Nat} {z low : Int} (x : SpOk S) (hz : 0 ≤ z) (l0 : 0 ≤ low) (hf : ∀ i : Nat, (i : Int) < low → isFr (S.nums.set k z) S.held i = false) : SpOk ⟨S.nums.set k z, S.held, low⟩ := by
  refine ⟨?_, fun y hy => ?_, l0, hf, ?_⟩
  · show (S.nums.set k z).length = _
    rw [List.length_set]
    exact x.len
  · rcases List.mem_or_eq_of_mem_set hy with q | q
    · exact x.nn y q
    · rw [q]; exact hz
  · show (S.nums.set k z).length ≤ _
    rw [List.length_set]
    exact x.sz
def takeS (S : SpS) (k : Nat) : SpS := ⟨S.nums.set k 1, S.held, (k : Int)⟩
def sp_Space_take (K : PySem.W.Frag) (C : Ex) : Sp := S2 fun x c H Q E => ∃ s a b S, ∃ r : Int, x = .ref s ∧ c = .int r ∧ 0 ≤ r ∧ SpAt C H s a b S ∧ SpOk S ∧ (((freeL S.nums S.held).length : Int) ≤ r → E (.ref C.NoSpace) none H) ∧
  ∀ k t, freeL S.nums S.held = k :: t → r < (freeL S.nums S.held).length → ∀ H', SpAt C H' s a b (takeS S k) → Stp (spF s a b) H (spF s a b) H' → Q (.int (k : Nat)) H'
def t_Space_take (K : PySem.W.Frag) (C : Ex) (E : XK) : TS :=
  tSeq (tIfS (tTest (tOp (uLe K) (uFld C.Space "spare" (tVar 0)) (tVar 1))) (uRaise C.NoSpace (WB E)) (tNext))
  (tSeq (tAsg (uMeth C.Space "least_free" (sp_Space_least_free K C) (WB E) (tVar 0) (tNil)) (gName 2))
  (tSeq (tAsg (tC (.int 1)) (gSub (uFld C.Space "numbers" (tVar 0)) (tVar 2) uSet))
  (tSeq (uAugF C.Space "spare" rSub (tVar 0) (tC (.int 1)))
  (tRet (tVar 2)))))
theorem pure_Space_take {K : PySem.W.Frag} {C : Ex} {vs : List V} {H : Hp} {Q : VK} {E : XK} (F : Fa K C) (h : sp_Space_take K C vs H Q E) : t_Space_take K C E { nx := fun _ H' => Q .non H', rt := Q } (start ["self", "reserve", "block"] vs) H := by
  obtain ⟨x, c, rfl, s, a, b, S, r, rfl, rfl, hr, hS, ok, k1, k2⟩ := h
  obtain ⟨dx, i⟩ := hS.ins
  have len := ok.len
  unfold spO at i
  unfold t_Space_take
  walk_at "run1"
  · rename_i h
    exact k1 h
  walk_at "run1"
  rename_i hlt
  refine w_S1 ⟨s, a, b, S, rfl, hS, ok, fun e => ?_, fun k t e H1 hS1 st1 => ?_⟩
  · rw [e] at hlt
    exact absurd hr hlt
  obtain ⟨h1, h2, h3⟩ := freeL_head e
  obtain ⟨⟨dx1, i1⟩, ha, hb, nab⟩ := hS1
  have i0 := i1
  unfold spO at i1
  have ha : H1 a = some (.lst (S.nums.map V.int)) := ha
  have hb : H1 b = some (.lst (S.held.map V.bl)) := hb
  have nsa : s ≠ a := (ne_of ha i1 fun z => nomatch z).symm
  have nsb : s ≠ b := (ne_of hb i1 fun z => nomatch z).symm
  walk_at "run1"
  refine w_setL ha ⟨by omega, by rw [List.length_map]; omega⟩ ?_
  have i2 := upd_oth (o := .lst ((S.nums.map V.int).set ((k : Nat) : Int).toNat (.int 1))) i1 nsa
  walk_at "run1"
  have ft := freeL_take (z := 1) e (by decide)
  have hl : ((freeL S.nums S.held).length : Int) - 1 = (freeL (S.nums.set k 1) S.held).length := by rw [ft, e, List.length_cons]; omega
  refine k2 k t e (by omega) _ ⟨⟨dx1, ?_⟩, ?_, ?_, nab⟩ ((st1.upd (by simp [spF])).upd (by simp [spF]))
  · rw [upd_same]
    unfold spO takeS
    dsimp only
    rw [← hl, List.length_set]
    rfl
  · rw [upd_ne nsa.symm, upd_same]
    unfold takeS
    rw [List.map_set]
    rfl
  · exact upd_oth (upd_oth hb nab.symm) nsb.symm
theorem takeS_ok {S : SpS} {k : Nat} {t : List Nat} (x : SpOk S) (e : freeL S.nums S.held = k :: t) : SpOk (takeS S k) := by
  obtain ⟨h1, h2, h3⟩ := freeL_head e
  exact x.set (by decide) (by omega) fun i hi => by rw [isFr_set (by omega)]; exact h3 i (by omega)
def shareS (S : SpS) (k : Nat) : SpS := ⟨S.nums.set k (S.nums.getD k 0 + 1), S.held, S.low⟩
/-- what share, drop refuse -/
def badB (S : SpS) (c : V) : Prop := btw 0 ((S.nums.length : Int) - 1) c = false ∨ ∃ z : Int, c = .int z ∧ (z < 5 ∨ S.nums.getD z.toNat 0 = 0)
def sp_Space_share (K : PySem.W.Frag) (C : Ex) : Sp := S2 fun x c H Q E => ∃ s a b S, x = .ref s ∧ Known K H c ∧ SpAt C H s a b S ∧ SpOk S ∧ (badB S c → E (.ref C.NotValid) none H) ∧
  ∀ k : Nat, c = .int (k : Nat) → 5 ≤ k → k < S.nums.length → S.nums.getD k 0 ≠ 0 → ∀ H', SpAt C H' s a b (shareS S k) → Stp (spF s a b) H (spF s a b) H' → Q .non H'
theorem share_fr {S : SpS} {k : Nat} (hk : k < S.nums.length) (ok : SpOk S) (hn : S.nums.getD k 0 ≠ 0) : ∀ i, isFr (S.nums.set k (S.nums.getD k 0 + 1)) S.held i = isFr S.nums S.held i := fun i => by
  by_cases q : k = i
  · subst q
    have := getD_nn ok.nn k
    rw [isFr_here hk, decide_eq_false (by omega)]
    unfold isFr
    rw [decide_eq_false hn]
  · exact isFr_set q
def t_Space_share (K : PySem.W.Frag) (C : Ex) (E : XK) : TS :=
  tSeq (tDrop (uMeth C.Space "check_block" (sp_Space_check_block K C) (WB E) (tVar 0) (tCons (tVar 1) (tNil))))
  (tSeq (tIfS (tOr (tTest (tOp (uLt K) (tVar 1) (tC (.int 5)))) (tTest (tOp (uEq K) (tOp (uIx K) (uFld C.Space "numbers" (tVar 0)) (tVar 1)) (tC (.int 0))))) (uRaise C.NotValid (WB E)) (tNext))
  (tAugS (uFld C.Space "numbers" (tVar 0)) (tVar 1) (tC (.int 1)) (uGet K) (ipI fun i j => i + j) uSet))
theorem pure_Space_share {K : PySem.W.Frag} {C : Ex} {vs : List V} {H : Hp} {Q : VK} {E : XK} (F : Fa K C) (h : sp_Space_share K C vs H Q E) : t_Space_share K C E { nx := fun _ H' => Q .non H', rt := Q } (start ["self", "block"] vs) H := by
  obtain ⟨x, c, rfl, s, a, b, S, rfl, hk, hS, ok, k1, k2⟩ := h
  have hS0 := hS
  obtain ⟨⟨dx, i⟩, ha, hb, nab⟩ := hS
  have len := ok.len
  unfold spO at i
  have nsa : s ≠ a := (ne_of ha i fun z => nomatch z).symm
  have nsb : s ≠ b := (ne_of hb i fun z => nomatch z).symm
  unfold t_Space_share
  walk_at "run1"
  refine w_S2 ⟨s, a, b, S, rfl, hS0.r, hk, fun h => ?_, fun h => k1 (.inl h)⟩
  obtain ⟨z, rfl, z0, z1⟩ := btw_inv h
  walk_at "run1"
  · rename_i q
    exact k1 (.inr ⟨z, rfl, .inl q⟩)
  walk_at "run1"
  · rename_i q
    exact k1 (.inr ⟨z, rfl, .inr q⟩)
  walk_at "run1"
  rename_i q5 q0
  refine w_setL ha ⟨by omega, by rw [List.length_map]; omega⟩ ?_
  have hz : z.toNat < S.nums.length := by omega
  have ef := freeL_eq (ns := S.nums) (ns' := S.nums.set z.toNat (S.nums.getD z.toNat 0 + 1)) (hs := S.held) (hs' := S.held) (List.length_set ..) fun i _ => share_fr hz ok q0 i
  refine k2 z.toNat (by rw [show ((z.toNat : Nat) : Int) = z by omega]) (by omega) hz q0 _ ⟨⟨dx, ?_⟩, ?_, upd_oth hb nab.symm, nab⟩ (Stp.refl.upd (by simp [spF]))
  · rw [upd_ne nsa, i]
    unfold spO shareS
    dsimp only
    rw [ef, List.length_set]
  · rw [upd_same]
    unfold shareS
    rw [List.map_set]
theorem shareS_ok {S : SpS} {k : Nat} (x : SpOk S) (hk : k < S.nums.length) (hn : S.nums.getD k 0 ≠ 0) : SpOk (shareS S k) :=
  x.set (by have := getD_nn x.nn k; omega) x.lo fun i hi => by rw [share_fr hk x hn]; exact x.fr i hi
def dropS (S : SpS) (k : Nat) : SpS := ⟨S.nums.set k (S.nums.getD k 0 - 1), S.held, if isFr (S.nums.set k (S.nums.getD k 0 - 1)) S.held k = true then (if (k : Int) < S.low then (k : Int) else S.low) else S.low⟩
theorem drop_fr {S : SpS} {k : Nat} (hn : S.nums.getD k 0 ≠ 0) : isFr S.nums S.held k = false := by
  unfold isFr
  rw [decide_eq_false hn]
  rfl
theorem dropS_ok {S : SpS} {k : Nat} (x : SpOk S) (hk : k < S.nums.length) (hn : S.nums.getD k 0 ≠ 0) : SpOk (dropS S k) := by
  have := getD_nn x.nn k
  have := x.lo
  refine x.set (by omega) (by split; · split <;> omega
                              · omega) fun i hi => ?_
  by_cases q : k = i
  · subst q
    cases e : isFr (S.nums.set k (S.nums.getD k 0 - 1)) S.held k with
    | false => rfl
    | true =>
      rw [if_pos e] at hi
      split at hi <;> omega
  · rw [isFr_set q]
    refine x.fr i ?_
    split at hi
    · split at hi <;> omega
    · exact hi
theorem drop_len {S : SpS} {k : Nat} (hk : k < S.nums.length) (hn : S.nums.getD k 0 ≠ 0) : (freeL (S.nums.set k (S.nums.getD k 0 - 1)) S.held).length = (freeL S.nums S.held).length + (if isFr (S.nums.set k (S.nums.getD k 0 - 1)) S.held k = true then 1 else 0) := by
  cases e : isFr (S.nums.set k (S.nums.getD k 0 - 1)) S.held k with
  | true =>
    rw [if_pos rfl]
    rw [isFr_here hk] at e
    obtain ⟨e1, e2⟩ := Bool.and_eq_true_iff.mp e
    rw [of_decide_eq_true e1]
    exact freeL_drop hk (drop_fr hn) (by simpa using e2)
  | false =>
    rw [if_neg (by decide)]
    rw [freeL_eq (ns := S.nums) (hs := S.held) (List.length_set ..) fun i _ => by
      by_cases q : k = i
      · subst q; rw [e, drop_fr hn]
      · exact isFr_set q]
    rfl
abbrev rdB (K : PySem.W.Frag) (C : Ex) (f : SpS → Nat → V) : V → V → Hp → VK → XK → Prop := fun x c H Q E => ∃ s a b S, x = .ref s ∧ Known K H c ∧ SpR C H s a b S ∧ SpOk S ∧ (btw 0 ((S.nums.length : Int) - 1) c = false → E (.ref C.NotValid) none H) ∧ ∀ k : Nat, c = .int (k : Nat) → k < S.nums.length → Q (f S k) H
def sp_Space_uses (K : PySem.W.Frag) (C : Ex) : Sp := S2 (rdB K C fun S k => .int (S.nums.getD k 0))
def sp_Space_is_new (K : PySem.W.Frag) (C : Ex) : Sp := S2 (rdB K C fun S k => .bl (decide (0 < S.nums.getD k 0) && !S.held.getD k false))
def sp_Space_is_free (K : PySem.W.Frag) (C : Ex) : Sp := S2 (rdB K C fun S k => .bl (isFr S.nums S.held k))
def t_Space_uses (K : PySem.W.Frag) (C : Ex) (E : XK) : TS :=
  tSeq (tDrop (uMeth C.Space "check_block" (sp_Space_check_block K C) (WB E) (tVar 0) (tCons (tVar 1) (tNil))))
  (tRet (tOp (uIx K) (uFld C.Space "numbers" (tVar 0)) (tVar 1)))
theorem pure_Space_uses {K : PySem.W.Frag} {C : Ex} {vs : List V} {H : Hp} {Q : VK} {E : XK} (F : Fa K C) (h : sp_Space_uses K C vs H Q E) : t_Space_uses K C E { nx := fun _ H' => Q .non H', rt := Q } (start ["self", "block"] vs) H := by
  obtain ⟨x, c, rfl, s, a, b, S, rfl, hk, hS, ok, k1, k2⟩ := h
  have hS0 := hS
  obtain ⟨⟨dx, sp, low, i⟩, ha, hb, nab⟩ := hS
  unfold spO at i
  unfold t_Space_uses
  walk_at "run1"
  refine w_S2 ⟨s, a, b, S, rfl, hS0, hk, fun h => ?_, k1⟩
  obtain ⟨z, rfl, z0, z1⟩ := btw_inv h
  have k2 := k2 z.toNat (by rw [show ((z.toNat : Nat) : Int) = z by omega]) (by omega)
  dsimp only at k2
  walk_at "run1"
  exact k2
def t_Space_is_new (K : PySem.W.Frag) (C : Ex) (E : XK) : TS :=
  tSeq (tDrop (uMeth C.Space "check_block" (sp_Space_check_block K C) (WB E) (tVar 0) (tCons (tVar 1) (tNil))))
  (tRet (tAndV (tOp (uGt) (tOp (uIx K) (uFld C.Space "numbers" (tVar 0)) (tVar 1)) (tC (.int 0))) (tNotV (tOp (uIx K) (uFld C.Space "held" (tVar 0)) (tVar 1)))))
theorem pure_Space_is_new {K : PySem.W.Frag} {C : Ex} {vs : List V} {H : Hp} {Q : VK} {E : XK} (F : Fa K C) (h : sp_Space_is_new K C vs H Q E) : t_Space_is_new K C E { nx := fun _ H' => Q .non H', rt := Q } (start ["self", "block"] vs) H := by
  obtain ⟨x, c, rfl, s, a, b, S, rfl, hk, hS, ok, k1, k2⟩ := h
  have hS0 := hS
  obtain ⟨⟨dx, sp, low, i⟩, ha, hb, nab⟩ := hS
  have len := ok.len
  unfold spO at i
  unfold t_Space_is_new
  walk_at "run1"
  refine w_S2 ⟨s, a, b, S, rfl, hS0, hk, fun h => ?_, k1⟩
  obtain ⟨z, rfl, z0, z1⟩ := btw_inv h
  have k2 := k2 z.toNat (by rw [show ((z.toNat : Nat) : Int) = z by omega]) (by omega)
  dsimp only at k2
  walk_at "run1"
  · rename_i q
    rw [decide_eq_true q, Bool.true_and] at k2
    exact k2
  · walk_at "run1"
    rename_i q
    rw [decide_eq_false q, Bool.false_and] at k2
    exact k2
def t_Space_is_free (K : PySem.W.Frag) (C : Ex) (E : XK) : TS :=
  tSeq (tDrop (uMeth C.Space "check_block" (sp_Space_check_block K C) (WB E) (tVar 0) (tCons (tVar 1) (tNil))))
  (tRet (tAndV (tOp (uEq K) (tOp (uIx K) (uFld C.Space "numbers" (tVar 0)) (tVar 1)) (tC (.int 0))) (tNotV (tOp (uIx K) (uFld C.Space "held" (tVar 0)) (tVar 1)))))
theorem pure_Space_is_free {K : PySem.W.Frag} {C : Ex} {vs : List V} {H : Hp} {Q : VK} {E : XK} (F : Fa K C) (h : sp_Space_is_free K C vs H Q E) : t_Space_is_free K C E { nx := fun _ H' => Q .non H', rt := Q } (start ["self", "block"] vs) H := by
  obtain ⟨x, c, rfl, s, a, b, S, rfl, hk, hS, ok, k1, k2⟩ := h
  have hS0 := hS
  obtain ⟨⟨dx, sp, low, i⟩, ha, hb, nab⟩ := hS
  have len := ok.len
  unfold spO at i
  unfold t_Space_is_free
  walk_at "run1"
  refine w_S2 ⟨s, a, b, S, rfl, hS0, hk, fun h => ?_, k1⟩
  obtain ⟨z, rfl, z0, z1⟩ := btw_inv h
  have k2 := k2 z.toNat (by rw [show ((z.toNat : Nat) : Int) = z by omega]) (by omega)
  dsimp only at k2
  unfold isFr at k2
  walk_at "run1"
  · rename_i q
    rw [decide_eq_true q, Bool.true_and] at k2
    exact k2
  · walk_at "run1"
    rename_i q
    rw [decide_eq_false q, Bool.false_and] at k2
    exact k2
def sp_Space_drop (K : PySem.W.Frag) (C : Ex) : Sp := S2 fun x c H Q E => ∃ s a b S, x = .ref s ∧ Known K H c ∧ SpAt C H s a b S ∧ SpOk S ∧ (badB S c → E (.ref C.NotValid) none H) ∧
  ∀ k : Nat, c = .int (k : Nat) → 5 ≤ k → k < S.nums.length → S.nums.getD k 0 ≠ 0 → ∀ H', SpAt C H' s a b (dropS S k) → Stp (spF s a b) H (spF s a b) H' → Q (.int (S.nums.getD k 0 - 1)) H'
def t_Space_drop (K : PySem.W.Frag) (C : Ex) (E : XK) : TS :=
  tSeq (tDrop (uMeth C.Space "check_block" (sp_Space_check_block K C) (WB E) (tVar 0) (tCons (tVar 1) (tNil))))
  (tSeq (tIfS (tOr (tTest (tOp (uLt K) (tVar 1) (tC (.int 5)))) (tTest (tOp (uEq K) (tOp (uIx K) (uFld C.Space "numbers" (tVar 0)) (tVar 1)) (tC (.int 0))))) (uRaise C.NotValid (WB E)) (tNext))
  (tSeq (tAugS (uFld C.Space "numbers" (tVar 0)) (tVar 1) (tC (.int 1)) (uGet K) (ipI fun i j => i - j) uSet)
  (tCut (tIfS (uTru K (uMeth C.Space "is_free" (sp_Space_is_free K C) (WB E) (tVar 0) (tCons (tVar 1) (tNil)))) (tSeq (uAugF C.Space "spare" rAdd (tVar 0) (tC (.int 1)))
  (uSetF C.Space "low" (tVar 0) (tCB (uMin K) (tCons (uFld C.Space "low" (tVar 0)) (tCons (tVar 1) (tNil)))))) (tNext))
  (tRet (tOp (uIx K) (uFld C.Space "numbers" (tVar 0)) (tVar 1))))))
theorem pure_Space_drop {K : PySem.W.Frag} {C : Ex} {vs : List V} {H : Hp} {Q : VK} {E : XK} (F : Fa K C) (h : sp_Space_drop K C vs H Q E) : t_Space_drop K C E { nx := fun _ H' => Q .non H', rt := Q } (start ["self", "block"] vs) H := by
  obtain ⟨x, c, rfl, s, a, b, S, rfl, hk, hS, ok, k1, k2⟩ := h
  have hS0 := hS
  obtain ⟨⟨dx, i⟩, ha, hb, nab⟩ := hS
  have len := ok.len
  unfold spO at i
  have nsa : s ≠ a := (ne_of ha i fun z => nomatch z).symm
  have nsb : s ≠ b := (ne_of hb i fun z => nomatch z).symm
  unfold t_Space_drop
  walk_at "run1"
  refine w_S2 ⟨s, a, b, S, rfl, hS0.r, hk, fun h => ?_, fun h => k1 (.inl h)⟩
  obtain ⟨z, rfl, z0, z1⟩ := btw_inv h
  walk_at "run1"
  · rename_i q
    exact k1 (.inr ⟨z, rfl, .inl q⟩)
  walk_at "run1"
  · rename_i q
    exact k1 (.inr ⟨z, rfl, .inr q⟩)
  walk_at "run1"
  rename_i q5 q0
  obtain ⟨n, rfl⟩ := Int.eq_ofNat_of_zero_le z0
  have hz : n < S.nums.length := by omega
  rw [show ((n : Nat) : Int).toNat = n from Int.toNat_natCast n] at *
  have k2 := k2 n rfl (by omega) hz q0
  have hl := drop_len hz q0
  have nn := getD_nn ok.nn n
  have ok2 := dropS_ok ok hz q0
  refine w_setL ha ⟨by omega, by rw [List.length_map]; omega⟩ ?_
  rw [show ((n : Nat) : Int).toNat = n from Int.toNat_natCast n, ← List.map_set]
  have i2 := upd_oth (o := .lst ((S.nums.set n (S.nums.getD n 0 - 1)).map V.int)) i nsa
  have ha2 : upd H a (.lst ((S.nums.set n (S.nums.getD n 0 - 1)).map V.int)) a = some (.lst ((S.nums.set n (S.nums.getD n 0 - 1)).map V.int)) := upd_same
  have hb2 := upd_oth (o := .lst ((S.nums.set n (S.nums.getD n 0 - 1)).map V.int)) hb nab.symm
  have st2 : Stp (spF s a b) H (spF s a b) (upd H a (.lst ((S.nums.set n (S.nums.getD n 0 - 1)).map V.int))) := Stp.refl.upd (by simp [spF])
  generalize upd H a _ = H2 at *
  walk_at "run1"
  refine w_cut (fun σ H3 => σ = [some (.ref s), some (.int (n : Nat))] ∧ SpAt C H3 s a b (dropS S n) ∧ Stp (spF s a b) H (spF s a b) H3) ?_ ?_
  · walk_at "run1"
    unfold sp_Space_is_free rdB
    refine w_S2 ⟨s, a, b, dropS S n, rfl, trivial, ⟨⟨dx, _, _, by rw [i2]; unfold spO dropS; dsimp only; rw [List.length_set]⟩, ha2, hb2, nab⟩, ok2, fun q => ?_, fun m em _ => ?_⟩
    · have : (dropS S n).nums.length = S.nums.length := List.length_set ..
      rw [this, btw_int (by omega) (by omega)] at q
      cases q
    · have em : n = m := by cases em; rfl
      subst em
      have hfr : isFr (dropS S n).nums (dropS S n).held n = isFr (S.nums.set n (S.nums.getD n 0 - 1)) S.held n := rfl
      dsimp only
      rw [hfr]
      walk_at "run1"
      refine ifB (fun q => ?_) (fun q => ?_)
      · rw [if_pos q] at hl
        walk_at "run1"
        refine ⟨rfl, ⟨⟨dx, ?_⟩, upd_oth (upd_oth ha2 nsa.symm) nsa.symm, upd_oth (upd_oth hb2 nsb.symm) nsb.symm, nab⟩, (st2.upd (by simp [spF])).upd (by simp [spF])⟩
        rw [upd_same]
        unfold spO dropS
        dsimp only
        rw [if_pos q, hl, List.length_set]
        rfl
      · rw [if_neg (by rw [q]; decide)] at hl
        walk_at "run1"
        refine ⟨rfl, ⟨⟨dx, ?_⟩, ha2, hb2, nab⟩, st2⟩
        rw [i2]
        unfold spO dropS
        dsimp only
        rw [if_neg (by rw [q]; decide), hl, List.length_set]
        rfl
  · rintro σ H3 ⟨rfl, hS3, st3⟩
    obtain ⟨⟨dx3, i3⟩, ha3, hb3, _⟩ := id hS3
    unfold spO at i3
    have ha3 : H3 a = some (.lst ((S.nums.set n (S.nums.getD n 0 - 1)).map V.int)) := ha3
    have hz2 : n < (S.nums.set n (S.nums.getD n 0 - 1)).length := by rw [List.length_set]; exact hz
    walk_at "run1"
    rw [show (S.nums.set n (S.nums.getD n 0 - 1)).getD ((n : Nat) : Int).toNat 0 = S.nums.getD n 0 - 1 by rw [Int.toNat_natCast, List.getD_eq_getElem?_getD, List.getElem?_set_self hz]; rfl]
    exact k2 H3 hS3 st3
structure Sep (F : List Addr) (H : Hp) (L : List (Addr × HO)) : Prop where
  own : ∀ x ∈ L, H x.1 = some x.2
  out : ∀ x ∈ L, x.1 ∉ F
  nd : (L.map (·.1)).Nodup
section sep
variable {F F' : List Addr} {H H' : Hp} {L L2 : List (Addr × HO)} {p : Addr} {o : HO}
theorem Sep.get (x : Sep F H L) (i : Nat) (e : L[i]? = some (p, o)) : H p = some o := x.own (p, o) (List.mem_of_getElem? e)
theorem Sep.far (x : Sep F H L) (i : Nat) (e : L[i]? = some (p, o)) : p ∉ F := x.out (p, o) (List.mem_of_getElem? e)
theorem Sep.stp (x : Sep F H L) (st : Stp F H F' H') : Sep F' H' L :=
  ⟨fun y hy => (st.keep (x.own y hy) (x.out y hy)).1, fun y hy => (st.keep (x.own y hy) (x.out y hy)).2, x.nd⟩
theorem Sep.same (x : Sep F H L) (s : Same H H') : Sep F H' L := ⟨fun y hy => s _ _ (x.own y hy), x.out, x.nd⟩
theorem Sep.set (x : Sep F H L) (i : Nat) (e : L[i]? = some (p, o)) (o' : HO) : Sep F (upd H p o') (L.set i (p, o')) := by
  have hm : (L.set i (p, o')).map (·.1) = L.map (·.1) := by
    rw [List.map_set]
    refine List.ext_getElem? fun j => ?_
    by_cases q : i = j
    · subst q
      have hi : i < L.length := (List.getElem?_eq_some_iff.mp e).1
      rw [List.getElem?_set_self (by rw [List.length_map]; exact hi), List.getElem?_map, e]
      rfl
    · rw [List.getElem?_set_ne q]
  have nd' : ((L.set i (p, o')).map (·.1)).Nodup := by rw [hm]; exact x.nd
  have hi : i < L.length := (List.getElem?_eq_some_iff.mp e).1
  have key : ∀ j y, (L.set i (p, o'))[j]? = some y → (j = i ∧ y = (p, o')) ∨ (j ≠ i ∧ L[j]? = some y ∧ y.1 ≠ p) := fun j y h => by
    by_cases q : i = j
    · subst q
      rw [List.getElem?_set_self hi] at h
      exact .inl ⟨rfl, (Option.some.inj h).symm⟩
    · rw [List.getElem?_set_ne q] at h
      refine .inr ⟨Ne.symm q, h, fun r => q ?_⟩
      have h1 : (L.map (·.1))[i]? = some p := by rw [List.getElem?_map, e]; rfl
      have h2 : (L.map (·.1))[j]? = some p := by rw [List.getElem?_map, h, ← r]; rfl
      obtain ⟨w1, e1⟩ := List.getElem?_eq_some_iff.mp h1
      obtain ⟨w2, e2⟩ := List.getElem?_eq_some_iff.mp h2
      exact (List.getElem?_inj w1 x.nd).mp (h1.trans h2.symm)
  refine ⟨fun y hy => ?_, fun y hy => ?_, nd'⟩
  · obtain ⟨j, hj⟩ := List.getElem?_of_mem hy
    rcases key j y hj with ⟨_, rfl⟩ | ⟨_, h, n⟩
    · exact upd_same
    · rw [upd_ne n]; exact x.own y (List.mem_of_getElem? h)
  · obtain ⟨j, hj⟩ := List.getElem?_of_mem hy
    rcases key j y hj with ⟨_, rfl⟩ | ⟨_, h, n⟩
    · exact x.far i e
    · exact x.out y (List.mem_of_getElem? h)
theorem Sep.more (x : Sep F H L) (s : Same H H') (h1 : ∀ y ∈ L2, H' y.1 = some y.2) (h2 : ∀ y ∈ L2, H y.1 = none) (h3 : ∀ y ∈ L2, y.1 ∉ F) (h4 : (L2.map (·.1)).Nodup) : Sep F H' (L2 ++ L) := by
  refine ⟨fun y hy => ?_, fun y hy => ?_, ?_⟩
  · rcases List.mem_append.mp hy with h | h
    · exact h1 y h
    · exact s _ _ (x.own y h)
  · rcases List.mem_append.mp hy with h | h
    · exact h3 y h
    · exact x.out y h
  · rw [List.map_append]
    refine List.nodup_append.mpr ⟨h4, x.nd, fun a ha b hb q => ?_⟩
    subst q
    obtain ⟨y, hy, rfl⟩ := List.mem_map.mp ha
    obtain ⟨z, hz, e⟩ := List.mem_map.mp hb
    have := h2 y hy
    rw [← e, x.own z hz] at this
    cases this
theorem Sep.add (x : Sep F H L) (s : Same H H') (hn : H p = none) (hf : p ∉ F) (e : H' p = some o) : Sep F H' ((p, o) :: L) :=
  x.more (L2 := [(p, o)]) s (by simp [e]) (by simp [hn]) (by simp [hf]) (by simp)
theorem Sep.new (x : Sep F H L) (hn : H p = none) (hf : p ∉ F) : Sep F (upd H p o) ((p, o) :: L) := x.add (same_new hn) hn hf upd_same
theorem Sep.nil : Sep F H [] := ⟨by simp, by simp, List.nodup_nil⟩
end sep
theorem SpAt.oth {C : Ex} {H : Hp} {s a b p : Addr} {o : HO} {S : SpS} (x : SpAt C H s a b S) (h : p ∉ spF s a b) : SpAt C (upd H p o) s a b S := by
  obtain ⟨⟨dx, i⟩, h1, h2, ne⟩ := x
  simp only [spF, List.mem_cons, List.not_mem_nil, or_false, not_or] at h
  exact ⟨⟨dx, upd_oth i (Ne.symm h.1)⟩, upd_oth h1 (Ne.symm h.2.1), upd_oth h2 (Ne.symm h.2.2), ne⟩
theorem posL_len (ns : List Int) : (posL ns).length = ns.length := by unfold posL; rw [List.length_map]
theorem SpOk.zero {ns : List Int} {hs : List Bool} (h1 : ns.length = hs.length) (h2 : ∀ z ∈ ns, 0 ≤ z) (h3 : ns.length ≤ 100000) : SpOk ⟨ns, hs, 0⟩ := ⟨h1, h2, Int.le_refl 0, fun i hi => by have hi : (i : Int) < 0 := hi; omega, h3⟩
def sp_Space_settle (K : PySem.W.Frag) (C : Ex) : Sp := S1 fun x H Q _ => ∃ s a b S, x = .ref s ∧ SpAt C H s a b S ∧ SpOk S ∧ ∀ H' b', SpAt C H' s a b' ⟨S.nums, posL S.nums, 0⟩ → Stp (spF s a b) H (spF s a b') H' → Q .non H'
def t_Space_settle (K : PySem.W.Frag) (C : Ex) (E : XK) : TS :=
  tSeq (uSetF C.Space "held" (tVar 0) (tLc (iList K (uFld C.Space "numbers" (tVar 0))) (gName 1) (tYes) (tOp (uGt) (tVar 1) (tC (.int 0))) [1]))
  (tDrop (uMeth C.Space "count_spare" (sp_Space_count_spare K C) (WB E) (tVar 0) (tNil)))
theorem pure_Space_settle {K : PySem.W.Frag} {C : Ex} {vs : List V} {H : Hp} {Q : VK} {E : XK} (F : Fa K C) (h : sp_Space_settle K C vs H Q E) : t_Space_settle K C E { nx := fun _ H' => Q .non H', rt := Q } (start ["self", "many"] vs) H := by
  obtain ⟨x, rfl, s, a, b, S, rfl, hS, ok, k⟩ := h
  have hS0 := hS
  obtain ⟨⟨dx, i⟩, ha, hb, nab⟩ := hS
  have len := ok.len
  have sz := ok.sz
  unfold spO at i
  have nsa : s ≠ a := (ne_of ha i fun z => nomatch z).symm
  unfold t_Space_settle
  walk_at "run1"
  refine l_pos ha sz (by show 1 < 2; decide) fun b' H1 hb' s1 e1 => ?_
  have i1 := s1 _ _ i
  have ha1 := s1 _ _ ha
  have nbs : b' ≠ s := (ne_of_none i hb').symm
  have nab' : a ≠ b' := ne_of_none ha hb'
  walk_at "run1"
  refine w_S1 ⟨s, a, b', dx, S.nums, posL S.nums, (freeL S.nums S.held).length, S.low, rfl, ?_, upd_oth ha1 nsa.symm, upd_oth e1 nbs, (posL_len _).symm, sz, fun H4 i4 f4 => ?_⟩
  · rw [upd_same]
    rfl
  · walk_at "run1"
    have f5 : ∀ c o, H1 c = some o → c ≠ s → H4 c = some o := fun c o h n => f4 c o (upd_oth h n) n
    refine k H4 b' ⟨⟨dx, i4⟩, f5 _ _ ha1 nsa.symm, f5 _ _ e1 nbs, nab'⟩ ⟨fun c o h n => ?_, fun c hc => ?_⟩
    · simp only [spF, List.mem_cons, List.not_mem_nil, or_false, not_or] at n
      exact f5 c o (s1 _ _ h) n.1
    · simp only [spF, List.mem_cons, List.not_mem_nil, or_false] at hc ⊢
      rcases hc with rfl | rfl | rfl
      · exact .inl (.inl rfl)
      · exact .inl (.inr (.inl rfl))
      · exact .inr hb'
structure SA where
  (st m hd d a w n s sa sb : Addr)
abbrev SA.all (A : SA) : List Addr := [A.st, A.m, A.hd, A.d, A.a, A.w, A.n, A.s, A.sa, A.sb]
structure StS where
  sp : SpS
  dk : DiskS
  kvs : List (Key × V)
  cont : Int → Option (List Int)
  gen : Int
  ht : V
  hb : V
  tab : V
  res : Int
def stO (C : Ex) (dx : Addr) (A : SA) (tab : V) (res : Int) : HO := .ins C.Store dx [("disk", .ref A.d), ("head", .ref A.hd), ("space", .ref A.s), ("table", tab), ("reserve", .int res), ("memory", .ref A.m)]
/-- 32 words -/
def Blk (r : List Int) : Prop := r.length = 32 ∧ ∀ z ∈ r, 0 ≤ z
def memA (kvs : List (Key × V)) : List Addr := kvs.filterMap fun kv => match kv.2 with
  | .ref p => some p
  | _ => none
structure MemAt (H : Hp) (B : List Addr) (kvs : List (Key × V)) (cont : Int → Option (List Int)) : Prop where
  ks : ∀ kv ∈ kvs, ∃ k : Int, kv.1 = .inl k
  nd : (kvs.map (·.1)).Nodup
  v : ∀ k : Int, (valV kvs (.inl k) = none ∧ cont k = none) ∨ ∃ p ws, valV kvs (.inl k) = some (.ref p) ∧ cont k = some ws ∧ H p = some (.lst (ws.map V.int)) ∧ Blk ws ∧ p ∉ B
structure StAt (C : Ex) (H : Hp) (A : SA) (S : StS) : Prop where
  ins : ∃ dx, H A.st = some (stO C dx A S.tab S.res)
  mem : H A.m = some (.dK S.kvs)
  hd : ∃ dh, H A.hd = some (hdO C dh (.int S.gen) S.ht S.hb)
  dk : DiskAt C H A.d A.a A.w A.n S.dk
  sp : SpAt C H A.s A.sa A.sb S.sp
  nd : A.all.Nodup
  mr : MemAt H A.all S.kvs S.cont
abbrev stF (A : SA) (S : StS) : List Addr := A.all ++ memA S.kvs
structure StOk (S : StS) : Prop where
  spo : SpOk S.sp
  sz : 96 ≤ S.sp.nums.length
  rs : 0 ≤ S.res
  new : ∀ k : Nat, (S.cont k).isSome = true ↔ k < S.sp.nums.length ∧ 0 < S.sp.nums.getD k 0 ∧ S.sp.held.getD k false = false
  neg : ∀ k : Int, k < 5 → S.cont k = none
  lo5 : ∀ i : Nat, i < 5 → 0 < S.sp.nums.getD i 0 ∧ S.sp.held.getD i false = true
theorem memA_of {kvs : List (Key × V)} {k : Int} {p : Addr} (h : valV kvs (.inl k) = some (.ref p)) : p ∈ memA kvs := by
  unfold valV at h
  cases e : kvs.find? (fun kv => decide (kv.1 = .inl k)) with
  | none => rw [e] at h; cases h
  | some kv =>
    rw [e] at h
    have h : kv.2 = .ref p := Option.some.inj h
    unfold memA
    exact List.mem_filterMap.mpr ⟨kv, List.mem_of_find?_eq_some e, by rw [h]⟩
theorem MemAt.at_ {H : Hp} {B : List Addr} {kvs : List (Key × V)} {cont : Int → Option (List Int)} (x : MemAt H B kvs cont) {p : Addr} (h : p ∈ memA kvs) : ∃ ws : List Int, H p = some (.lst (ws.map V.int)) ∧ Blk ws ∧ p ∉ B := by
  unfold memA at h
  obtain ⟨kv, hm, e⟩ := List.mem_filterMap.mp h
  obtain ⟨k, ek⟩ := x.ks kv hm
  have hv : valV kvs (.inl k) = some kv.2 := by
    have nd := x.nd
    clear x h
    induction kvs with
    | nil => cases hm
    | cons a t ih =>
      have nd := List.nodup_cons.mp nd
      rcases List.mem_cons.mp hm with rfl | hm
      · exact valV_pos ek
      · rw [valV_neg (fun q => nd.1 (List.mem_map.mpr ⟨kv, hm, ek.trans q.symm⟩))]
        exact ih hm nd.2
  have hp : kv.2 = .ref p := by
    split at e
    · rename_i q
      rw [q, Option.some.inj e]
    · cases e
  rcases x.v k with ⟨a, _⟩ | ⟨p', ws, a, _, b, c, d⟩
  · rw [hv] at a; cases a
  · rw [hv, hp] at a
    cases a
    exact ⟨ws, b, c, d⟩
theorem MemAt.stp {H H' : Hp} {B B' : List Addr} {kvs : List (Key × V)} {cont : Int → Option (List Int)} (x : MemAt H B kvs cont) (st : Stp B H B' H') : MemAt H' B' kvs cont :=
  ⟨x.ks, x.nd, fun k => by
    rcases x.v k with y | ⟨p, ws, a, b, c, d, e⟩
    · exact .inl y
    · exact .inr ⟨p, ws, a, b, (st.keep c e).1, d, (st.keep c e).2⟩⟩
theorem plain_len {ns : List Int} (h : ns.length ≠ 8) : Plain (.lst (ns.map V.int)) :=
  ⟨fun r h8 e => h (by have := congrArg List.length (HO.lst.inj e); rw [List.length_map, List.length_map] at this; omega), fun _ e => nomatch e⟩
theorem plain_bl {bs : List Bool} : Plain (.lst (bs.map V.bl)) :=
  ⟨fun r h8 e => by
    have e := HO.lst.inj e
    cases r with
    | nil => cases h8
    | cons z r => cases bs <;> simp at e, fun _ e => nomatch e⟩
/-- what is written is not the disk's -/
theorem DiskAt.frame {C : Ex} {H H' : Hp} {X : List Addr} {d a w n : Addr} {D : DiskS} (x : DiskAt C H d a w n D) (fr : ∀ b o, H b = some o → b ∉ X → H' b = some o) (dj : ∀ b ∈ X, b ∉ dkF d a w n) (pl : ∀ b ∈ X, ∃ o, H b = some o ∧ Plain o) : DiskAt C H' d a w n D := by
  have hr : ∀ v r, RowAt H v r → RowAt H' v r := fun v r y => by
    obtain ⟨l8, p, rfl, e⟩ := y
    refine ⟨l8, p, rfl, fr _ _ e fun hp => ?_⟩
    obtain ⟨o, ho, po⟩ := pl p hp
    rw [e] at ho
    exact po.1 r l8 (Option.some.inj ho)
  have ht : ∀ t xs, H t = some (.tup xs) → H' t = some (.tup xs) := fun t xs e => fr _ _ e fun hp => by
    obtain ⟨o, ho, po⟩ := pl t hp
    rw [e] at ho
    exact po.2 xs (Option.some.inj ho).symm
  obtain ⟨⟨dx, i⟩, ⟨vs, e1, r1⟩, ⟨ws, e2, r2⟩, ⟨kvs, e3, r3⟩, ne⟩ := x
  have nX : ∀ b, b ∈ dkF d a w n → b ∉ X := fun b h q => dj b q h
  exact ⟨⟨dx, fr _ _ i (nX _ (by simp [dkF]))⟩, ⟨vs, fr _ _ e1 (nX _ (by simp [dkF])), r1.map hr⟩, ⟨ws, fr _ _ e2 (nX _ (by simp [dkF])), r2.map hr ht⟩, ⟨kvs, fr _ _ e3 (nX _ (by simp [dkF])), r3.map hr⟩, ne⟩
section store
variable {C : Ex} {H H' : Hp} {A : SA} {S : StS}
theorem StAt.held (x : StAt C H A S) : ∀ b ∈ stF A S, H b ≠ none := by
  intro b hb
  obtain ⟨⟨_, x1⟩, x2, ⟨_, x3⟩, ⟨⟨_, y1⟩, ⟨_, y2, _⟩, ⟨_, y3, _⟩, ⟨_, y4, _⟩, _⟩, ⟨⟨_, z1⟩, z2, z3, _⟩, _, mr⟩ := x
  rcases List.mem_append.mp hb with hb | hb
  · simp only [SA.all, List.mem_cons, List.not_mem_nil, or_false] at hb
    rcases hb with rfl | rfl | rfl | rfl | rfl | rfl | rfl | rfl | rfl | rfl <;> simp [*]
  · obtain ⟨ws, e, _⟩ := mr.at_ hb
    rw [e]
    simp
theorem StAt.fresh (x : StAt C H A S) {p : Addr} (h : H p = none) : p ∉ stF A S := fun q => x.held p q h
theorem StAt.same (x : StAt C H A S) (s : Same H H') : StAt C H' A S := by
  obtain ⟨⟨dx, x1⟩, x2, ⟨dh, x3⟩, x4, x5, nd, mr⟩ := x
  exact ⟨⟨dx, s _ _ x1⟩, s _ _ x2, ⟨dh, s _ _ x3⟩, x4.same s, x5.same s, nd, mr.stp (.same s)⟩
/-- the space has changed -/
theorem StAt.setSp {P : SpS} (x : StAt C H A S) (l : S.sp.nums.length ≠ 8) (h : SpAt C H' A.s A.sa A.sb P) (st : Stp (spF A.s A.sa A.sb) H (spF A.s A.sa A.sb) H') : StAt C H' A { S with sp := P } ∧ Stp (stF A S) H (stF A { S with sp := P }) H' := by
  obtain ⟨⟨dx, x1⟩, x2, ⟨dh, x3⟩, x4, x5, nd, mr⟩ := x
  have sub : ∀ b ∈ spF A.s A.sa A.sb, b ∈ A.all := fun b hb => by
    simp only [spF, List.mem_cons, List.not_mem_nil, or_false] at hb
    rcases hb with rfl | rfl | rfl <;> simp [SA.all]
  have st' : Stp A.all H A.all H' := st.wide sub
  have dj : ∀ b ∈ spF A.s A.sa A.sb, b ∉ dkF A.d A.a A.w A.n ∧ b ≠ A.st ∧ b ≠ A.m ∧ b ≠ A.hd := fun b hb => by
    have nd := nd
    simp only [SA.all, List.nodup_cons, List.mem_cons, List.not_mem_nil, or_false, not_or] at nd
    simp only [spF, List.mem_cons, List.not_mem_nil, or_false] at hb
    simp only [dkF, List.mem_cons, List.not_mem_nil, or_false, not_or]
    rcases hb with rfl | rfl | rfl <;> simp_all [eq_comm]
  have nst : A.st ∉ spF A.s A.sa A.sb := fun q => (dj _ q).2.1 rfl
  have nm : A.m ∉ spF A.s A.sa A.sb := fun q => (dj _ q).2.2.1 rfl
  have nh : A.hd ∉ spF A.s A.sa A.sb := fun q => (dj _ q).2.2.2 rfl
  refine ⟨⟨⟨dx, st.1 _ _ x1 nst⟩, st.1 _ _ x2 nm, ⟨dh, st.1 _ _ x3 nh⟩, x4.frame st.1 (fun b hb => (dj b hb).1) (fun b hb => ?_), h, nd, mr.stp st'⟩, st'.wide fun b hb => List.mem_append_left _ hb⟩
  obtain ⟨⟨_, z1⟩, z2, z3, _⟩ := x5
  simp only [spF, List.mem_cons, List.not_mem_nil, or_false] at hb
  rcases hb with rfl | rfl | rfl
  · exact ⟨_, z1, plain_ins⟩
  · exact ⟨_, z2, plain_len l⟩
  · exact ⟨_, z3, plain_bl⟩
/-- a plain object outside is written -/
theorem StAt.oth {p : Addr} {o u : HO} (x : StAt C H A S) (h : H p = some u) (pu : Plain u) (n : p ∉ stF A S) : StAt C (upd H p o) A S := by
  obtain ⟨⟨dx, x1⟩, x2, ⟨dh, x3⟩, x4, x5, nd, mr⟩ := x
  have n1 : p ∉ A.all := fun q => n (List.mem_append_left _ q)
  have n2 : p ∉ memA S.kvs := fun q => n (List.mem_append_right _ q)
  have fr : ∀ b o', H b = some o' → b ∉ [p] → upd H p o b = some o' := fun b o' e q => upd_oth e fun z => q (by rw [z]; simp)
  have na : ∀ b ∈ A.all, b ≠ p := fun b hb q => n1 (q ▸ hb)
  refine ⟨⟨dx, upd_oth x1 (na _ (by simp [SA.all]))⟩, upd_oth x2 (na _ (by simp [SA.all])), ⟨dh, upd_oth x3 (na _ (by simp [SA.all]))⟩, x4.frame fr (fun b hb => ?_) (fun b hb => ?_), x5.oth fun hb => ?_, nd, ⟨mr.ks, mr.nd, fun k => ?_⟩⟩
  · rw [List.mem_singleton.mp hb]
    intro q
    simp only [dkF, List.mem_cons, List.not_mem_nil, or_false] at q
    rcases q with q | q | q | q <;> exact na _ (by simp [SA.all]) q.symm
  · rw [List.mem_singleton.mp hb]
    exact ⟨u, h, pu⟩
  · simp only [spF, List.mem_cons, List.not_mem_nil, or_false] at hb
    rcases hb with q | q | q <;> exact na _ (by simp [SA.all]) q.symm
  · rcases mr.v k with y | ⟨p', ws, a, b, c, d, e⟩
    · exact .inl y
    · exact .inr ⟨p', ws, a, b, upd_oth c fun q => n2 (q ▸ memA_of a), d, e⟩
/-- the memory has changed -/
theorem StAt.setMem {kvs : List (Key × V)} {cont : Int → Option (List Int)} (x : StAt C H A S) (s : Same H H') (mr : MemAt H' A.all kvs cont) (hn : ∀ b ∈ memA kvs, b ∈ stF A S ∨ H b = none) : StAt C (upd H' A.m (.dK kvs)) A { S with kvs := kvs, cont := cont } ∧ Stp (stF A S) H (stF A { S with kvs := kvs, cont := cont }) (upd H' A.m (.dK kvs)) := by
  have x0 := x.same s
  obtain ⟨⟨dx, x1⟩, x2, ⟨dh, x3⟩, x4, x5, nd, _⟩ := x0
  have nd' := nd
  simp only [SA.all, List.nodup_cons, List.mem_cons, List.not_mem_nil, or_false, not_or] at nd'
  obtain ⟨⟨m1, m2, m3, m4, m5, m6, m7, m8, m9⟩, ⟨h2, h3, h4, h5, h6, h7, h8, h9⟩, _⟩ := nd'
  have fr : ∀ b o', H' b = some o' → b ∉ [A.m] → upd H' A.m (.dK kvs) b = some o' := fun b o' e q => upd_oth e fun z => q (by rw [z]; simp)
  refine ⟨⟨⟨dx, upd_oth x1 m1⟩, upd_same, ⟨dh, upd_oth x3 (Ne.symm h2)⟩, x4.frame fr (fun b hb => ?_) (fun b hb => ?_), x5.oth (by simp only [spF, List.mem_cons, List.not_mem_nil, or_false, not_or]; exact ⟨h7, h8, h9⟩), nd, ⟨mr.ks, mr.nd, fun k => ?_⟩⟩, ⟨fun b o h q => ?_, fun b hb => ?_⟩⟩
  · rw [List.mem_singleton.mp hb]
    simp only [dkF, List.mem_cons, List.not_mem_nil, or_false, not_or]
    exact ⟨h3, h4, h5, h6⟩
  · rw [List.mem_singleton.mp hb]
    exact ⟨_, x2, plain_dK⟩
  · rcases mr.v k with y | ⟨p', ws, a, b, c, d, e⟩
    · exact .inl y
    · exact .inr ⟨p', ws, a, b, upd_oth c fun q => e (by rw [q]; simp [SA.all]), d, e⟩
  · exact upd_oth (s _ _ h) fun z => q (by rw [z]; simp [SA.all])
  · rcases List.mem_append.mp hb with hb | hb
    · exact .inl (List.mem_append_left _ hb)
    · exact hn b hb
theorem memA_put {kvs : List (Key × V)} {k : Key} {p b : Addr} (h : b ∈ memA (putK kvs k (.ref p))) : b = p ∨ b ∈ memA kvs := by
  unfold memA at h
  obtain ⟨kv, hm, e⟩ := List.mem_filterMap.mp h
  have hp : kv.2 = .ref b := by
    split at e
    · rename_i q
      rw [q, Option.some.inj e]
    · cases e
  unfold putK at hm
  split at hm
  · obtain ⟨kv', hm', e'⟩ := List.mem_map.mp hm
    split at e'
    · rw [← e'] at hp
      exact .inl (by cases hp; rfl)
    · rw [← e'] at hp
      exact .inr (List.mem_filterMap.mpr ⟨kv', hm', by rw [hp]⟩)
  · rcases List.mem_append.mp hm with hm | hm
    · exact .inr (List.mem_filterMap.mpr ⟨kv, hm, by rw [hp]⟩)
    · rw [List.mem_singleton.mp hm] at hp
      exact .inl (by cases hp; rfl)
end store
def PtrAt (K : PySem.W.Frag) (H : Hp) (v : V) (z : Int) : Prop := ∃ t y, v = .ref t ∧ SqT K H t [.int z, y]
def outB (S : StS) (z : Int) : Prop := z < 0 ∨ (S.sp.nums.length : Int) ≤ z
theorem btw_out {S : StS} {z : Int} (h : btw 0 ((S.sp.nums.length : Int) - 1) (.int z) = false) : outB S z := by
  rcases (show (z < 0 ∨ (S.sp.nums.length : Int) ≤ z) ∨ (0 ≤ z ∧ z ≤ (S.sp.nums.length : Int) - 1) by omega) with q | q
  · exact q
  · rw [btw_int q.1 q.2] at h; cases h
/-- words for a block: good ones, or none -/
def WordsV (K : PySem.W.Frag) (H : Hp) (c : V) (g : Option (List Int)) : Prop :=
  (∃ p xs, c = .ref p ∧ SqL K H p xs ∧ (∀ x ∈ xs, Known K H x) ∧ ((∃ ws : List Int, g = some ws ∧ xs = ws.map V.int ∧ Blk ws) ∨ (g = none ∧ (decide ((xs.length : Int) = 32) && xs.all isWord) = false))) ∨ (NoList K H c ∧ g = none)
theorem w_words {K : PySem.W.Frag} {C : Ex} {H : Hp} {Q : VK} {E : XK} {c : V} {g : Option (List Int)} (h : WordsV K H c g) (k : Q (.bl g.isSome) H) : sp_are_words K C [c, .int 32] H Q E := by
  rcases h with ⟨p, xs, rfl, hp, hk, ⟨ws, rfl, rfl, l, nn⟩ | ⟨rfl, b⟩⟩ | ⟨hn, rfl⟩
  · refine w_S2 ⟨32, rfl, .inl ⟨p, _, rfl, hp, hk, ?_⟩⟩
    have e : (ws.map V.int).all isWord = true := List.all_eq_true.mpr fun y hy => by
      obtain ⟨i, hi, rfl⟩ := List.mem_map.mp hy
      exact decide_eq_true (nn i hi)
    rw [e, decide_eq_true (by rw [List.length_map, l]; rfl)]
    exact k
  · refine w_S2 ⟨32, rfl, .inl ⟨p, _, rfl, hp, hk, ?_⟩⟩
    rw [b]
    exact k
  · exact w_S2 ⟨32, rfl, .inr ⟨hn, k⟩⟩
theorem WordsV.list {K : PySem.W.Frag} {H : Hp} {c : V} {ws : List Int} (h : WordsV K H c (some ws)) : Blk ws ∧ ∃ p, c = .ref p ∧ SqL K H p (ws.map V.int) := by
  rcases h with ⟨p, xs, rfl, hp, _, ⟨ws', e, rfl, b⟩ | ⟨e, _⟩⟩ | ⟨_, e⟩
  · cases e
    exact ⟨b, p, rfl, hp⟩
  · cases e
  · cases e
theorem WordsV.good {K : PySem.W.Frag} {H : Hp} {p : Addr} {ws : List Int} (h : SqL K H p (ws.map V.int)) (b : Blk ws) : WordsV K H (.ref p) (some ws) :=
  .inl ⟨p, _, rfl, h, fun x hx => by
    obtain ⟨i, _, rfl⟩ := List.mem_map.mp hx
    trivial, .inl ⟨ws, rfl, rfl, b⟩⟩
theorem valV_drop {kvs : List (Key × V)} {k j : Key} : valV (dropK kvs k) j = if j = k then none else valV kvs j := by
  induction kvs with
  | nil => split <;> rfl
  | cons p r ih =>
    by_cases q : p.1 = k
    · rw [show dropK (p :: r) k = dropK r k by unfold dropK; rw [List.filter_cons, if_neg (by simp [q])], ih]
      by_cases e : j = k
      · rw [if_pos e, if_pos e]
      · rw [if_neg e, if_neg e, valV_neg fun z => e (z.symm.trans q)]
    · rw [show dropK (p :: r) k = p :: dropK r k by unfold dropK; rw [List.filter_cons, if_pos (by simp [q])]]
      by_cases e : p.1 = j
      · rw [valV_pos e, valV_pos e, if_neg fun z => q (e.trans z)]
      · rw [valV_neg e, ih, valV_neg e]
theorem putK_keys {kvs : List (Key × V)} {k : Key} {v : V} (h : (kvs.map (·.1)).Nodup) : ((putK kvs k v).map (·.1)).Nodup := by
  unfold putK
  split
  · rw [show (kvs.map fun kv => if kv.1 = k then (kv.1, v) else kv).map (·.1) = kvs.map (·.1) by
      rw [List.map_map]
      exact List.map_congr_left fun kv _ => by
        show (if kv.1 = k then (kv.1, v) else kv).1 = kv.1
        split <;> rfl]
    exact h
  · rename_i q
    rw [List.map_append]
    refine List.nodup_append.mpr ⟨h, by simp, fun a ha b hb e => ?_⟩
    have hb : b = k := by simpa using hb
    subst e
    obtain ⟨kv, hm, e2⟩ := List.mem_map.mp ha
    exact q (List.any_eq_true.mpr ⟨kv, hm, decide_eq_true (e2.trans hb)⟩)
theorem MemAt.put {H H' : Hp} {B : List Addr} {kvs : List (Key × V)} {cont : Int → Option (List Int)} {k : Int} {l : Addr} {ws : List Int} (x : MemAt H B kvs cont) (s : Same H H') (e : H' l = some (.lst (ws.map V.int))) (b : Blk ws) (n : l ∉ B) : MemAt H' B (putK kvs (.inl k) (.ref l)) fun j => if j = k then some ws else cont j := by
  refine ⟨fun kv hm => ?_, putK_keys x.nd, fun j => ?_⟩
  · rcases mem_putK hm with q | q
    · exact ⟨k, q⟩
    · exact x.ks kv q
  · rw [valV_put]
    by_cases q : j = k
    · rw [if_pos (by rw [q]), if_pos q]
      exact .inr ⟨l, ws, rfl, rfl, e, b, n⟩
    · rw [if_neg (fun z => q (Sum.inl.inj z)), if_neg q]
      rcases x.v j with y | ⟨p, ws, a, b, c, d, e⟩
      · exact .inl y
      · exact .inr ⟨p, ws, a, b, s _ _ c, d, e⟩
theorem MemAt.drop {H : Hp} {B : List Addr} {kvs : List (Key × V)} {cont : Int → Option (List Int)} {k : Int} (x : MemAt H B kvs cont) : MemAt H B (dropK kvs (.inl k)) fun j => if j = k then none else cont j := by
  refine ⟨fun kv hm => x.ks kv (List.mem_filter.mp hm).1, ?_, fun j => ?_⟩
  · exact List.Nodup.sublist (List.Sublist.map _ List.filter_sublist) x.nd
  · rw [valV_drop]
    by_cases q : j = k
    · rw [if_pos (by rw [q]), if_pos q]
      exact .inl ⟨rfl, rfl⟩
    · rw [if_neg (fun z => q (Sum.inl.inj z)), if_neg q]
      exact x.v j
theorem memA_drop {kvs : List (Key × V)} {k : Key} {b : Addr} (h : b ∈ memA (dropK kvs k)) : b ∈ memA kvs := by
  unfold memA at h
  obtain ⟨kv, hm, e⟩ := List.mem_filterMap.mp h
  exact List.mem_filterMap.mpr ⟨kv, (List.mem_filter.mp hm).1, e⟩
def putM (S : StS) (k : Int) (l : Addr) (ws : List Int) : StS := { S with kvs := putK S.kvs (.inl k) (.ref l), cont := fun j => if j = k then some ws else S.cont j }
def dropM (S : StS) (k : Int) : StS := { S with kvs := dropK S.kvs (.inl k), cont := fun j => if j = k then none else S.cont j }
theorem StAt.putM {C : Ex} {H H' : Hp} {A : SA} {S : StS} {k : Int} {l : Addr} {ws : List Int} (x : StAt C H A S) (s : Same H H') (n : H l = none) (e : H' l = some (.lst (ws.map V.int))) (b : Blk ws) : StAt C (upd H' A.m (.dK (putK S.kvs (.inl k) (.ref l)))) A (putM S k l ws) ∧ Stp (stF A S) H (stF A (putM S k l ws)) (upd H' A.m (.dK (putK S.kvs (.inl k) (.ref l)))) :=
  x.setMem s (x.mr.put s e b fun q => x.fresh n (List.mem_append_left _ q)) fun b hb => by
    rcases memA_put hb with rfl | q
    · exact .inr n
    · exact .inl (List.mem_append_right _ q)
theorem StAt.dropM {C : Ex} {H : Hp} {A : SA} {S : StS} {k : Int} (x : StAt C H A S) : StAt C (upd H A.m (.dK (dropK S.kvs (.inl k)))) A (dropM S k) ∧ Stp (stF A S) H (stF A (dropM S k)) (upd H A.m (.dK (dropK S.kvs (.inl k)))) :=
  x.setMem (L2.Same.refl _) x.mr.drop fun _ hb => .inl (List.mem_append_right _ (memA_drop hb))
theorem StAt.tupNot {C : Ex} {H : Hp} {A : SA} {S : StS} {t : Addr} {xs : List V} (x : StAt C H A S) (h : H t = some (.tup xs)) : t ∉ stF A S := by
  obtain ⟨⟨_, x1⟩, x2, ⟨_, x3⟩, ⟨⟨_, y1⟩, ⟨_, y2, _⟩, ⟨_, y3, _⟩, ⟨_, y4, _⟩, _⟩, ⟨⟨_, z1⟩, z2, z3, _⟩, _, mr⟩ := x
  intro hb
  rcases List.mem_append.mp hb with hb | hb
  · simp only [SA.all, List.mem_cons, List.not_mem_nil, or_false] at hb
    rcases hb with rfl | rfl | rfl | rfl | rfl | rfl | rfl | rfl | rfl | rfl
    · rw [x1] at h; cases h
    · rw [x2] at h; cases h
    · rw [x3] at h; cases h
    · rw [y1] at h; cases h
    · rw [y2] at h; cases h
    · rw [y3] at h; cases h
    · rw [y4] at h; cases h
    · rw [z1] at h; cases h
    · rw [z2] at h; cases h
    · rw [z3] at h; cases h
  · obtain ⟨ws, e, _⟩ := mr.at_ hb
    rw [e] at h; cases h
def sp_Store_generation (K : PySem.W.Frag) (C : Ex) : Sp := S1 fun x H Q _ => ∃ A S, x = .ref A.st ∧ StAt C H A S ∧ Q (.int (S.gen + 1)) H
def t_Store_generation (K : PySem.W.Frag) (C : Ex) (E : XK) : TS :=
  tRet (tOp (uAdd K) (uFld C.Head "generation" (uFld C.Store "head" (tVar 0))) (tC (.int 1)))
theorem pure_Store_generation {K : PySem.W.Frag} {C : Ex} {vs : List V} {H : Hp} {Q : VK} {E : XK} (F : Fa K C) (h : sp_Store_generation K C vs H Q E) : t_Store_generation K C E { nx := fun _ H' => Q .non H', rt := Q } (start ["self"] vs) H := by
  obtain ⟨x, rfl, A, S, rfl, hS, k⟩ := h
  obtain ⟨dx, i⟩ := hS.ins
  obtain ⟨dh, ih⟩ := hS.hd
  unfold stO at i
  unfold hdO at ih
  unfold t_Store_generation
  walk_at "run1"
  exact k
def sp_Store_use_reserve (K : PySem.W.Frag) (C : Ex) : Sp := S2 fun x c H Q _ => ∃ A S, ∃ z : Int, x = .ref A.st ∧ c = .int z ∧ StAt C H A S ∧ ∀ H', StAt C H' A { S with res := z } → Stp (stF A S) H (stF A S) H' → Q .non H'
theorem StAt.self {C : Ex} {H : Hp} {A : SA} {S : StS} {dx : Addr} {tab : V} {res : Int} (x : StAt C H A S) : StAt C (upd H A.st (stO C dx A tab res)) A { S with tab := tab, res := res } := by
  obtain ⟨⟨dx0, x1⟩, x2, ⟨dh, x3⟩, x4, x5, nd, mr⟩ := x
  have nd' := nd
  simp only [SA.all, List.nodup_cons, List.mem_cons, List.not_mem_nil, or_false, not_or] at nd'
  obtain ⟨⟨m1, m2, m3, m4, m5, m6, m7, m8, m9⟩, _⟩ := nd'
  have fr : ∀ b o', H b = some o' → b ∉ [A.st] → upd H A.st (stO C dx A tab res) b = some o' := fun b o' e q => upd_oth e fun z => q (by rw [z]; simp)
  refine ⟨⟨dx, upd_same⟩, upd_oth x2 (Ne.symm m1), ⟨dh, upd_oth x3 (Ne.symm m2)⟩, x4.frame fr (fun b hb => ?_) (fun b hb => ?_), x5.oth (by simp only [spF, List.mem_cons, List.not_mem_nil, or_false, not_or]; exact ⟨m7, m8, m9⟩), nd, mr.stp (Stp.refl.upd (by simp [SA.all]))⟩
  · rw [List.mem_singleton.mp hb]
    simp only [dkF, List.mem_cons, List.not_mem_nil, or_false, not_or]
    exact ⟨m3, m4, m5, m6⟩
  · rw [List.mem_singleton.mp hb]
    exact ⟨_, x1, plain_ins⟩
def t_Store_use_reserve (K : PySem.W.Frag) (C : Ex) (E : XK) : TS :=
  uSetF C.Store "reserve" (tVar 0) (tVar 1)
theorem pure_Store_use_reserve {K : PySem.W.Frag} {C : Ex} {vs : List V} {H : Hp} {Q : VK} {E : XK} (F : Fa K C) (h : sp_Store_use_reserve K C vs H Q E) : t_Store_use_reserve K C E { nx := fun _ H' => Q .non H', rt := Q } (start ["self", "reserve"] vs) H := by
  obtain ⟨x, c, rfl, A, S, z, rfl, rfl, hS, k⟩ := h
  obtain ⟨dx, i⟩ := hS.ins
  have i0 := i
  unfold stO at i
  unfold t_Store_use_reserve
  walk_at "run1"
  exact k _ (hS.self (dx := dx) (tab := S.tab) (res := z)) (Stp.refl.upd (List.mem_append_left _ (by simp [SA.all])))
def sp_Store_uses (K : PySem.W.Frag) (C : Ex) : Sp := S2 fun x c H Q E => ∃ A S z, x = .ref A.st ∧ PtrAt K H c z ∧ StAt C H A S ∧ StOk S ∧ (outB S z → E (.ref C.NotValid) none H) ∧ ∀ k : Nat, z = (k : Nat) → k < S.sp.nums.length → Q (.int (S.sp.nums.getD k 0)) H
def t_Store_uses (K : PySem.W.Frag) (C : Ex) (E : XK) : TS :=
  tRet (uMeth C.Space "uses" (sp_Space_uses K C) (WB E) (uFld C.Store "space" (tVar 0)) (tCons (tOp (uIx K) (tVar 1) (tC (.int 0))) (tNil)))
theorem pure_Store_uses {K : PySem.W.Frag} {C : Ex} {vs : List V} {H : Hp} {Q : VK} {E : XK} (F : Fa K C) (h : sp_Store_uses K C vs H Q E) : t_Store_uses K C E { nx := fun _ H' => Q .non H', rt := Q } (start ["self", "pointer"] vs) H := by
  obtain ⟨x, c, rfl, A, S, z, rfl, ⟨t, y, rfl, ht⟩, hS, ok, k1, k2⟩ := h
  obtain ⟨dx, i⟩ := hS.ins
  obtain ⟨ds, is⟩ := hS.sp.ins
  unfold stO at i
  unfold spO at is
  unfold t_Store_uses
  walk_at "run1"
  unfold sp_Space_uses rdB
  refine w_S2 ⟨A.s, A.sa, A.sb, S.sp, rfl, trivial, hS.sp.r, ok.spo, fun h => k1 (btw_out h), fun k e hk => ?_⟩
  cases e
  exact k2 k rfl hk
def newB (S : StS) (k : Nat) : Bool := decide (0 < S.sp.nums.getD k 0) && !S.sp.held.getD k false && decide (S.sp.nums.getD k 0 = 1)
def sp_Store_is_new (K : PySem.W.Frag) (C : Ex) : Sp := S2 fun x c H Q E => ∃ A S z, x = .ref A.st ∧ PtrAt K H c z ∧ StAt C H A S ∧ StOk S ∧ (outB S z → E (.ref C.NotValid) none H) ∧ ∀ k : Nat, z = (k : Nat) → k < S.sp.nums.length → Q (.bl (newB S k)) H
def t_Store_is_new (K : PySem.W.Frag) (C : Ex) (E : XK) : TS :=
  tSeq (tAsg (tOp (uIx K) (tVar 1) (tC (.int 0))) (gName 2))
  (tRet (tAndV (uMeth C.Space "is_new" (sp_Space_is_new K C) (WB E) (uFld C.Store "space" (tVar 0)) (tCons (tVar 2) (tNil))) (tOp (uEq K) (uMeth C.Space "uses" (sp_Space_uses K C) (WB E) (uFld C.Store "space" (tVar 0)) (tCons (tVar 2) (tNil))) (tC (.int 1)))))
theorem pure_Store_is_new {K : PySem.W.Frag} {C : Ex} {vs : List V} {H : Hp} {Q : VK} {E : XK} (F : Fa K C) (h : sp_Store_is_new K C vs H Q E) : t_Store_is_new K C E { nx := fun _ H' => Q .non H', rt := Q } (start ["self", "pointer", "number"] vs) H := by
  obtain ⟨x, c, rfl, A, S, z, rfl, ⟨t, y, rfl, ht⟩, hS, ok, k1, k2⟩ := h
  obtain ⟨dx, i⟩ := hS.ins
  obtain ⟨ds, is⟩ := hS.sp.ins
  unfold stO at i
  unfold spO at is
  unfold t_Store_is_new
  walk_at "run1"
  unfold sp_Space_is_new rdB
  refine w_S2 ⟨A.s, A.sa, A.sb, S.sp, rfl, trivial, hS.sp.r, ok.spo, fun h => k1 (btw_out h), fun k e hk => ?_⟩
  cases e
  have k2 := k2 k rfl hk
  unfold newB at k2
  dsimp only
  cases q : (decide (0 < S.sp.nums.getD k 0) && !S.sp.held.getD k false) with
  | false =>
    rw [q, Bool.false_and] at k2
    walk_at "run1"
    exact k2
  | true =>
    rw [q, Bool.true_and] at k2
    walk_at "run1"
    unfold sp_Space_uses rdB
    refine w_S2 ⟨A.s, A.sa, A.sb, S.sp, rfl, trivial, hS.sp.r, ok.spo, fun h => k1 (btw_out h), fun k' e' hk' => ?_⟩
    cases e'
    walk_at "run1"
    exact k2
def sp_Store_share (K : PySem.W.Frag) (C : Ex) : Sp := S2 fun x c H Q E => ∃ A S z, x = .ref A.st ∧ PtrAt K H c z ∧ StAt C H A S ∧ StOk S ∧ (badB S.sp (.int z) → E (.ref C.NotValid) none H) ∧
  ∀ k : Nat, z = (k : Nat) → 5 ≤ k → k < S.sp.nums.length → S.sp.nums.getD k 0 ≠ 0 → ∀ H', StAt C H' A { S with sp := shareS S.sp k } → Stp (stF A S) H (stF A S) H' → Q .non H'
def t_Store_share (K : PySem.W.Frag) (C : Ex) (E : XK) : TS :=
  tDrop (uMeth C.Space "share" (sp_Space_share K C) (WB E) (uFld C.Store "space" (tVar 0)) (tCons (tOp (uIx K) (tVar 1) (tC (.int 0))) (tNil)))
theorem pure_Store_share {K : PySem.W.Frag} {C : Ex} {vs : List V} {H : Hp} {Q : VK} {E : XK} (F : Fa K C) (h : sp_Store_share K C vs H Q E) : t_Store_share K C E { nx := fun _ H' => Q .non H', rt := Q } (start ["self", "pointer"] vs) H := by
  obtain ⟨x, c, rfl, A, S, z, rfl, ⟨t, y, rfl, ht⟩, hS, ok, k1, k2⟩ := h
  obtain ⟨dx, i⟩ := hS.ins
  obtain ⟨ds, is⟩ := hS.sp.ins
  have sz := ok.sz
  unfold stO at i
  unfold spO at is
  unfold t_Store_share
  walk_at "run1"
  refine w_S2 ⟨A.s, A.sa, A.sb, S.sp, rfl, trivial, hS.sp, ok.spo, fun h => k1 h, fun k e h5 hk h0 H' hS' st' => ?_⟩
  cases e
  obtain ⟨g1, g2⟩ := hS.setSp (by omega) hS' st'
  walk_at "run1"
  exact k2 k rfl h5 hk h0 H' g1 g2
def dropSt (S : StS) (k : Nat) : StS := if S.sp.nums.getD k 0 - 1 = 0 then dropM { S with sp := dropS S.sp k } k else { S with sp := dropS S.sp k }
def sp_Store_drop (K : PySem.W.Frag) (C : Ex) : Sp := S2 fun x c H Q E => ∃ A S z, x = .ref A.st ∧ PtrAt K H c z ∧ StAt C H A S ∧ StOk S ∧ (badB S.sp (.int z) → E (.ref C.NotValid) none H) ∧
  ∀ k : Nat, z = (k : Nat) → 5 ≤ k → k < S.sp.nums.length → S.sp.nums.getD k 0 ≠ 0 → ∀ H', StAt C H' A (dropSt S k) → Stp (stF A S) H (stF A (dropSt S k)) H' → Q (.int (S.sp.nums.getD k 0 - 1)) H'
def t_Store_drop (K : PySem.W.Frag) (C : Ex) (E : XK) : TS :=
  tSeq (tAsg (tOp (uIx K) (tVar 1) (tC (.int 0))) (gName 2))
  (tSeq (tAsg (uMeth C.Space "drop" (sp_Space_drop K C) (WB E) (uFld C.Store "space" (tVar 0)) (tCons (tVar 2) (tNil))) (gName 3))
  (tCut (tIfS (tAnd (tTest (tOp (uEq K) (tVar 3) (tC (.int 0)))) (tTest (tOp (uIn K) (tVar 2) (uFld C.Store "memory" (tVar 0))))) (sDDel (uFld C.Store "memory" (tVar 0)) (tVar 2)) (tNext))
  (tRet (tVar 3))))
theorem pure_Store_drop {K : PySem.W.Frag} {C : Ex} {vs : List V} {H : Hp} {Q : VK} {E : XK} (F : Fa K C) (h : sp_Store_drop K C vs H Q E) : t_Store_drop K C E { nx := fun _ H' => Q .non H', rt := Q } (start ["self", "pointer", "number", "left"] vs) H := by
  obtain ⟨x, c, rfl, A, S, z, rfl, ⟨t, y, rfl, ht⟩, hS, ok, k1, k2⟩ := h
  obtain ⟨dx, i⟩ := hS.ins
  obtain ⟨ds, is⟩ := hS.sp.ins
  have sz := ok.sz
  unfold stO at i
  unfold spO at is
  unfold t_Store_drop
  walk_at "run1"
  refine w_S2 ⟨A.s, A.sa, A.sb, S.sp, rfl, trivial, hS.sp, ok.spo, fun h => k1 h, fun k e h5 hk h0 H1 hS1 st1 => ?_⟩
  cases e
  obtain ⟨g1, g2⟩ := hS.setSp (by omega) hS1 st1
  have k2 := k2 k rfl h5 hk h0
  obtain ⟨dx1, i1⟩ := g1.ins
  have m1 := g1.mem
  have m1 : H1 A.m = some (.dK S.kvs) := m1
  unfold stO at i1
  walk_at "run1"
  refine w_cut (fun σ H' => σ = [some (.ref A.st), some (.ref t), some (.int (k : Nat)), some (.int (S.sp.nums.getD k 0 - 1))] ∧ StAt C H' A (dropSt S k) ∧ Stp (stF A S) H (stF A (dropSt S k)) H') ?_ ?_
  · unfold dropSt
    walk_at "run1"
    · rename_i q
      rw [if_pos q]
      cases hv : (valV S.kvs (.inl (k : Nat))).isSome with
      | true =>
        walk_at "run1"
        obtain ⟨g3, g4⟩ := g1.dropM (k := (k : Nat))
        refine w_delI m1 hv ?_
        exact ⟨rfl, g3, g2.trans g4⟩
      | false =>
        walk_at "run1"
        have hv0 : valV S.kvs (.inl (k : Nat)) = none := by simpa using hv
        have e1 : dropK S.kvs (.inl (k : Nat)) = S.kvs := List.filter_eq_self.mpr fun kv hm => decide_eq_true fun e => by
          obtain ⟨kv1, kv2⟩ := kv
          have e : kv1 = _ := e
          have z := hv0
          unfold valV at z
          have z := List.find?_eq_none.mp (Option.map_eq_none_iff.mp z) _ hm
          exact z (decide_eq_true e)
        have e2 : (fun j : Int => if j = (k : Nat) then none else S.cont j) = S.cont := funext fun j => by
          split
          · rename_i e
            rw [e]
            rcases g1.mr.v (k : Nat) with ⟨_, b⟩ | ⟨_, _, a, _⟩
            · exact b.symm
            · have a : valV S.kvs (.inl (k : Nat)) = _ := a
              rw [hv0] at a; cases a
          · rfl
        have e3 : dropM { S with sp := dropS S.sp k } (k : Nat) = { S with sp := dropS S.sp k } := by
          unfold dropM
          dsimp only
          rw [e1, e2]
        rw [e3]
        exact ⟨rfl, g1, g2⟩
    · walk_at "run1"
      rename_i q
      rw [if_neg q]
      exact ⟨rfl, g1, g2⟩
  · rintro σ H2 ⟨rfl, g3, g4⟩
    walk_at "run1"
    exact k2 H2 g3 g4
theorem nodup_le : ∀ (n : Nat) (l : List Int), l.Nodup → (∀ x ∈ l, 0 ≤ x ∧ x < n) → l.length ≤ n
  | 0, l, _, h => by
    cases l with
    | nil => exact Nat.le_refl 0
    | cons a t =>
      have z := h a (List.mem_cons_self ..)
      omega
  | n + 1, l, nd, h => by
    by_cases q : (n : Int) ∈ l
    · have z := nodup_le n (l.erase (n : Int)) (nd.erase _) fun x hx => by
        have hx := (List.Nodup.mem_erase_iff nd).mp hx
        have y := h x hx.2
        have := hx.1
        omega
      rw [List.length_erase_of_mem q] at z
      omega
    · have z := nodup_le n l nd fun x hx => by
        have y := h x hx
        have : x ≠ (n : Int) := fun e => q (e ▸ hx)
        omega
      omega
theorem kvs_len {H : Hp} {B : List Addr} {S : StS} (x : MemAt H B S.kvs S.cont) (ok : StOk S) : S.kvs.length ≤ S.sp.nums.length := by
  have e : ∃ ks : List Int, S.kvs.map (·.1) = ks.map Sum.inl := by
    have z := x.ks
    clear x
    generalize S.kvs = kvs at z
    induction kvs with
    | nil => exact ⟨[], rfl⟩
    | cons a t ih =>
      obtain ⟨ks, e⟩ := ih fun kv hk => z kv (List.mem_cons_of_mem _ hk)
      obtain ⟨k, ek⟩ := z a (List.mem_cons_self ..)
      exact ⟨k :: ks, by rw [List.map_cons, List.map_cons, e, ek]⟩
  obtain ⟨ks, e⟩ := e
  have nd : ks.Nodup := by
    have z := x.nd
    rw [e] at z
    exact (List.pairwise_map.mp z).imp fun h e => h (by rw [e])
  have hl : S.kvs.length = ks.length := by
    have z := congrArg List.length e
    rw [List.length_map, List.length_map] at z
    exact z
  rw [hl]
  refine nodup_le _ ks nd fun k hk => ?_
  have hm : (Sum.inl k : Key) ∈ S.kvs.map (·.1) := by rw [e]; exact List.mem_map.mpr ⟨k, hk, rfl⟩
  have hs : (S.cont k).isSome = true := by
    rcases x.v k with ⟨a, _⟩ | ⟨_, _, _, b, _⟩
    · exfalso
      obtain ⟨kv, hkv, ekv⟩ := List.mem_map.mp hm
      unfold valV at a
      have z := List.find?_eq_none.mp (Option.map_eq_none_iff.mp a) _ hkv
      exact z (decide_eq_true ekv)
    · rw [b]; rfl
  have h5 : ¬ k < 5 := fun q => by rw [ok.neg k q] at hs; cases hs
  obtain ⟨m, rfl⟩ := Int.eq_ofNat_of_zero_le (show 0 ≤ k by omega)
  have := (ok.new m).mp hs
  omega
def rdB4 (D : DiskS) (z : Int) (i : Nat) : List Int := (List.range i).flatMap fun j : Nat => rdS D (4 * z + (j : Int))
def blkS (S : StS) (z : Int) : List Int := (S.cont z).getD (rdB4 S.dk z 4)
structure Dsk (S : StS) : Prop where
  ok : DiskOk S.dk
  r8 : Rd8 S.dk
  pw : S.dk.pw = true
  bl : S.dk.blocks = S.sp.nums.length
theorem rdB4_len {S : StS} (x : Dsk S) {z : Int} (h0 : 0 ≤ z) (h1 : z < S.sp.nums.length) : ∀ i, i ≤ 4 → (rdB4 S.dk z i).length = 8 * i
  | 0, _ => rfl
  | i + 1, h => by
    have := x.ok.sz
    have := x.bl
    unfold rdB4
    rw [List.range_succ, List.flatMap_append, List.length_append]
    have e := rdB4_len x h0 h1 i (by omega)
    unfold rdB4 at e
    rw [e, List.flatMap_cons, List.flatMap_nil, List.append_nil, x.r8 _ (by omega) (by omega)]
    omega
def sp_Store_read (K : PySem.W.Frag) (C : Ex) : Sp := S2 fun x c H Q E => ∃ A S z, x = .ref A.st ∧ PtrAt K H c z ∧ StAt C H A S ∧ StOk S ∧ Dsk S ∧ (z < 5 ∨ (S.sp.nums.length : Int) ≤ z → E (.ref C.NotValid) none H) ∧
  (5 ≤ z → z < S.sp.nums.length → ∀ l H', Same H H' → H l = none → H' l = some (.lst ((blkS S z).map V.int)) → Q (.ref l) H')
def t_Store_read (K : PySem.W.Frag) (C : Ex) (E : XK) : TS :=
  tSeq (tAsg (tOp (uIx K) (tVar 1) (tC (.int 0))) (gName 2))
  (tSeq (tIfS (tNot (uTru K (uCall (sp_is_between K C) (WB E) (tCons (tVar 2) (tCons (tC (.int 5)) (tCons (tOp (uSub) (uFld C.Space "blocks" (uFld C.Store "space" (tVar 0))) (tC (.int 1))) (tNil))))))) (uRaise C.NotValid (WB E)) (tNext))
  (tSeq (tIfS (tTest (tOp (uIn K) (tVar 2) (uFld C.Store "memory" (tVar 0)))) (tRet (tCB (uList K) (tCons (tDGet (uFld C.Store "memory" (tVar 0)) (tVar 2)) (tNil)))) (tNext))
  (tSeq (tAsg (tLst (tNil)) (gName 3))
  (tSeq (tFor (iRng1 (tCons (tC (.int 4)) (tNil))) (gName 4)
  (tAsg (tOp (uAdd K) (tVar 3) (uMeth C.Disk "read" (sp_Disk_read K C) (WB E) (uFld C.Store "disk" (tVar 0)) (tCons (tOp (uAdd K) (tOp (uMul) (tC (.int 4)) (tVar 2)) (tVar 4)) (tNil)))) (gName 3)))
  (tRet (tVar 3))))))
theorem pure_Store_read {K : PySem.W.Frag} {C : Ex} {vs : List V} {H : Hp} {Q : VK} {E : XK} (F : Fa K C) (h : sp_Store_read K C vs H Q E) : t_Store_read K C E { nx := fun _ H' => Q .non H', rt := Q } (start ["self", "pointer", "number", "words", "part"] vs) H := by
  obtain ⟨x, c, rfl, A, S, z, rfl, ⟨t, y, rfl, ht⟩, hS, ok, dk, k1, k2⟩ := h
  obtain ⟨dx, i⟩ := hS.ins
  obtain ⟨ds, is⟩ := hS.sp.ins
  have hm := hS.mem
  have sz := ok.sz
  have bsz := dk.ok.sz
  have bbl := dk.bl
  unfold stO at i
  unfold spO at is
  unfold t_Store_read
  walk_at "run1"
  refine w_S3 ⟨_, _, rfl, rfl, trivial, ?_⟩
  walk_at "run1"
  refine ifBN (fun h => ?_) (fun h => ?_)
  · walk_at "run1"
    refine k1 ?_
    rcases (show (z < 5 ∨ (S.sp.nums.length : Int) ≤ z) ∨ (5 ≤ z ∧ z ≤ (S.sp.nums.length : Int) - 1) by omega) with q | q
    · exact q
    · rw [btw_int q.1 q.2] at h; cases h
  obtain ⟨z', ez, z0, z1⟩ := btw_inv h
  cases ez
  have k2 := k2 z0 (by omega)
  unfold blkS at k2
  rcases hS.mr.v z with ⟨v1, v2⟩ | ⟨p, ws, v1, v2, v3, v4, v5⟩
  · rw [v2] at k2
    have hv : (valV S.kvs (.inl z)).isSome = false := by rw [v1]; rfl
    walk_at "run1"
    rw [hv]
    walk_at "run1"
    rename_i l hl
    refine f_range (fun j σ H' => ∃ (l : Addr) (v4 : Option V), σ = [some (.ref A.st), some (.ref t), some (.int z), some (.ref l), v4] ∧ Same H H' ∧ H l = none ∧ H' l = some (.lst ((rdB4 S.dk z j).map V.int)))
      ⟨l, none, rfl, same_new hl, hl, upd_same⟩ ?_ ?_
    · rintro j σ H1 hj ⟨l, v4, rfl, s1, hl, e1⟩
      have hj : j < 4 := hj
      have i1 := s1 _ _ i
      obtain ⟨dk1, ik1⟩ := (hS.same s1).dk.ins
      unfold dkO at ik1
      walk_at "run1"
      refine w_read (hS.same s1).dk dk.ok dk.r8 dk.pw (by omega) (by omega) fun p hp H2 s2 e2 => ?_
      have e12 := s2 _ _ e1
      have ll := rdB4_len dk (show 0 ≤ z by omega) (show z < S.sp.nums.length by omega) j (by omega)
      have l8 := dk.r8 (4 * z + (0 + (j : Int))) (by omega) (by omega)
      refine w_cat e12 e2 (by rw [List.length_map, List.length_map]; omega) fun l2 hl2 => ?_
      walk_at "run1"
      have s12 := s1.trans s2
      refine ⟨l2, _, rfl, same_updN s12 hl2, s12.free hl2, ?_⟩
      rw [upd_same]
      unfold rdB4
      rw [List.range_succ, List.flatMap_append, List.map_append, List.flatMap_cons, List.flatMap_nil, List.append_nil, Int.zero_add]
    · rintro σ H1 ⟨l, v4, rfl, s1, hl, e1⟩
      walk_at "run1"
      exact k2 l H1 s1 hl e1
  · rw [v2] at k2
    have hv : (valV S.kvs (.inl z)).isSome = true := by rw [v1]; rfl
    walk_at "run1"
    rw [hv]
    walk_at "run1"
    refine w_dgetI hm v1 ?_
    walk_at "run1"
    refine w_tlist (SqL.of v3) fun l hl => ?_
    exact k2 l _ (same_new hl) hl upd_same
def sp_Store_write (K : PySem.W.Frag) (C : Ex) : Sp := S3 fun x c u H Q E => ∃ A S z g, x = .ref A.st ∧ PtrAt K H c z ∧ WordsV K H u g ∧ StAt C H A S ∧ StOk S ∧ (outB S z ∨ (∃ k : Nat, z = (k : Nat) ∧ newB S k = false) ∨ g = none → E (.ref C.NotValid) none H) ∧
  ∀ (k : Nat) ws, z = (k : Nat) → k < S.sp.nums.length → newB S k = true → g = some ws → ∀ H' l, StAt C H' A (putM S k l ws) → Stp (stF A S) H (stF A (putM S k l ws)) H' → Q .non H'
def t_Store_write (K : PySem.W.Frag) (C : Ex) (E : XK) : TS :=
  tSeq (tIfS (tOr (tNot (uTru K (uMeth C.Store "is_new" (sp_Store_is_new K C) (WB E) (tVar 0) (tCons (tVar 1) (tNil))))) (tNot (uTru K (uCall (sp_are_words K C) (WB E) (tCons (tVar 2) (tCons (tC (.int 32)) (tNil))))))) (uRaise C.NotValid (WB E)) (tNext))
  (sDPut (uFld C.Store "memory" (tVar 0)) (tOp (uIx K) (tVar 1) (tC (.int 0))) (tCB (uList K) (tCons (tVar 2) (tNil))))
theorem pure_Store_write {K : PySem.W.Frag} {C : Ex} {vs : List V} {H : Hp} {Q : VK} {E : XK} (F : Fa K C) (h : sp_Store_write K C vs H Q E) : t_Store_write K C E { nx := fun _ H' => Q .non H', rt := Q } (start ["self", "pointer", "words"] vs) H := by
  obtain ⟨x, c, u, rfl, A, S, z, g, rfl, hc, hw, hS, ok, k1, k2⟩ := h
  obtain ⟨dx, i⟩ := hS.ins
  have hm := hS.mem
  have sz := ok.sz
  have ssz := ok.spo.sz
  unfold stO at i
  unfold t_Store_write
  walk_at "run1"
  refine w_S2 ⟨A, S, z, rfl, hc, hS, ok, fun h => k1 (.inl h), fun k e hk => ?_⟩
  cases e
  cases nb : newB S k with
  | false =>
    walk_at "run1"
    exact k1 (.inr (.inl ⟨k, rfl, nb⟩))
  | true =>
    walk_at "run1"
    refine w_words hw ?_
    cases g with
    | none =>
      walk_at "run1"
      exact k1 (.inr (.inr rfl))
    | some ws =>
      obtain ⟨b, p, rfl, hp⟩ := hw.list
      obtain ⟨t, y, rfl, ht⟩ := hc
      rw [show (some ws).isSome = true from rfl]
      walk_at "run1"
      refine w_tlist hp fun l hl => ?_
      have s1 := same_new (o := .lst (ws.map V.int)) hl
      have e1 : upd H l (.lst (ws.map V.int)) l = some (.lst (ws.map V.int)) := upd_same
      generalize upd H l _ = H1 at *
      have i1 := s1 _ _ i
      have hm1 := s1 _ _ hm
      have ht1 := U.Same.sqt s1 ht
      have kl := kvs_len hS.mr ok
      obtain ⟨g1, g2⟩ := hS.putM (k := (k : Nat)) s1 hl e1 b
      walk_at "run1"
      refine w_dputI hm1 (by omega) ?_
      exact k2 k ws rfl hk nb rfl _ l g1 g2
/-- a block's words stand while the space changes -/
theorem sql_sp {K : PySem.W.Frag} {C : Ex} {H H' : Hp} {p s a b : Addr} {P : SpS} {ws : List Int} {F' : List Addr} (h : SqL K H p (ws.map V.int)) (l : ws.length = 32) (x : SpAt C H s a b P) (n : P.nums.length ≠ 32) (st : Stp (spF s a b) H F' H') : SqL K H' p (ws.map V.int) := by
  obtain ⟨⟨dx, i⟩, ha, hb, _⟩ := x
  rcases h with (h | ⟨o, h⟩) | h
  · refine .inl (.inl (st.1 _ _ h fun hm => ?_))
    simp only [spF, List.mem_cons, List.not_mem_nil, or_false] at hm
    rcases hm with rfl | rfl | rfl
    · rw [i] at h; cases h
    · rw [ha] at h
      have z := congrArg List.length (HO.lst.inj (Option.some.inj h))
      rw [List.length_map, List.length_map] at z
      omega
    · rw [hb] at h
      have z := HO.lst.inj (Option.some.inj h)
      cases ws with
      | nil => cases l
      | cons w ws => cases e : P.held with
        | nil => rw [e] at z; cases z
        | cons q t => rw [e] at z; cases z
  · refine .inl (.inr ⟨o, st.1 _ _ h fun hm => ?_⟩)
    simp only [spF, List.mem_cons, List.not_mem_nil, or_false] at hm
    rcases hm with rfl | rfl | rfl
    · rw [i] at h; cases h
    · rw [ha] at h; cases h
    · rw [hb] at h; cases h
  · exact .inr h
def takeSt (S : StS) (k : Nat) : StS := { S with sp := takeS S.sp k }
def sp_Store_make (K : PySem.W.Frag) (C : Ex) : Sp := S2 fun x u H Q E => ∃ A S g, x = .ref A.st ∧ WordsV K H u g ∧ StAt C H A S ∧ StOk S ∧ (g = none → E (.ref C.NotValid) none H) ∧
  ∀ ws, g = some ws → (((freeL S.sp.nums S.sp.held).length : Int) ≤ S.res → E (.ref C.NoSpace) none H) ∧
    ∀ (k : Nat) t, freeL S.sp.nums S.sp.held = k :: t → S.res < (freeL S.sp.nums S.sp.held).length → ∀ H' l tp, StAt C H' A (putM (takeSt S k) k l ws) → Stp (stF A S) H (stF A (putM (takeSt S k) k l ws)) H' → H tp = none → H' tp = some (.tup [.int (k : Nat), .int (S.gen + 1)]) → Q (.ref tp) H'
def t_Store_make (K : PySem.W.Frag) (C : Ex) (E : XK) : TS :=
  tSeq (tIfS (tNot (uTru K (uCall (sp_are_words K C) (WB E) (tCons (tVar 1) (tCons (tC (.int 32)) (tNil)))))) (uRaise C.NotValid (WB E)) (tNext))
  (tSeq (tAsg (uMeth C.Space "take" (sp_Space_take K C) (WB E) (uFld C.Store "space" (tVar 0)) (tCons (uFld C.Store "reserve" (tVar 0)) (tNil))) (gName 2))
  (tSeq (sDPut (uFld C.Store "memory" (tVar 0)) (tVar 2) (tCB (uList K) (tCons (tVar 1) (tNil))))
  (tRet (tTup (tCons (tVar 2) (tCons (uMeth C.Store "generation" (sp_Store_generation K C) (WB E) (tVar 0) (tNil)) (tNil)))))))
theorem pure_Store_make {K : PySem.W.Frag} {C : Ex} {vs : List V} {H : Hp} {Q : VK} {E : XK} (F : Fa K C) (h : sp_Store_make K C vs H Q E) : t_Store_make K C E { nx := fun _ H' => Q .non H', rt := Q } (start ["self", "words", "number"] vs) H := by
  obtain ⟨x, u, rfl, A, S, g, rfl, hw, hS, ok, k1, k2⟩ := h
  obtain ⟨dx, i⟩ := hS.ins
  obtain ⟨ds, is⟩ := hS.sp.ins
  have sz := ok.sz
  have ssz := ok.spo.sz
  unfold stO at i
  unfold spO at is
  unfold t_Store_make
  walk_at "run1"
  refine w_words hw ?_
  cases g with
  | none =>
    walk_at "run1"
    exact k1 rfl
  | some ws =>
    obtain ⟨k2, k3⟩ := k2 ws rfl
    obtain ⟨b, p, rfl, hp⟩ := hw.list
    rw [show (some ws).isSome = true from rfl]
    walk_at "run1"
    refine w_S2 ⟨A.s, A.sa, A.sb, S.sp, S.res, rfl, rfl, ok.rs, hS.sp, ok.spo, k2, fun k t e hr H1 hS1 st1 => ?_⟩
    obtain ⟨g1, g2⟩ := hS.setSp (by omega) hS1 st1
    have k3 := k3 k t e hr
    obtain ⟨dx1, i1⟩ := g1.ins
    obtain ⟨dh1, ih1⟩ := g1.hd
    have m1 : H1 A.m = some (.dK S.kvs) := g1.mem
    unfold stO at i1
    unfold hdO at ih1
    have kl := kvs_len hS.mr ok
    have hp1 : SqL K H1 p (ws.map V.int) := sql_sp hp b.1 hS.sp (by omega) st1
    walk_at "run1"
    refine w_tlist hp1 fun l hl => ?_
    have s2 := same_new (o := .lst (ws.map V.int)) hl
    have e2 : upd H1 l (.lst (ws.map V.int)) l = some (.lst (ws.map V.int)) := upd_same
    obtain ⟨g3, g4⟩ := g1.putM (k := (k : Nat)) s2 hl e2 b
    generalize upd H1 l _ = H2 at *
    have i2 := s2 _ _ i1
    have m2 := s2 _ _ m1
    walk_at "run1"
    refine w_dputI m2 (by omega) ?_
    have fr : ∀ tp, upd H2 A.m (.dK (putK S.kvs (.inl (k : Nat)) (.ref l))) tp = none → H tp = none := fun tp h => by
      have z := s2.free (none_of_upd h).1
      rcases st1.fresh z with q | q
      · exact absurd q (hS1.fresh z)
      · exact q
    have g3 : StAt C (upd H2 A.m (.dK (putK S.kvs (.inl (k : Nat)) (.ref l)))) A (putM (takeSt S k) k l ws) := g3
    have g5 : Stp (stF A S) H (stF A (putM (takeSt S k) k l ws)) (upd H2 A.m (.dK (putK S.kvs (.inl (k : Nat)) (.ref l)))) := g2.trans g4
    clear g4
    generalize upd H2 A.m _ = H3 at *
    obtain ⟨dx3, i3⟩ := g3.ins
    unfold stO at i3
    walk_at "run1"
    refine w_S1 ⟨A, _, rfl, g3, ?_⟩
    walk_at "run1"
    rename_i tp htp
    exact k3 _ l tp (g3.same (same_new htp)) (g5.trans (.same (same_new htp))) (fr _ htp) upd_same
def sp_Store___init__ (K : PySem.W.Frag) (C : Ex) : Sp := S4 fun x d h s H Q _ => ∃ (st dx hd dd a w n ss sa sb : Addr) (D : DiskS) (P : SpS) (g : Int) (ht hb : V), x = .ref st ∧ d = .ref dd ∧ h = .ref hd ∧ s = .ref ss ∧ H st = some (.ins C.Store dx []) ∧ (∃ dh, H hd = some (hdO C dh (.int g) ht hb)) ∧ DiskAt C H dd a w n D ∧ SpAt C H ss sa sb P ∧
  [st, hd, dd, a, w, n, ss, sa, sb].Nodup ∧ ∀ H' m, StAt C H' ⟨st, m, hd, dd, a, w, n, ss, sa, sb⟩ ⟨P, D, [], fun _ => none, g, ht, hb, ht, 60⟩ → (∀ c o, H c = some o → c ≠ st → H' c = some o) → H m = none → Q .non H'
def t_Store___init__ (K : PySem.W.Frag) (C : Ex) (E : XK) : TS :=
  tSeq (uSetF C.Store "disk" (tVar 0) (tVar 1))
  (tSeq (uSetF C.Store "head" (tVar 0) (tVar 2))
  (tSeq (uSetF C.Store "space" (tVar 0) (tVar 3))
  (tSeq (uSetF C.Store "table" (tVar 0) (uFld C.Head "table" (tVar 2)))
  (tSeq (uSetF C.Store "reserve" (tVar 0) (tC (.int 60)))
  (uSetF C.Store "memory" (tVar 0) (tDNewK))))))
theorem pure_Store___init__ {K : PySem.W.Frag} {C : Ex} {vs : List V} {H : Hp} {Q : VK} {E : XK} (F : Fa K C) (h : sp_Store___init__ K C vs H Q E) : t_Store___init__ K C E { nx := fun _ H' => Q .non H', rt := Q } (start ["self", "disk", "head", "space"] vs) H := by
  obtain ⟨x, d, h, s, rfl, st, dx, hd, dd, a, w, n, ss, sa, sb, D, P, g, ht, hb, rfl, rfl, rfl, rfl, i, ⟨dh, ih⟩, hD, hP, nd, k⟩ := h
  have nds := nd
  simp only [List.nodup_cons, List.mem_cons, List.not_mem_nil, or_false, not_or] at nds
  have nh : hd ≠ st := Ne.symm nds.1.1
  have ih0 := ih
  unfold hdO at ih
  unfold t_Store___init__
  walk_at "run1"
  generalize hH1 : upd (upd (upd H st _) st _) st _ = H1 at *
  have f1 : ∀ c o, H c = some o → c ≠ st → H1 c = some o := fun c o h n => by rw [← hH1]; exact upd_oth (upd_oth (upd_oth h n) n) n
  have i1 : H1 st = some (.ins C.Store dx [("disk", .ref dd), ("head", .ref hd), ("space", .ref ss)]) := by rw [← hH1]; exact upd_same
  have ih1 := f1 _ _ ih nh
  clear hH1
  walk_at "run1"
  rename_i m hm
  generalize hH2 : upd (upd (upd (upd H1 st _) st _) m _) st _ = H2 at *
  have hm0 : H m = none := by
    have z := (none_of_upd (none_of_upd hm).1)
    cases e : H m with
    | none => rfl
    | some o => rw [f1 m o e z.2] at z; cases z.1
  have f2 : ∀ c o, H c = some o → c ≠ st → H2 c = some o := fun c o h n => by
    rw [← hH2]
    exact upd_oth (upd_old (upd_oth (upd_oth (f1 c o h n) n) n) hm) n
  have nm : m ≠ st := (none_of_upd hm).2
  have sf : ∀ c o, H c = some o → c ≠ m := fun c o h q => by rw [q, hm0] at h; cases h
  refine k H2 m ⟨⟨dx, by rw [← hH2]; exact upd_same⟩, by rw [← hH2]; exact upd_oth upd_same nm, ⟨dh, f2 _ _ ih0 nh⟩, ?_, ?_, ?_, ⟨(fun kv hk => by cases hk), List.nodup_nil, fun k => .inl ⟨rfl, rfl⟩⟩⟩ f2 hm0
  · refine hD.frame (X := [st]) (fun b o h q => f2 b o h fun z => q (by rw [z]; simp)) (fun b hb => ?_) (fun b hb => ?_)
    · rw [List.mem_singleton.mp hb]
      simp only [dkF, List.mem_cons, List.not_mem_nil, or_false, not_or]
      exact ⟨nds.1.2.1, nds.1.2.2.1, nds.1.2.2.2.1, nds.1.2.2.2.2.1⟩
    · rw [List.mem_singleton.mp hb]
      exact ⟨_, i, plain_ins⟩
  · obtain ⟨⟨dp, x1⟩, x2, x3, x4⟩ := hP
    exact ⟨⟨dp, f2 _ _ x1 (Ne.symm nds.1.2.2.2.2.2.1)⟩, f2 _ _ x2 (Ne.symm nds.1.2.2.2.2.2.2.1), f2 _ _ x3 (Ne.symm nds.1.2.2.2.2.2.2.2), x4⟩
  · obtain ⟨⟨_, y1⟩, ⟨_, y2, _⟩, ⟨_, y3, _⟩, ⟨_, y4, _⟩, _⟩ := hD
    obtain ⟨⟨_, z1⟩, z2, z3, _⟩ := hP
    have e : ([st, m, hd, dd, a, w, n, ss, sa, sb] : List Addr).Nodup := by
      have nd' := nd
      rw [List.nodup_cons] at nd' ⊢
      rw [List.nodup_cons]
      refine ⟨?_, ?_, nd'.2⟩
      · intro q
        rcases List.mem_cons.mp q with q | q
        · exact nm q.symm
        · exact nd'.1 q
      · intro q
        simp only [List.mem_cons, List.not_mem_nil, or_false] at q
        rcases q with q | q | q | q | q | q | q | q
        · exact sf _ _ ih0 q.symm
        · exact sf _ _ y1 q.symm
        · exact sf _ _ y2 q.symm
        · exact sf _ _ y3 q.symm
        · exact sf _ _ y4 q.symm
        · exact sf _ _ z1 q.symm
        · exact sf _ _ z2 q.symm
        · exact sf _ _ z3 q.symm
    exact e
def sp_Store_new_blocks (K : PySem.W.Frag) (C : Ex) : Sp := S1 fun x H Q _ => ∃ A S, x = .ref A.st ∧ StAt C H A S ∧ StOk S ∧ S.kvs.length < 64 ∧ ∀ l H', Same H H' → H l = none → H' l = some (.lst (((List.range S.sp.nums.length).filter fun i => (S.cont (i : Nat)).isSome).map fun i => V.int (i : Nat))) → Q (.ref l) H'
theorem filt_sorted (n : Nat) (f : Nat → Bool) : ((List.range n).filter f).Pairwise (· < ·) := List.Pairwise.filter _ List.pairwise_lt_range
/-- two ascending lists with the same members -/
theorem sorted_eq : ∀ (l m : List Int), l.Pairwise (· < ·) → m.Pairwise (· < ·) → (∀ x, x ∈ l ↔ x ∈ m) → l = m
  | [], [], _, _, _ => rfl
  | [], b :: m, _, _, h => by have := (h b).mpr (List.mem_cons_self ..); cases this
  | a :: l, [], _, _, h => by have := (h a).mp (List.mem_cons_self ..); cases this
  | a :: l, b :: m, hl, hm, h => by
    have hl := List.pairwise_cons.mp hl
    have hm := List.pairwise_cons.mp hm
    have e : a = b := by
      rcases List.mem_cons.mp ((h a).mp (List.mem_cons_self ..)) with q | q
      · exact q
      · rcases List.mem_cons.mp ((h b).mpr (List.mem_cons_self ..)) with r | r
        · exact r.symm
        · have := hm.1 a q
          have := hl.1 b r
          omega
    subst e
    rw [sorted_eq l m hl.2 hm.2 fun x => ?_]
    refine ⟨fun q => ?_, fun q => ?_⟩
    · rcases List.mem_cons.mp ((h x).mp (List.mem_cons_of_mem _ q)) with r | r
      · have := hl.1 x q
        omega
      · exact r
    · rcases List.mem_cons.mp ((h x).mpr (List.mem_cons_of_mem _ q)) with r | r
      · have := hm.1 x q
        omega
      · exact r
theorem mem_keys {H : Hp} {B : List Addr} {kvs : List (Key × V)} {cont : Int → Option (List Int)} (x : MemAt H B kvs cont) {ks : List Int} (e : kvs.map (·.1) = ks.map Sum.inl) (k : Int) : k ∈ ks ↔ (cont k).isSome = true := by
  refine ⟨fun h => ?_, fun h => ?_⟩
  · rcases x.v k with ⟨a, _⟩ | ⟨_, _, _, b, _⟩
    · exfalso
      have hm : (Sum.inl k : Key) ∈ kvs.map (·.1) := by rw [e]; exact List.mem_map.mpr ⟨k, h, rfl⟩
      obtain ⟨kv, hkv, ekv⟩ := List.mem_map.mp hm
      unfold valV at a
      have z := List.find?_eq_none.mp (Option.map_eq_none_iff.mp a) _ hkv
      exact z (decide_eq_true ekv)
    · rw [b]; rfl
  · rcases x.v k with ⟨_, b⟩ | ⟨p, _, a, _⟩
    · rw [b] at h; cases h
    · unfold valV at a
      obtain ⟨kv, hf, _⟩ := Option.map_eq_some_iff.mp a
      have h1 := List.mem_of_find?_eq_some hf
      have h2 : kv.1 = Sum.inl k := by simpa using List.find?_some hf
      have : (Sum.inl k : Key) ∈ ks.map Sum.inl := by rw [← e, ← h2]; exact List.mem_map.mpr ⟨kv, h1, rfl⟩
      obtain ⟨k', hk', ek⟩ := List.mem_map.mp this
      cases ek
      exact hk'
theorem int_keys {H : Hp} {B : List Addr} {kvs : List (Key × V)} {cont : Int → Option (List Int)} (x : MemAt H B kvs cont) : ∃ ks : List Int, kvs.map (·.1) = ks.map Sum.inl ∧ ks.Nodup := by
  have e : ∃ ks : List Int, kvs.map (·.1) = ks.map Sum.inl := by
    have z := x.ks
    clear x
    induction kvs with
    | nil => exact ⟨[], rfl⟩
    | cons a t ih =>
      obtain ⟨ks, e⟩ := ih fun kv hk => z kv (List.mem_cons_of_mem _ hk)
      obtain ⟨k, ek⟩ := z a (List.mem_cons_self ..)
      exact ⟨k :: ks, by rw [List.map_cons, List.map_cons, e, ek]⟩
  obtain ⟨ks, e⟩ := e
  refine ⟨ks, e, ?_⟩
  have z := x.nd
  rw [e] at z
  exact (List.pairwise_map.mp z).imp fun h e => h (by rw [e])
def t_Store_new_blocks (K : PySem.W.Frag) (C : Ex) (E : XK) : TS :=
  tRet (tCB uSortD (tCons (uFld C.Store "memory" (tVar 0)) (tNil)))
theorem pure_Store_new_blocks {K : PySem.W.Frag} {C : Ex} {vs : List V} {H : Hp} {Q : VK} {E : XK} (F : Fa K C) (h : sp_Store_new_blocks K C vs H Q E) : t_Store_new_blocks K C E { nx := fun _ H' => Q .non H', rt := Q } (start ["self"] vs) H := by
  obtain ⟨x, rfl, A, S, rfl, hS, ok, hl, k⟩ := h
  obtain ⟨dx, i⟩ := hS.ins
  have hm := hS.mem
  unfold stO at i
  obtain ⟨ks, ek, nd⟩ := int_keys hS.mr
  unfold t_Store_new_blocks
  walk_at "run1"
  refine ⟨A.m, S.kvs, ks, rfl, .inl hm, ek, ?_, fun ys p py sy hp => ?_⟩
  · have z := congrArg List.length ek
    rw [List.length_map, List.length_map] at z
    omega
  · have e : ys = ((List.range S.sp.nums.length).filter fun i => (S.cont (i : Nat)).isSome).map fun i => ((i : Nat) : Int) := by
      refine sorted_eq _ _ ?_ ?_ fun z => ?_
      · have ny : ys.Nodup := py.nodup_iff.mpr nd
        exact (sy.and ny).imp fun h => by have := h.1; have := h.2; omega
      · exact List.pairwise_map.mpr ((filt_sorted _ _).imp fun h => by omega)
      · rw [py.mem_iff, mem_keys hS.mr ek]
        refine ⟨fun h => ?_, fun h => ?_⟩
        · have h5 : ¬ z < 5 := fun q => by rw [ok.neg z q] at h; cases h
          obtain ⟨m, rfl⟩ := Int.eq_ofNat_of_zero_le (show 0 ≤ z by omega)
          exact List.mem_map.mpr ⟨m, List.mem_filter.mpr ⟨List.mem_range.mpr ((ok.new m).mp h).1, h⟩, rfl⟩
        · obtain ⟨m, hm, rfl⟩ := List.mem_map.mp h
          exact (List.mem_filter.mp hm).2
    refine k p _ (same_new hp) hp ?_
    rw [upd_same, e, List.map_map]
    rfl
theorem getD_set {l : List Int} {k i : Nat} {z : Int} (hk : k < l.length) : (l.set k z).getD i 0 = if i = k then z else l.getD i 0 := by
  by_cases q : k = i
  · subst q
    rw [if_pos rfl, List.getD_eq_getElem?_getD, List.getElem?_set_self hk]
    rfl
  · rw [if_neg (Ne.symm q), List.getD_eq_getElem?_getD, List.getElem?_set_ne q, ← List.getD_eq_getElem?_getD]
theorem share_st {S : StS} {k : Nat} (ok : StOk S) (h5 : 5 ≤ k) (hk : k < S.sp.nums.length) (h0 : S.sp.nums.getD k 0 ≠ 0) : StOk { S with sp := shareS S.sp k } := by
  have nn := getD_nn ok.spo.nn k
  have hl : (S.sp.nums.set k (S.sp.nums.getD k 0 + 1)).length = S.sp.nums.length := List.length_set ..
  refine ⟨shareS_ok ok.spo hk h0, hl.symm ▸ ok.sz, ok.rs, fun i => ?_, ok.neg, fun i hi => ?_⟩
  · show (S.cont i).isSome = true ↔ i < (S.sp.nums.set k (S.sp.nums.getD k 0 + 1)).length ∧ 0 < (S.sp.nums.set k (S.sp.nums.getD k 0 + 1)).getD i 0 ∧ S.sp.held.getD i false = false
    rw [hl, getD_set hk, ok.new i]
    by_cases q : i = k
    · subst q
      rw [if_pos rfl]
      exact ⟨fun h => ⟨h.1, by omega, h.2.2⟩, fun h => ⟨h.1, by omega, h.2.2⟩⟩
    · rw [if_neg q]
  · show 0 < (S.sp.nums.set k (S.sp.nums.getD k 0 + 1)).getD i 0 ∧ _
    rw [getD_set hk, if_neg (by omega)]
    exact ok.lo5 i hi
theorem drop_st {S : StS} {k : Nat} (ok : StOk S) (h5 : 5 ≤ k) (hk : k < S.sp.nums.length) (h0 : S.sp.nums.getD k 0 ≠ 0) : StOk (dropSt S k) := by
  have nn := getD_nn ok.spo.nn k
  have hl : (S.sp.nums.set k (S.sp.nums.getD k 0 - 1)).length = S.sp.nums.length := List.length_set ..
  have lo : ∀ i : Nat, i < 5 → 0 < (S.sp.nums.set k (S.sp.nums.getD k 0 - 1)).getD i 0 ∧ S.sp.held.getD i false = true := fun i hi => by
    rw [getD_set hk, if_neg (by omega)]
    exact ok.lo5 i hi
  unfold dropSt
  split
  · rename_i q0
    refine ⟨dropS_ok ok.spo hk h0, hl.symm ▸ ok.sz, ok.rs, fun i => ?_, fun j hj => ?_, lo⟩
    · show (if (i : Int) = (k : Nat) then none else S.cont i).isSome = true ↔ i < (S.sp.nums.set k (S.sp.nums.getD k 0 - 1)).length ∧ 0 < (S.sp.nums.set k (S.sp.nums.getD k 0 - 1)).getD i 0 ∧ S.sp.held.getD i false = false
      rw [hl, getD_set hk]
      by_cases q : i = k
      · subst q
        rw [if_pos rfl, if_pos rfl]
        exact ⟨fun h => (by cases h), fun h => by have := h.2.1; omega⟩
      · rw [if_neg (by omega), if_neg q, ok.new i]
    · show (if j = (k : Nat) then none else S.cont j) = none
      split
      · rfl
      · exact ok.neg j hj
  · rename_i q0
    refine ⟨dropS_ok ok.spo hk h0, hl.symm ▸ ok.sz, ok.rs, fun i => ?_, ok.neg, lo⟩
    show (S.cont i).isSome = true ↔ i < (S.sp.nums.set k (S.sp.nums.getD k 0 - 1)).length ∧ 0 < (S.sp.nums.set k (S.sp.nums.getD k 0 - 1)).getD i 0 ∧ S.sp.held.getD i false = false
    rw [hl, getD_set hk, ok.new i]
    by_cases q : i = k
    · subst q
      rw [if_pos rfl]
      exact ⟨fun h => ⟨h.1, by omega, h.2.2⟩, fun h => ⟨h.1, by omega, h.2.2⟩⟩
    · rw [if_neg q]
theorem make_st {S : StS} {k : Nat} {t : List Nat} {l : Addr} {ws : List Int} (ok : StOk S) (e : freeL S.sp.nums S.sp.held = k :: t) : StOk (putM (takeSt S k) k l ws) := by
  obtain ⟨hk, hf, _⟩ := freeL_head e
  have hl : (S.sp.nums.set k 1).length = S.sp.nums.length := List.length_set ..
  unfold isFr at hf
  obtain ⟨f1, f2⟩ := Bool.and_eq_true_iff.mp hf
  have f1 := of_decide_eq_true f1
  have f2 : S.sp.held.getD k false = false := by simpa using f2
  have h5 : 5 ≤ k := by
    rcases Nat.lt_or_ge k 5 with q | q
    · have := (ok.lo5 k q).1
      omega
    · exact q
  refine ⟨takeS_ok ok.spo e, hl.symm ▸ ok.sz, ok.rs, fun i => ?_, fun j hj => ?_, fun i hi => ?_⟩
  · show (if (i : Int) = (k : Nat) then some ws else S.cont i).isSome = true ↔ i < (S.sp.nums.set k 1).length ∧ 0 < (S.sp.nums.set k 1).getD i 0 ∧ S.sp.held.getD i false = false
    rw [hl, getD_set hk]
    by_cases q : i = k
    · subst q
      rw [if_pos rfl, if_pos rfl]
      exact ⟨fun _ => ⟨hk, by decide, f2⟩, fun _ => rfl⟩
    · rw [if_neg (by omega), if_neg q, ok.new i]
  · show (if j = (k : Nat) then some ws else S.cont j) = none
    rw [if_neg (by omega)]
    exact ok.neg j hj
  · show 0 < (S.sp.nums.set k 1).getD i 0 ∧ _
    rw [getD_set hk, if_neg (by omega)]
    exact ok.lo5 i hi
theorem write_st {S : StS} {k : Nat} {l : Addr} {ws : List Int} (ok : StOk S) (hk : k < S.sp.nums.length) (nb : newB S k = true) : StOk (putM S k l ws) := by
  unfold newB at nb
  obtain ⟨n1, n2⟩ := Bool.and_eq_true_iff.mp nb
  obtain ⟨n1, n3⟩ := Bool.and_eq_true_iff.mp n1
  have n1 := of_decide_eq_true n1
  have n3 : S.sp.held.getD k false = false := by simpa using n3
  have h5 : 5 ≤ k := by
    rcases Nat.lt_or_ge k 5 with q | q
    · have := (ok.lo5 k q).2
      rw [n3] at this
      cases this
    · exact q
  refine ⟨ok.spo, ok.sz, ok.rs, fun i => ?_, fun j hj => ?_, ok.lo5⟩
  · show (if (i : Int) = (k : Nat) then some ws else S.cont i).isSome = true ↔ _
    by_cases q : i = k
    · subst q
      rw [if_pos rfl]
      exact ⟨fun _ => ⟨hk, n1, n3⟩, fun _ => rfl⟩
    · rw [if_neg (by omega)]
      exact ok.new i
  · show (if j = (k : Nat) then some ws else S.cont j) = none
    rw [if_neg (by omega)]
    exact ok.neg j hj
theorem res_st {S : StS} {z : Int} (ok : StOk S) (h : 0 ≤ z) : StOk { S with res := z } := ⟨ok.spo, ok.sz, h, ok.new, ok.neg, ok.lo5⟩
/-- all objects that the store writes are plain -/
theorem StAt.plain {C : Ex} {H : Hp} {A : SA} {S : StS} (x : StAt C H A S) (l : S.sp.nums.length ≠ 8) : ∀ b ∈ stF A S, ∃ o, H b = some o ∧ Plain o := by
  obtain ⟨⟨_, x1⟩, x2, ⟨_, x3⟩, ⟨⟨_, y1⟩, ⟨_, y2, r2⟩, ⟨_, y3, r3⟩, ⟨_, y4, _⟩, _⟩, ⟨⟨_, z1⟩, z2, z3, _⟩, _, mr⟩ := x
  intro b hb
  rcases List.mem_append.mp hb with hb | hb
  · simp only [SA.all, List.mem_cons, List.not_mem_nil, or_false] at hb
    rcases hb with rfl | rfl | rfl | rfl | rfl | rfl | rfl | rfl | rfl | rfl
    · exact ⟨_, x1, plain_ins⟩
    · exact ⟨_, x2, plain_dK⟩
    · exact ⟨_, x3, plain_ins⟩
    · exact ⟨_, y1, plain_ins⟩
    · exact ⟨_, y2, plain_refs r2.ref⟩
    · exact ⟨_, y3, plain_refs r3.ref⟩
    · exact ⟨_, y4, plain_dK⟩
    · exact ⟨_, z1, plain_ins⟩
    · exact ⟨_, z2, plain_len l⟩
    · exact ⟨_, z3, plain_bl⟩
  · obtain ⟨ws, e, b32, _⟩ := mr.at_ hb
    exact ⟨_, e, plain_len (by have := b32.1; omega)⟩
theorem StAt.row {C : Ex} {H H' : Hp} {A : SA} {S : StS} {F' : List Addr} {v : V} {r : List Int} (x : StAt C H A S) (l : S.sp.nums.length ≠ 8) (st : Stp (stF A S) H F' H') (h : RowAt H v r) : RowAt H' v r := by
  obtain ⟨l8, p, rfl, e⟩ := h
  refine ⟨l8, p, rfl, st.1 _ _ e fun hp => ?_⟩
  obtain ⟨o, ho, po⟩ := x.plain l p hp
  rw [e] at ho
  exact po.1 r l8 (Option.some.inj ho)
def sp_Store_use_table (K : PySem.W.Frag) (C : Ex) : Sp := S2 fun x c H Q _ => ∃ A S, x = .ref A.st ∧ StAt C H A S ∧ ∀ H', StAt C H' A { S with tab := c } → Stp (stF A S) H (stF A S) H' → Q .non H'
def t_Store_use_table (K : PySem.W.Frag) (C : Ex) (E : XK) : TS :=
  uSetF C.Store "table" (tVar 0) (tVar 1)
theorem pure_Store_use_table {K : PySem.W.Frag} {C : Ex} {vs : List V} {H : Hp} {Q : VK} {E : XK} (F : Fa K C) (h : sp_Store_use_table K C vs H Q E) : t_Store_use_table K C E { nx := fun _ H' => Q .non H', rt := Q } (start ["self", "pointer"] vs) H := by
  obtain ⟨x, c, rfl, A, S, rfl, hS, k⟩ := h
  obtain ⟨dx, i⟩ := hS.ins
  unfold stO at i
  unfold t_Store_use_table
  walk_at "run1"
  exact k _ (hS.self (dx := dx) (tab := c) (res := S.res)) (Stp.refl.upd (List.mem_append_left _ (by simp [SA.all])))
def sp_next_head (K : PySem.W.Frag) (C : Ex) : Sp := S1 fun x H Q _ => ∃ A S, x = .ref A.st ∧ StAt C H A S ∧ ∀ p dx H', Same H H' → H p = none → H' p = some (hdO C dx (.int (S.gen + 1)) S.tab (.int S.sp.nums.length)) → Q (.ref p) H'
def t_next_head (K : PySem.W.Frag) (C : Ex) (E : XK) : TS :=
  tRet (uMake C.Head (sp_Head___init__ K C) (WB E) (tCons (uMeth C.Store "generation" (sp_Store_generation K C) (WB E) (tVar 0) (tNil)) (tCons (uFld C.Store "table" (tVar 0)) (tCons (uFld C.Space "blocks" (uFld C.Store "space" (tVar 0))) (tNil)))))
theorem pure_next_head {K : PySem.W.Frag} {C : Ex} {vs : List V} {H : Hp} {Q : VK} {E : XK} (F : Fa K C) (h : sp_next_head K C vs H Q E) : t_next_head K C E { nx := fun _ H' => Q .non H', rt := Q } (start ["store"] vs) H := by
  obtain ⟨x, rfl, A, S, rfl, hS, k⟩ := h
  obtain ⟨dx, i⟩ := hS.ins
  obtain ⟨ds, is⟩ := hS.sp.ins
  unfold stO at i
  unfold spO at is
  unfold t_next_head
  walk_at "run1"
  refine w_S1 ⟨A, S, rfl, hS, ?_⟩
  walk_at "run1"
  intro p dp hp hdp hne
  refine w_S4 ⟨p, dp, rfl, upd_same, fun H' e fr => ⟨rfl, ?_⟩⟩
  have s : Same H H' := fun b o h => fr b o (by rw [upd_ne (ne_of_none h hp), upd_ne (ne_of_none h hdp)]; exact h) (ne_of_none h hp)
  walk_at "run1"
  exact k p dp H' s hp e
/-- a step of a commit: a flush, or a write -/
abbrev StepD := Option (Int × List Int)
def StepAt (H : Hp) (v : V) : StepD → Prop
  | none => ∃ t, v = .ref t ∧ H t = some (.tup [.str "flush"])
  | some (s, r) => ∃ t p, v = .ref t ∧ H t = some (.tup [.str "write", .int s, .ref p]) ∧ RowAt H (.ref p) r
def StepsAt (H : Hp) (vs : List V) (ss : List StepD) : Prop := vs.length = ss.length ∧ ∀ (i : Nat) v, vs[i]? = some v → ∃ s, ss[i]? = some s ∧ StepAt H v s
theorem StepAt.map {H H' : Hp} {v : V} : ∀ {s : StepD}, StepAt H v s → (∀ v r, RowAt H v r → RowAt H' v r) → (∀ t xs, H t = some (.tup xs) → H' t = some (.tup xs)) → StepAt H' v s
  | none, ⟨t, e, h⟩, _, g => ⟨t, e, g _ _ h⟩
  | some (s, r), ⟨t, p, e, h, y⟩, f, g => ⟨t, p, e, g _ _ h, f _ _ y⟩
theorem StepAt.ref {H : Hp} {v : V} : ∀ {s : StepD}, StepAt H v s → ∃ p, v = .ref p
  | none, ⟨t, e, _⟩ => ⟨t, e⟩
  | some (_, _), ⟨t, _, e, _⟩ => ⟨t, e⟩
theorem StepsAt.nil {H : Hp} : StepsAt H [] [] := ⟨rfl, fun i v h => by simp at h⟩
theorem StepsAt.map {H H' : Hp} {vs : List V} {ss : List StepD} (x : StepsAt H vs ss) (f : ∀ v r, RowAt H v r → RowAt H' v r) (g : ∀ t xs, H t = some (.tup xs) → H' t = some (.tup xs)) : StepsAt H' vs ss := ⟨x.1, fun i v h => by
  obtain ⟨s, e, y⟩ := x.2 i v h
  exact ⟨s, e, y.map f g⟩⟩
theorem StepsAt.same {H H' : Hp} {vs : List V} {ss : List StepD} (x : StepsAt H vs ss) (s : Same H H') : StepsAt H' vs ss := x.map (fun _ _ y => y.same s) fun _ _ e => s _ _ e
theorem StepsAt.ref {H : Hp} {vs : List V} {ss : List StepD} (x : StepsAt H vs ss) : AllRef vs := fun v hv => by
  obtain ⟨i, hi⟩ := List.getElem?_of_mem hv
  obtain ⟨s, _, y⟩ := x.2 i v hi
  exact y.ref
theorem StepsAt.snoc {H : Hp} {vs : List V} {ss : List StepD} {v : V} {s : StepD} (x : StepsAt H vs ss) (y : StepAt H v s) : StepsAt H (vs ++ [v]) (ss ++ [s]) := by
  refine ⟨by rw [List.length_append, List.length_append, x.1]; rfl, fun i w h => ?_⟩
  rcases Nat.lt_or_ge i vs.length with q | q
  · rw [List.getElem?_append_left q] at h
    obtain ⟨r', e, z⟩ := x.2 i w h
    exact ⟨r', by rw [List.getElem?_append_left (by rw [← x.1]; exact q)]; exact e, z⟩
  · rw [List.getElem?_append_right q] at h
    have hi : i - vs.length = 0 := by
      have := (List.getElem?_eq_some_iff.mp h).1
      simp at this
      omega
    rw [hi] at h
    cases h
    exact ⟨s, by rw [List.getElem?_append_right (by rw [← x.1]; exact q), ← x.1, hi]; rfl, y⟩
/-- the list of steps grows -/
theorem StepsAt.app {H H' : Hp} {l : Addr} {vs : List V} {ss : List StepD} {v : V} {s : StepD} (x : StepsAt H vs ss) (sm : Same H H') (e : H' l = some (.lst vs)) (y : StepAt H' v s) : StepsAt (upd H' l (.lst (vs ++ [v]))) (vs ++ [v]) (ss ++ [s]) := by
  have p := plain_refs x.ref
  exact ((x.same sm).snoc y).map (row_upd e p) (tup_upd e p)
def newL (S : StS) : List Nat := (List.range S.sp.nums.length).filter fun i => (S.cont (i : Nat)).isSome
def blkSteps (S : StS) (k : Nat) : List StepD := (List.range 4).map fun j : Nat => some (4 * (k : Int) + (j : Int), ((blkS S k).drop (8 * j)).take 8)
def stepsS (S : StS) (a b : Int) : List StepD := (newL S).flatMap (blkSteps S) ++ [none] ++ [some ((S.gen + 1) % 2, headW (S.gen + 1) a b S.sp.nums.length)] ++ [none]
/-- is there something to commit -/
def idleS (S : StS) (a b a0 b0 : Int) : Bool := decide ((a, b) = (a0, b0)) && decide (markD S.dk 16 < S.gen)
def comS (S : StS) (a b a0 b0 : Int) : List StepD := if idleS S a b a0 b0 = true then [] else stepsS S a b
theorem sub_len : ∀ {l m : List Int}, l.Nodup → (∀ z ∈ l, z ∈ m) → l.length ≤ m.length
  | [], _, _, _ => Nat.zero_le _
  | a :: l, m, nd, h => by
    obtain ⟨n1, n2⟩ := List.nodup_cons.mp nd
    have ha := h a (List.mem_cons_self ..)
    have z := sub_len (l := l) (m := m.erase a) n2 fun z hz => (List.mem_erase_of_ne (fun e => n1 (by rw [← e]; exact hz))).mpr (h z (List.mem_cons_of_mem _ hz))
    rw [List.length_erase_of_mem ha] at z
    have := List.length_pos_of_mem ha
    rw [List.length_cons]
    omega
theorem newL_len {C : Ex} {H : Hp} {A : SA} {S : StS} (x : StAt C H A S) (ok : StOk S) : (newL S).length ≤ S.kvs.length := by
  obtain ⟨ks, ek, nd⟩ := int_keys x.mr
  have hl : S.kvs.length = ks.length := by
    have z := congrArg List.length ek
    rw [List.length_map, List.length_map] at z
    exact z
  rw [hl]
  have nd2 : ((newL S).map fun i : Nat => (i : Int)).Nodup := (List.pairwise_map.mpr ((filt_sorted _ _).imp fun h => by omega))
  have sub : ∀ z ∈ (newL S).map (fun i : Nat => (i : Int)), z ∈ ks := fun z hz => by
    obtain ⟨i, hi, rfl⟩ := List.mem_map.mp hz
    exact (mem_keys x.mr ek _).mpr (List.mem_filter.mp hi).2
  have this := sub_len nd2 sub
  rw [List.length_map] at this
  exact this
theorem newL_mem {S : StS} (ok : StOk S) {k : Nat} (h : k ∈ newL S) : 5 ≤ k ∧ k < S.sp.nums.length := by
  obtain ⟨h1, h2⟩ := List.mem_filter.mp h
  refine ⟨?_, List.mem_range.mp h1⟩
  rcases Nat.lt_or_ge k 5 with q | q
  · rw [ok.neg k (by omega)] at h2; cases h2
  · exact q
theorem blkS_len {C : Ex} {H : Hp} {A : SA} {S : StS} (x : StAt C H A S) (dk : Dsk S) {k : Nat} (h : k < S.sp.nums.length) : (blkS S k).length = 32 := by
  unfold blkS
  rcases x.mr.v k with ⟨_, b⟩ | ⟨p, ws, _, b, _, bw, _⟩
  · rw [b]
    exact rdB4_len dk (by omega) (by omega) 4 (Nat.le_refl 4)
  · rw [b]
    exact bw.1
theorem blkS_nn {C : Ex} {H : Hp} {A : SA} {S : StS} (x : StAt C H A S) {k : Nat} {ws : List Int} (h : S.cont k = some ws) : Blk ws := by
  rcases x.mr.v k with ⟨_, b⟩ | ⟨p, ws', _, b, _, bw, _⟩
  · rw [h] at b; cases b
  · rw [h] at b; cases b; exact bw
theorem cutV_mid {ws : List Int} {i j : Nat} (h : i ≤ j) (hj : j ≤ ws.length) : cutV (ws.map V.int) (some (i : Int)) (some (j : Int)) = ((ws.drop i).take (j - i)).map V.int := by
  rw [cut_mid _ _ _ h (by rw [List.length_map]; exact hj), List.map_take, List.map_drop]
theorem flat_len (S : StS) : ∀ l : List Nat, (l.flatMap (blkSteps S)).length = 4 * l.length
  | [] => rfl
  | k :: l => by
    rw [List.flatMap_cons, List.length_append, flat_len S l, List.length_cons]
    show ((List.range 4).map _).length + _ = _
    rw [List.length_map, List.length_range]
    omega
theorem take_flat {S : StS} {l : List Nat} {i k : Nat} (h : l[i]? = some k) : (l.take (i + 1)).flatMap (blkSteps S) = (l.take i).flatMap (blkSteps S) ++ blkSteps S k := by
  rw [take_snoc h, List.flatMap_append, List.flatMap_cons, List.flatMap_nil, List.append_nil]
/-- the table of the store and of its head -/
structure TabsAt (H : Hp) (S : StS) (t1 t2 : Addr) (a b a0 b0 : Int) : Prop where
  e1 : S.tab = .ref t1
  h1 : H t1 = some (.tup [.int a, .int b])
  e2 : S.ht = .ref t2
  h2 : H t2 = some (.tup [.int a0, .int b0])
theorem TabsAt.same {H H' : Hp} {S : StS} {t1 t2 : Addr} {a b a0 b0 : Int} (x : TabsAt H S t1 t2 a b a0 b0) (s : Same H H') : TabsAt H' S t1 t2 a b a0 b0 := ⟨x.e1, s _ _ x.h1, x.e2, s _ _ x.h2⟩
/-- a store whose disk has no power -/
def OffAt (C : Ex) (H : Hp) (x : V) : Prop := ∃ dx A tab res D, x = .ref A.st ∧ H A.st = some (stO C dx A tab res) ∧ DiskAt C H A.d A.a A.w A.n D ∧ DiskOk D ∧ Rd8 D ∧ D.pw = false
def sp_commit_steps (K : PySem.W.Frag) (C : Ex) : Sp := S1 fun x H Q E => (OffAt C H x ∧ E (.ref C.PowerOff) none H) ∨ ∃ A S t1 t2 a b a0 b0, x = .ref A.st ∧ StAt C H A S ∧ StOk S ∧ Dsk S ∧ S.kvs.length < 64 ∧ TabsAt H S t1 t2 a b a0 b0 ∧
  ∀ l H' vs, Same H H' → H l = none → H' l = some (.lst vs) → StepsAt H' vs (comS S a b a0 b0) → Q (.ref l) H'
def t_commit_steps (K : PySem.W.Frag) (C : Ex) (E : XK) : TS :=
  tSeq (tAsg (uCall (sp_log_mark K C) (WB E) (tCons (uFld C.Store "disk" (tVar 0)) (tNil))) (gName 1))
  (tSeq (tIfS (tAnd (tTest (tOp (uEq K) (uFld C.Store "table" (tVar 0)) (uFld C.Head "table" (uFld C.Store "head" (tVar 0))))) (tTest (tOp (uLt K) (tVar 1) (uFld C.Head "generation" (uFld C.Store "head" (tVar 0)))))) (tRet (tLst (tNil))) (tNext))
  (tSeq (tAsg (tLst (tNil)) (gName 2))
  (tSeq (tFor (iList K (uMeth C.Store "new_blocks" (sp_Store_new_blocks K C) (WB E) (tVar 0) (tNil))) (gName 3)
  (tSeq (tAsg (uMeth C.Store "read" (sp_Store_read K C) (WB E) (tVar 0) (tCons (tTup (tCons (tVar 3) (tCons (uMeth C.Store "generation" (sp_Store_generation K C) (WB E) (tVar 0) (tNil)) (tNil)))) (tNil))) (gName 4))
  (tFor (iRng1 (tCons (tC (.int 4)) (tNil))) (gName 5)
  (tSeq (tAsg (tOp (uMul) (tVar 5) (tC (.int 8))) (gName 6))
  (tDrop (tBM K "list" (rAppend) (tVar 2) (tCons (tTup (tCons (tC (.str "write")) (tCons (tOp (uAdd K) (tOp (uMul) (tC (.int 4)) (tVar 3)) (tVar 5)) (tCons (tSl (uSl K) (tVar 4) (tPart (tVar 6)) (tPart (tOp (uAdd K) (tVar 6) (tC (.int 8))))) (tNil))))) (tNil))))))))
  (tSeq (tDrop (tBM K "list" (rAppend) (tVar 2) (tCons (tTup (tCons (tC (.str "flush")) (tNil))) (tNil))))
  (tSeq (tAsg (uCall (sp_next_head K C) (WB E) (tCons (tVar 0) (tNil))) (gName 7))
  (tSeq (tDrop (tBM K "list" (rAppend) (tVar 2) (tCons (tTup (tCons (tC (.str "write")) (tCons (uCall (sp_place K C) (WB E) (tCons (uFld C.Head "generation" (tVar 7)) (tNil))) (tCons (uMeth C.Head "sector" (sp_Head_sector K C) (WB E) (tVar 7) (tNil)) (tNil))))) (tNil))))
  (tSeq (tDrop (tBM K "list" (rAppend) (tVar 2) (tCons (tTup (tCons (tC (.str "flush")) (tNil))) (tNil))))
  (tRet (tVar 2)))))))))
theorem pure_commit_steps {K : PySem.W.Frag} {C : Ex} {vs : List V} {H : Hp} {Q : VK} {E : XK} (F : Fa K C) (h : sp_commit_steps K C vs H Q E) : t_commit_steps K C E { nx := fun _ H' => Q .non H', rt := Q } (start ["store", "mark", "steps", "number", "words", "part", "start", "head"] vs) H := by
  obtain ⟨x, rfl, ⟨⟨dx, A, tab, res, D, rfl, i, hD, ok, r8, pw⟩, k⟩ | ⟨A, S, t1, t2, a, b, a0, b0, rfl, hS, ok, dk, kl, tb, k⟩⟩ := h
  · unfold stO at i
    unfold t_commit_steps
    walk_at "run1"
    exact w_S1 ⟨A.d, A.a, A.w, A.n, D, rfl, hD, ok, r8, fun _ => k, fun q => (by rw [pw] at q; cases q)⟩
  have hD := hS.dk
  obtain ⟨dx, i⟩ := hS.ins
  unfold stO at i
  unfold t_commit_steps
  walk_at "run1"
  refine w_log_mark hS.dk dk.ok dk.r8 dk.pw fun H1 s1 => ?_
  have hS1 := hS.same s1
  have i1 := s1 _ _ i
  have tb1 := tb.same s1
  obtain ⟨dh, ih⟩ := hS1.hd
  unfold hdO at ih
  rw [tb.e1] at i1
  rw [tb.e2] at ih
  walk_at "run1"
  refine w_eqD (Dt.pair (SqT.of tb1.h1) Dt.int Dt.int) (Dt.pair (SqT.of tb1.h2) Dt.int Dt.int) (by decide) ⟨_, rfl⟩ ?_
  walk_at "run1"
  · rename_i h1 h2 l hl
    refine k l _ [] (s1.trans (same_new hl)) (s1.free hl) upd_same ?_
    unfold comS idleS
    rw [decide_eq_true h1, decide_eq_true h2, Bool.and_self, if_pos rfl]
    exact .nil
  all_goals
    have hid : idleS S a b a0 b0 = false := by
      unfold idleS
      first
      | (rename_i h1 h2; rw [decide_eq_false h2, Bool.and_false])
      | (rename_i h; rw [decide_eq_false h, Bool.false_and])
    have k : ∀ (l : Addr) (H' : Hp) (vs : List V), Same H H' → H l = none → H' l = some (.lst vs) → StepsAt H' vs (stepsS S a b) → Q (.ref l) H' := fun l H' vs x y z w => k l H' vs x y z (by unfold comS; rw [hid]; exact w)
    walk_at "run1"
    rename_i l hl
    have sl := same_new (o := .lst []) hl
    have el : upd H1 l (.lst []) l = some (.lst []) := upd_same
    have hS2 := hS1.same sl
    have hl0 := s1.free hl
    have s12 := s1.trans sl
    generalize upd H1 l _ = H2 at *
    have i2 := sl _ _ i1
    walk_at "run1"
    refine w_S1 ⟨A, S, rfl, hS2, ok, kl, fun q H3 s3 hq e3 => ?_⟩
    have eL : (((List.range S.sp.nums.length).filter fun i => (S.cont (i : Nat)).isSome).map fun i => V.int (i : Nat)) = (newL S).map fun i => V.int (i : Nat) := rfl
    rw [eL] at e3
    have nl := newL_len hS ok
    walk_at "run1"
    have l64 : (newL S).length < 64 := by omega
    have s13 := s12.trans s3
    have el3 := s3 _ _ el
    refine f_list (xs := (newL S).map fun i => V.int (i : Nat)) (fun i σ H' => Same H H' ∧ ∃ v3 v4 v5 v6 vs, σ = [some (.ref A.st), some (.int (markD S.dk 16)), some (.ref l), v3, v4, v5, v6, none] ∧ H' l = some (.lst vs) ∧ StepsAt H' vs (((newL S).take i).flatMap (blkSteps S)) ∧ H' q = some (.lst ((newL S).map fun i => V.int (i : Nat))))
      ⟨s13, none, none, none, none, [], rfl, el3, .nil, e3⟩ (by rintro i σ H' _ ⟨_, _, _, _, _, _, _, _, _, h⟩; exact SqL.of h) ?_ ?_
    · clear i1 i2 ih tb1 s1 hS1 sl el s12 hS2 e3 s3 hq s13 el3 hl
      rintro n x σ H' hx ⟨s', v3, v4, v5, v6, vs, rfl, h2, hst, hq'⟩
      rw [List.getElem?_map] at hx
      obtain ⟨kk, hk, rfl⟩ := Option.map_eq_some_iff.mp hx
      have hm := newL_mem ok (List.mem_of_getElem? hk)
      have hn : n < (newL S).length := (List.getElem?_eq_some_iff.mp hk).1
      have hS' := hS.same s'
      obtain ⟨dx', i'⟩ := hS'.ins
      unfold stO at i'
      walk_at "run1"
      refine w_S1 ⟨A, S, rfl, hS', ?_⟩
      walk_at "run1"
      rename_i t ht
      have st := same_new (o := .tup [.int (kk : Nat), .int (S.gen + 1)]) ht
      refine w_S2 ⟨A, S, (kk : Nat), rfl, ⟨t, _, rfl, SqT.of upd_same⟩, hS'.same st, ok, dk, fun h => absurd h (by omega), fun _ _ lw H4 s4 hlw e4 => ?_⟩
      have s5 := st.trans s4
      have h24 := s5 _ _ h2
      have hst4 := hst.same s5
      have hq4 := s5 _ _ hq'
      have s14 := s'.trans s5
      clear i' hS' h2 hst hq' st s4 s5 ht hlw s'
      have bl := blkS_len hS dk hm.2
      have fl := flat_len S ((newL S).take n)
      rw [List.length_take, Nat.min_eq_left (by omega)] at fl
      walk_at "run1"
      refine f_range (fun j σ H' => Same H H' ∧ ∃ v5 v6 vs, σ = [some (.ref A.st), some (.int (markD S.dk 16)), some (.ref l), some (.int (kk : Nat)), some (.ref lw), v5, v6, none] ∧ H' l = some (.lst vs) ∧ StepsAt H' vs (((newL S).take n).flatMap (blkSteps S) ++ (blkSteps S kk).take j) ∧ H' q = some (.lst ((newL S).map fun i => V.int (i : Nat))) ∧ H' lw = some (.lst ((blkS S kk).map V.int)))
        ⟨s14, v5, v6, vs, rfl, h24, by rw [List.take_zero, List.append_nil]; exact hst4, hq4, e4⟩ ?_ ?_
      · clear h24 hst4 hq4 s14 e4
        rintro j σ H' hj ⟨s', v5, v6, vs, rfl, h2, hst, hq', hw⟩
        have hj : j < 4 := hj
        have lv := hst.1
        rw [List.length_append, fl, List.length_take] at lv
        have lb : (blkSteps S kk).length = 4 := by unfold blkSteps; rw [List.length_map, List.length_range]
        walk_at "run1"
        refine w_slL (SqL.of hw) fun r hr => ?_
        rw [show (0 + (j : Int)) * 8 = ((8 * j : Nat) : Int) by omega, show ((8 * j : Nat) : Int) + 8 = ((8 * j + 8 : Nat) : Int) by omega, cutV_mid (by omega) (by rw [bl]; omega), show 8 * j + 8 - 8 * j = 8 by omega]
        walk_at "run1"
        rename_i t ht
        have sx := same_updN (o := .tup [.str "write", .int (4 * (kk : Int) + (0 + (j : Int))), .ref r]) (same_new (o := .lst ((((blkS S kk).drop (8 * j)).take 8).map V.int)) hr) ht
        have y : StepAt (upd (upd H' r (.lst ((((blkS S kk).drop (8 * j)).take 8).map V.int))) t (.tup [.str "write", .int (4 * (kk : Int) + (0 + (j : Int))), .ref r])) (.ref t) (some (4 * (kk : Int) + (j : Int), ((blkS S kk).drop (8 * j)).take 8)) :=
          ⟨t, r, rfl, by rw [upd_same, Int.zero_add], RowAt.of (by rw [List.length_take, List.length_drop, bl]; omega) (upd_old upd_same ht)⟩
        generalize upd (upd H' r _) t _ = H5 at *
        have h25 := sx _ _ h2
        refine w_app h25 (lt_line (by omega)) ?_
        have ne : l ≠ q := fun e => by
          rw [← e, h2] at hq'
          have z := HO.lst.inj (Option.some.inj hq')
          have z2 := hst.ref
          rw [z] at z2
          obtain ⟨p, e⟩ := z2 (.int (kk : Nat)) (List.mem_of_getElem? (by rw [List.getElem?_map, hk]; rfl))
          cases e
        have nw : l ≠ lw := fun e => by
          rw [← e, h2] at hw
          have z := HO.lst.inj (Option.some.inj hw)
          have z2 := hst.ref
          rw [z] at z2
          cases hb : blkS S kk with
          | nil => rw [hb] at bl; cases bl
          | cons z zs =>
            rw [hb] at z2
            obtain ⟨p, e⟩ := z2 (.int z) (List.mem_cons_self ..)
            cases e
        refine ⟨same_upd (s'.trans sx) hl0, _, _, _, rfl, upd_same, ?_, upd_oth (sx _ _ hq') ne.symm, upd_oth (sx _ _ hw) nw.symm⟩
        have eb : (blkSteps S kk)[j]? = some (some (4 * (kk : Int) + (j : Int), ((blkS S kk).drop (8 * j)).take 8)) := by
          unfold blkSteps
          rw [List.getElem?_map, List.getElem?_range hj]
          rfl
        rw [take_snoc eb, ← List.append_assoc]
        exact hst.app sx h25 y
      · rintro σ H' ⟨s', v5, v6, vs, rfl, h2, hst, hq', hw⟩
        refine ⟨s', _, _, _, _, vs, rfl, h2, ?_, hq'⟩
        rw [take_flat hk]
        exact hst
    · rintro σ H' ⟨s', v3, v4, v5, v6, vs, rfl, h2, hst, _⟩
      rw [List.length_map, List.take_length] at hst
      have fl := flat_len S (newL S)
      have lv := hst.1
      walk_at "run1"
      rename_i t ht
      have sx := same_new (o := .tup [.str "flush"]) ht
      have y : StepAt (upd H' t (.tup [.str "flush"])) (.ref t) none := ⟨t, rfl, upd_same⟩
      generalize upd H' t _ = H5 at *
      refine w_app (sx _ _ h2) (lt_line (by omega)) ?_
      have hst := hst.app sx (sx _ _ h2) y
      have e6 : upd H5 l (.lst (vs ++ [.ref t])) l = some (.lst (vs ++ [.ref t])) := upd_same
      have s6 := same_upd (o := .lst (vs ++ [.ref t])) (s'.trans sx) hl0
      generalize upd H5 l _ = H6 at *
      have lv : (vs ++ [V.ref t]).length < 1000 := by rw [List.length_append, lv, fl, List.length_singleton]; omega
      generalize vs ++ [V.ref t] = vs at *
      clear y sx ht h2 s'
      have hS6 := hS.same s6
      obtain ⟨dx6, i6⟩ := hS6.ins
      unfold stO at i6
      walk_at "run1"
      refine w_S1 ⟨A, S, rfl, hS6, fun hp dp H7 s7 hhp e7 => ?_⟩
      have s67 := s6.trans s7
      have tb7 := tb.same s67
      rw [tb7.e1] at e7
      have e7' := e7
      unfold hdO at e7'
      have h27 := s7 _ _ e6
      have hst7 := hst.same s7
      clear hst i6 hS6
      walk_at "run1"
      refine w_S1 ⟨S.gen + 1, rfl, ?_⟩
      walk_at "run1"
      refine w_S1 ⟨hp, dp, t1, S.gen + 1, a, b, S.sp.nums.length, rfl, e7, SqT.of tb7.h1, fun r hr => ?_⟩
      walk_at "run1"
      rename_i t ht
      have sx := same_updN (o := .tup [.str "write", .int ((S.gen + 1) % 2), .ref r]) (same_new (o := .lst ((headW (S.gen + 1) a b S.sp.nums.length).map V.int)) hr) ht
      have y : StepAt (upd (upd H7 r (.lst ((headW (S.gen + 1) a b S.sp.nums.length).map V.int))) t (.tup [.str "write", .int ((S.gen + 1) % 2), .ref r])) (.ref t) (some ((S.gen + 1) % 2, headW (S.gen + 1) a b S.sp.nums.length)) :=
        ⟨t, r, rfl, upd_same, RowAt.of rfl (upd_old upd_same ht)⟩
      generalize upd (upd H7 r _) t _ = H8 at *
      have h28 := sx _ _ h27
      refine w_app h28 (lt_line (by omega)) ?_
      have hst := hst7.app sx h28 y
      have e9 : upd H8 l (.lst (vs ++ [.ref t])) l = some (.lst (vs ++ [.ref t])) := upd_same
      have s9 := same_upd (o := .lst (vs ++ [.ref t])) (s67.trans sx) hl0
      generalize upd H8 l _ = H9 at *
      clear h28 sx y hst7 h27 e7 e7' tb7 ht hr
      have lv : (vs ++ [V.ref t]).length < 2000 := by rw [List.length_append, List.length_singleton]; omega
      generalize vs ++ [V.ref t] = vs at *
      walk_at "run1"
      rename_i t ht
      have sx := same_new (o := .tup [.str "flush"]) ht
      have y : StepAt (upd H9 t (.tup [.str "flush"])) (.ref t) none := ⟨t, rfl, upd_same⟩
      generalize upd H9 t _ = H10 at *
      have e10 := sx _ _ e9
      refine w_app e10 (lt_line (by omega)) ?_
      have hst := hst.app sx e10 y
      walk_at "run1"
      exact k l _ _ (same_upd (s9.trans sx) hl0) hl0 upd_same hst
/-- the disk of a store has changed -/
theorem StAt.setDk {C : Ex} {H H' : Hp} {A : SA} {S : StS} {D : DiskS} {w' n' : Addr} (x : StAt C H A S) (hD : DiskAt C H' A.d A.a w' n' D) (st : Stp (dkF A.d A.a A.w A.n) H (dkF A.d A.a w' n') H') :
    StAt C H' { A with w := w', n := n' } { S with dk := D } ∧ Stp (stF A S) H (stF { A with w := w', n := n' } { S with dk := D }) H' := by
  obtain ⟨⟨dx, x1⟩, x2, ⟨dh, x3⟩, x4, ⟨⟨ds, z1⟩, z2, z3, zn⟩, nd, mr⟩ := x
  have sub : ∀ b ∈ dkF A.d A.a A.w A.n, b ∈ A.all := fun b hb => by
    simp only [dkF, List.mem_cons, List.not_mem_nil, or_false] at hb
    rcases hb with rfl | rfl | rfl | rfl <;> simp [SA.all]
  have nd' := nd
  simp only [SA.all, List.nodup_cons, List.mem_cons, List.not_mem_nil, or_false, not_or] at nd'
  have out : ∀ b, (b = A.st ∨ b = A.m ∨ b = A.hd ∨ b = A.s ∨ b = A.sa ∨ b = A.sb) → b ∉ dkF A.d A.a A.w A.n := fun b hb => by
    simp only [dkF, List.mem_cons, List.not_mem_nil, or_false, not_or]
    rcases hb with rfl | rfl | rfl | rfl | rfl | rfl <;> simp_all [eq_comm]
  have k1 := st.keep x1 (out _ (by simp))
  have k2 := st.keep x2 (out _ (by simp))
  have k3 := st.keep x3 (out _ (by simp))
  have k4 := st.keep z1 (out _ (by simp))
  have k5 := st.keep z2 (out _ (by simp))
  have k6 := st.keep z3 (out _ (by simp))
  have dn : A.d ≠ A.a ∧ A.d ≠ w' ∧ A.d ≠ n' ∧ A.a ≠ w' ∧ A.a ≠ n' ∧ w' ≠ n' := by
    obtain ⟨⟨_, y1⟩, ⟨_, y2, _⟩, ⟨_, y3, _⟩, ⟨_, y4, _⟩, ne⟩ := hD
    exact ⟨ne_of y1 y2 (fun z => nomatch z), ne_of y1 y3 (fun z => nomatch z), ne_of y1 y4 (fun z => nomatch z), ne, ne_of y2 y4 (fun z => nomatch z), ne_of y3 y4 (fun z => nomatch z)⟩
  have stA : Stp A.all H ({ A with w := w', n := n' } : SA).all H' := ⟨fun b o h n => st.1 b o h fun q => n (sub b q), fun b hb => by
    have hw := st.2 w' (by simp [dkF])
    have hn := st.2 n' (by simp [dkF])
    simp only [SA.all, List.mem_cons, List.not_mem_nil, or_false] at hb
    rcases hb with rfl | rfl | rfl | rfl | rfl | rfl | rfl | rfl | rfl | rfl
    · exact .inl (by simp [SA.all])
    · exact .inl (by simp [SA.all])
    · exact .inl (by simp [SA.all])
    · exact .inl (by simp [SA.all])
    · exact .inl (by simp [SA.all])
    · exact hw.imp (sub _) id
    · exact hn.imp (sub _) id
    · exact .inl (by simp [SA.all])
    · exact .inl (by simp [SA.all])
    · exact .inl (by simp [SA.all])⟩
  have mr' := mr.stp stA
  have f1 := k1.2
  have f2 := k2.2
  have f3 := k3.2
  have f4 := k4.2
  have f5 := k5.2
  have f6 := k6.2
  simp only [dkF, List.mem_cons, List.not_mem_nil, or_false, not_or] at f1 f2 f3 f4 f5 f6
  refine ⟨⟨⟨dx, k1.1⟩, k2.1, ⟨dh, k3.1⟩, hD, ⟨⟨ds, k4.1⟩, k5.1, k6.1, zn⟩, ?_, mr'⟩, ⟨fun b o h n => st.1 b o h fun q => n (List.mem_append_left _ (sub b q)), fun b hb => ?_⟩⟩
  · simp only [SA.all, List.nodup_cons, List.mem_cons, List.not_mem_nil, or_false, not_or]
    simp_all [eq_comm]
  · rcases List.mem_append.mp hb with q | q
    · exact (stA.2 b q).imp (List.mem_append_left _) id
    · exact .inl (List.mem_append_right _ q)
/-- the head of a store is another one -/
theorem StAt.setHd {C : Ex} {H : Hp} {A : SA} {S : StS} {p dx dh : Addr} {g : Int} {ht hb : V} (x : StAt C H A S) (e : H p = some (hdO C dh (.int g) ht hb)) (n : p ∉ stF A S) :
    StAt C (upd H A.st (stO C dx { A with hd := p } S.tab S.res)) { A with hd := p } { S with gen := g, ht := ht, hb := hb } := by
  have x0 := x
  obtain ⟨⟨dx0, x1⟩, x2, ⟨dh0, x3⟩, x4, x5, nd, mr⟩ := x
  have nd' := nd
  simp only [SA.all, List.nodup_cons, List.mem_cons, List.not_mem_nil, or_false, not_or] at nd'
  have n1 : p ∉ A.all := fun q => n (List.mem_append_left _ q)
  simp only [SA.all, List.mem_cons, List.not_mem_nil, or_false, not_or] at n1
  have fr : ∀ b o', H b = some o' → b ∉ [A.st] → upd H A.st (stO C dx { A with hd := p } S.tab S.res) b = some o' := fun b o' e q => upd_oth e fun z => q (by rw [z]; simp)
  refine ⟨⟨dx, upd_same⟩, upd_oth x2 (Ne.symm nd'.1.1), ⟨dh, upd_oth e n1.1⟩, x4.frame fr (fun b hb => ?_) (fun b hb => ?_), x5.oth (by simp only [spF, List.mem_cons, List.not_mem_nil, or_false, not_or]; simp_all), ?_, ?_⟩
  · rw [List.mem_singleton.mp hb]
    simp only [dkF, List.mem_cons, List.not_mem_nil, or_false, not_or]
    simp_all
  · rw [List.mem_singleton.mp hb]
    exact ⟨_, x1, plain_ins⟩
  · simp only [SA.all, List.nodup_cons, List.mem_cons, List.not_mem_nil, or_false, not_or]
    simp_all [eq_comm]
  · have mr2 : MemAt (upd H A.st (stO C dx { A with hd := p } S.tab S.res)) A.all S.kvs S.cont := mr.stp (Stp.refl.upd (by simp [SA.all]))
    refine ⟨mr2.ks, mr2.nd, fun k => ?_⟩
    rcases mr2.v k with y | ⟨q, ws, a, b, c, d, f⟩
    · exact .inl y
    · refine .inr ⟨q, ws, a, b, c, d, fun h => ?_⟩
      have nq : q ≠ p := fun z => n (List.mem_append_right _ (z ▸ memA_of a))
      simp only [SA.all, List.mem_cons, List.not_mem_nil, or_false, not_or] at f h
      simp_all
theorem StAt.newHd {C : Ex} {H H1 : Hp} {A : SA} {S : StS} {p dx dh : Addr} {g : Int} {ht hb : V} (x : StAt C H A S) (s : Same H H1) (n : H p = none) (e : H1 p = some (hdO C dh (.int g) ht hb)) :
    StAt C (upd H1 A.st (stO C dx { A with hd := p } S.tab S.res)) { A with hd := p } { S with gen := g, ht := ht, hb := hb } ∧ Stp (stF A S) H (stF { A with hd := p } { S with gen := g, ht := ht, hb := hb }) (upd H1 A.st (stO C dx { A with hd := p } S.tab S.res)) := by
  refine ⟨(x.same s).setHd e (x.fresh n), ⟨fun b o h q => upd_oth (s _ _ h) fun z => q (by rw [z]; exact List.mem_append_left _ (by simp [SA.all])), fun b hb => ?_⟩⟩
  rcases List.mem_append.mp hb with q | q
  · simp only [SA.all, List.mem_cons, List.not_mem_nil, or_false] at q
    rcases q with rfl | rfl | rfl | rfl | rfl | rfl | rfl | rfl | rfl | rfl
    all_goals first
      | exact .inr n
      | exact .inl (List.mem_append_left _ (by simp [SA.all]))
  · exact .inl (List.mem_append_right _ q)
/-- the space is settled: a new list of what is held -/
theorem StAt.setSpB {C : Ex} {H H' : Hp} {A : SA} {S : StS} {P : SpS} {b' : Addr} (x : StAt C H A S) (l : S.sp.nums.length ≠ 8) (h : SpAt C H' A.s A.sa b' P) (st : Stp (spF A.s A.sa A.sb) H (spF A.s A.sa b') H') :
    StAt C H' { A with sb := b' } { S with sp := P } ∧ Stp (stF A S) H (stF { A with sb := b' } { S with sp := P }) H' := by
  obtain ⟨⟨dx, x1⟩, x2, ⟨dh, x3⟩, x4, x5, nd, mr⟩ := x
  have sub : ∀ b ∈ spF A.s A.sa A.sb, b ∈ A.all := fun b hb => by
    simp only [spF, List.mem_cons, List.not_mem_nil, or_false] at hb
    rcases hb with rfl | rfl | rfl <;> simp [SA.all]
  have nd' := nd
  simp only [SA.all, List.nodup_cons, List.mem_cons, List.not_mem_nil, or_false, not_or] at nd'
  have out : ∀ b, (b = A.st ∨ b = A.m ∨ b = A.hd ∨ b = A.d ∨ b = A.a ∨ b = A.w ∨ b = A.n) → b ∉ spF A.s A.sa A.sb := fun b hb => by
    simp only [spF, List.mem_cons, List.not_mem_nil, or_false, not_or]
    rcases hb with rfl | rfl | rfl | rfl | rfl | rfl | rfl <;> simp_all [eq_comm]
  have k1 := st.keep x1 (out _ (by simp))
  have k2 := st.keep x2 (out _ (by simp))
  have k3 := st.keep x3 (out _ (by simp))
  have x40 := x4
  obtain ⟨⟨_, y1⟩, ⟨_, y2, _⟩, ⟨_, y3, _⟩, ⟨_, y4, _⟩, ne4⟩ := x40
  have k4 := st.keep y1 (out _ (by simp))
  have k5 := st.keep y2 (out _ (by simp))
  have k6 := st.keep y3 (out _ (by simp))
  have k7 := st.keep y4 (out _ (by simp))
  have hD : DiskAt C H' A.d A.a A.w A.n S.dk := x4.frame st.1 (fun b hb q => by
    have := out b (by
      simp only [dkF, List.mem_cons, List.not_mem_nil, or_false] at q
      rcases q with h | h | h | h <;> simp [h])
    exact this hb) fun b hb => by
    obtain ⟨⟨_, z1⟩, z2, z3, _⟩ := x5
    simp only [spF, List.mem_cons, List.not_mem_nil, or_false] at hb
    rcases hb with rfl | rfl | rfl
    · exact ⟨_, z1, plain_ins⟩
    · exact ⟨_, z2, plain_len l⟩
    · exact ⟨_, z3, plain_bl⟩
  have dn : A.s ≠ A.sa ∧ A.s ≠ b' ∧ A.sa ≠ b' := by
    obtain ⟨⟨_, z1⟩, z2, z3, zn⟩ := h
    exact ⟨ne_of z1 z2 (fun z => nomatch z), ne_of z1 z3 (fun z => nomatch z), zn⟩
  have hb2 := st.2 b' (by simp [spF])
  have stA : Stp A.all H ({ A with sb := b' } : SA).all H' := ⟨fun b o h n => st.1 b o h fun q => n (sub b q), fun b hb => by
    simp only [SA.all, List.mem_cons, List.not_mem_nil, or_false] at hb
    rcases hb with rfl | rfl | rfl | rfl | rfl | rfl | rfl | rfl | rfl | rfl
    all_goals first
      | exact hb2.imp (sub _) id
      | exact .inl (by simp [SA.all])⟩
  have mr' := mr.stp stA
  have f1 := k1.2
  have f2 := k2.2
  have f3 := k3.2
  have f4 := k4.2
  have f5 := k5.2
  have f6 := k6.2
  have f7 := k7.2
  simp only [spF, List.mem_cons, List.not_mem_nil, or_false, not_or] at f1 f2 f3 f4 f5 f6 f7
  refine ⟨⟨⟨dx, k1.1⟩, k2.1, ⟨dh, k3.1⟩, hD, h, ?_, mr'⟩, ⟨fun b o h n => st.1 b o h fun q => n (List.mem_append_left _ (sub b q)), fun b hb => ?_⟩⟩
  · simp only [SA.all, List.nodup_cons, List.mem_cons, List.not_mem_nil, or_false, not_or]
    simp_all [eq_comm]
  · rcases List.mem_append.mp hb with q | q
    · exact (stA.2 b q).imp (List.mem_append_left _) id
    · exact .inl (List.mem_append_right _ q)
/-- nothing is in memory any more -/
theorem StAt.clear {C : Ex} {H H1 : Hp} {A : SA} {S : StS} {p dx : Addr} (x : StAt C H A S) (s : Same H H1) (n : H p = none) (e : H1 p = some (.dK [])) :
    StAt C (upd H1 A.st (stO C dx { A with m := p } S.tab S.res)) { A with m := p } { S with kvs := [], cont := fun _ => none } ∧ Stp (stF A S) H (stF { A with m := p } { S with kvs := [], cont := fun _ => none }) (upd H1 A.st (stO C dx { A with m := p } S.tab S.res)) := by
  have nf := x.fresh n
  have x0 := x.same s
  obtain ⟨⟨dx0, x1⟩, x2, ⟨dh0, x3⟩, x4, x5, nd, mr⟩ := x0
  have nd' := nd
  simp only [SA.all, List.nodup_cons, List.mem_cons, List.not_mem_nil, or_false, not_or] at nd'
  have n1 : p ∉ A.all := fun q => nf (List.mem_append_left _ q)
  simp only [SA.all, List.mem_cons, List.not_mem_nil, or_false, not_or] at n1
  have fr : ∀ b o', H1 b = some o' → b ∉ [A.st] → upd H1 A.st (stO C dx { A with m := p } S.tab S.res) b = some o' := fun b o' e q => upd_oth e fun z => q (by rw [z]; simp)
  refine ⟨⟨⟨dx, upd_same⟩, upd_oth e n1.1, ⟨dh0, upd_oth x3 (Ne.symm nd'.1.2.1)⟩, x4.frame fr (fun b hb => ?_) (fun b hb => ?_), x5.oth (by simp only [spF, List.mem_cons, List.not_mem_nil, or_false, not_or]; simp_all), ?_, ⟨fun kv h => (by cases h), List.nodup_nil, fun k => .inl ⟨rfl, rfl⟩⟩⟩, ⟨fun b o h q => upd_oth (s _ _ h) fun z => q (by rw [z]; exact List.mem_append_left _ (by simp [SA.all])), fun b hb => ?_⟩⟩
  · rw [List.mem_singleton.mp hb]
    simp only [dkF, List.mem_cons, List.not_mem_nil, or_false, not_or]
    simp_all
  · rw [List.mem_singleton.mp hb]
    exact ⟨_, x1, plain_ins⟩
  · simp only [SA.all, List.nodup_cons, List.mem_cons, List.not_mem_nil, or_false, not_or]
    simp_all [eq_comm]
  · rcases List.mem_append.mp hb with q | q
    · simp only [SA.all, List.mem_cons, List.not_mem_nil, or_false] at q
      rcases q with rfl | rfl | rfl | rfl | rfl | rfl | rfl | rfl | rfl | rfl
      all_goals first
        | exact .inr n
        | exact .inl (List.mem_append_left _ (by simp [SA.all]))
    · cases q
/-- a step as data -/
structure StT where
  s : StepD
  deriving DecidableEq
instance : PySem.W.Datum StT where
  toD t := match t.s with
    | none => .tuple [.str "flush"]
    | some (s, r) => .tuple [.str "write", .int s, PySem.W.Datum.toD r]
  plain t := by
    obtain ⟨_ | ⟨s, r⟩⟩ := t
    · rfl
    · simp only [PyData.plain, PyData.plainAll, PySem.W.Datum.plain, Bool.and_self]
  eqv t u := by
    obtain ⟨_ | ⟨s, r⟩⟩ := t <;> obtain ⟨_ | ⟨s', r'⟩⟩ := u
    · simp [PyData.eqv, PyData.eqvAll]
    · simp [PyData.eqv, PyData.eqvAll]
    · simp [PyData.eqv, PyData.eqvAll]
    · simp only [PyData.eqv, PyData.eqvAll]
      rw [PySem.W.Datum.eqv]
      by_cases h1 : s = s' <;> by_cases h2 : r = r' <;> simp [h1, h2]
  depth := 2
  depth_le t := by
    obtain ⟨_ | ⟨s, r⟩⟩ := t
    · simp [PyData.depth, PyData.depthAll]
    · have z := PySem.W.Datum.depth_le r
      have e : PySem.W.Datum.depth (List Int) = 1 := rfl
      rw [e] at z
      simp only [PyData.depth, PyData.depthAll]
      omega
theorem StepAt.dt {K : PySem.W.Frag} {H : Hp} {v : V} : ∀ {s : StepD}, StepAt H v s → Dt K H v (StT.mk s)
  | none, ⟨t, e, h⟩ => by
    subst e
    exact Dp.tup (SqT.of h) (DpAll.cons (Dp.str _) DpAll.nil)
  | some (s, r), ⟨t, p, e, h, l8, q, e2, y⟩ => by
    subst e
    cases e2
    exact Dp.tup (SqT.of h) (DpAll.cons (Dp.str _) (DpAll.cons (Dp.int _) (DpAll.cons (Dt.list (SqL.of y) (DtAll.ints r)) DpAll.nil)))
theorem StepsAt.dt {K : PySem.W.Frag} {H : Hp} : ∀ {vs : List V} {ss : List StepD}, StepsAt H vs ss → DtAll K H vs (ss.map StT.mk)
  | [], [], _ => DtAll.nil
  | [], _ :: _, h => by cases h.1
  | _ :: _, [], h => by cases h.1
  | v :: vs, s :: ss, h => by
    obtain ⟨s', e, y⟩ := h.2 0 v rfl
    cases e
    exact DtAll.cons y.dt (StepsAt.dt ⟨by simpa using h.1, fun i w hw => h.2 (i + 1) w hw⟩)
def stepA : DiskS → StepD → DiskS
  | D, none => flushD D
  | D, some (s, r) => pushW D s r
def applyS (D : DiskS) (ss : List StepD) : DiskS := ss.foldl stepA D
def StepOk (n : Nat) : StepD → Prop
  | none => True
  | some (s, r) => 0 ≤ s ∧ s < n ∧ r.length = 8 ∧ ∀ z ∈ r, 0 ≤ z
theorem applyS_snoc (D : DiskS) (ss : List StepD) (s : StepD) : applyS D (ss ++ [s]) = stepA (applyS D ss) s := by
  unfold applyS
  rw [List.foldl_append]
  rfl
theorem stepA_len (D : DiskS) : ∀ s, (stepA D s).secs.length = D.secs.length
  | none => flushS_len _ _
  | some (_, _) => rfl
theorem applyS_len : ∀ (ss : List StepD) (D : DiskS), (applyS D ss).secs.length = D.secs.length
  | [], _ => rfl
  | s :: ss, D => (applyS_len ss (stepA D s)).trans (stepA_len D s)
theorem DskOn.mono {D : DiskS} {b : Int} {m m' : Nat} (o : DskOn D b m) (h : m ≤ m') : DskOn D b m' := ⟨o.ok, o.lf, o.pw, o.bl, o.r8, Nat.le_trans o.wl h⟩
theorem stepA_on {D : DiskS} {b : Int} {m : Nat} (o : DskOn D b m) (hm : m < 100000) : ∀ {s : StepD}, StepOk D.secs.length s → DskOn (stepA D s) b (m + 1)
  | none, _ => o.flush.mono (Nat.zero_le _)
  | some (_, _), ⟨h0, h1, l, _⟩ => o.push hm h0 h1 l
theorem applyS_on : ∀ (ss : List StepD) {D : DiskS} {b : Int} {m : Nat}, DskOn D b m → (∀ s ∈ ss, StepOk D.secs.length s) → m + ss.length < 100000 → DskOn (applyS D ss) b (m + ss.length)
  | [], _, _, _, o, _, _ => o
  | s :: ss, D, b, m, o, h, hm => by
    rw [List.length_cons] at hm
    have z := applyS_on ss (stepA_on o (by omega) (h s (List.mem_cons_self ..))) (fun t ht => by rw [stepA_len]; exact h t (List.mem_cons_of_mem _ ht)) (by omega)
    rw [List.length_cons, show m + (ss.length + 1) = m + 1 + ss.length by omega]
    exact z
theorem stepsS_ok {C : Ex} {H : Hp} {A : SA} {S : StS} {a b : Int} (x : StAt C H A S) (ok : StOk S) (dk : Dsk S) (ha : 0 ≤ a) (hb : 0 ≤ b) (hg : 0 ≤ S.gen) : ∀ s ∈ stepsS S a b, StepOk S.dk.secs.length s := by
  have sz := dk.ok.sz
  have bl := dk.bl
  have z96 := ok.sz
  intro s hs
  unfold stepsS at hs
  simp only [List.mem_append, List.mem_singleton] at hs
  rcases hs with ((hs | rfl) | rfl) | rfl
  · obtain ⟨k, hk, hs⟩ := List.mem_flatMap.mp hs
    have hm := newL_mem ok hk
    have hc := (List.mem_filter.mp hk).2
    obtain ⟨ws, hw⟩ := Option.isSome_iff_exists.mp hc
    have bw := blkS_nn x hw
    have eb : blkS S k = ws := by unfold blkS; rw [hw]; rfl
    unfold blkSteps at hs
    obtain ⟨j, hj, rfl⟩ := List.mem_map.mp hs
    have hj := List.mem_range.mp hj
    rw [eb]
    refine ⟨by omega, by omega, by rw [List.length_take, List.length_drop, bw.1]; omega, fun z hz => bw.2 z (List.mem_of_mem_drop (List.mem_of_mem_take hz))⟩
  · trivial
  · refine ⟨by omega, by omega, rfl, fun z hz => ?_⟩
    unfold headW at hz
    simp only [List.mem_cons, List.not_mem_nil, or_false] at hz
    omega
  · trivial
theorem stepsS_len (S : StS) (a b : Int) : (stepsS S a b).length = 4 * (newL S).length + 3 := by
  unfold stepsS
  rw [List.length_append, List.length_append, List.length_append, flat_len]
  rfl
def comSt (S : StS) (a b : Int) : StS := { sp := ⟨S.sp.nums, posL S.sp.nums, 0⟩, dk := applyS S.dk (stepsS S a b), kvs := [], cont := fun _ => none, gen := S.gen + 1, ht := S.tab, hb := .int S.sp.nums.length, tab := S.tab, res := S.res }
def lefD (D : DiskS) (l : Option Int) (p : Bool) : DiskS := { D with left := l, pw := p }
theorem stepA_lef {D : DiskS} {l : Option Int} {p : Bool} : ∀ s, stepA (lefD D l p) s = lefD (stepA D s) l p
  | none => rfl
  | some (_, _) => rfl
theorem applyS_lef : ∀ (ss : List StepD) {D : DiskS} {l : Option Int} {p : Bool}, applyS (lefD D l p) ss = lefD (applyS D ss) l p
  | [], _, _, _ => rfl
  | s :: ss, D, l, p => by
    show applyS (stepA (lefD D l p) s) ss = lefD (applyS (stepA D s) ss) l p
    rw [stepA_lef, applyS_lef ss]
theorem lef_self {D : DiskS} {l : Option Int} {p : Bool} (h1 : D.left = l) (h2 : D.pw = p) : lefD D l p = D := by
  subst h1 h2
  rfl
/-- the disk when the power fails ahead of step c -/
def fallD (D : DiskS) (ss : List StepD) (c : Nat) : DiskS := lefD (applyS D (ss.take c)) (some 0) false
structure DskF (D : DiskS) (b : Int) (c : Nat) : Prop where
  on : DskOn (lefD D none true) b 0
  lf : D.left = some ((c : Nat) : Int)
  pw : D.pw = true
theorem opS_zero {D : DiskS} (h1 : D.left = some 0) : opS D = lefD D (some 0) false := by
  have a : opA D = { D with pw := false } := by unfold opA; rw [if_pos h1]
  unfold opS
  rw [a]
  unfold opB
  rw [if_neg (by exact Bool.false_ne_true)]
  unfold lefD
  rw [← h1]
theorem opS_succ {D : DiskS} {k : Nat} (h1 : D.left = some (((k + 1 : Nat)) : Int)) (h2 : D.pw = true) : opS D = lefD D (some ((k : Nat) : Int)) true := by
  have a : opA D = D := by unfold opA; rw [if_neg (by rw [h1]; intro e; have := Option.some.inj e; omega)]
  unfold opS
  rw [a]
  unfold opB
  rw [if_pos h2, h1]
  unfold lefD
  rw [← h2]
  show { D with left := some ((((k + 1 : Nat)) : Int) - 1) } = { D with left := some ((k : Nat) : Int), pw := D.pw }
  rw [show (((k + 1 : Nat)) : Int) - 1 = ((k : Nat) : Int) by omega]
theorem ok_lef {D : DiskS} {l : Option Int} {p : Bool} (h : DiskOk (lefD D l p)) : DiskOk D := ⟨h.bl, h.sz, h.wk, h.wn⟩
theorem w_writeF {K : PySem.W.Frag} {C : Ex} {H : Hp} {Q : VK} {E : XK} {d a w n : Addr} {D : DiskS} {b : Int} {m k : Nat} {s : Int} {q : Addr} {r : List Int} (x : DiskAt C H d a w n D) (o : DskOn (lefD D none true) b m) (lf : D.left = some ((k : Nat) : Int)) (pw : D.pw = true) (hm : m < 100000) (h0 : 0 ≤ s) (h1 : s < D.secs.length)
    (hq : SqL K H q (r.map V.int)) (h8 : r.length = 8) (hr : ∀ z ∈ r, 0 ≤ z) (ke : k = 0 → ∀ H', DiskAt C H' d a w n (lefD D (some 0) false) → Stp (dkF d a w n) H (dkF d a w n) H' → E (.ref C.PowerOff) none H')
    (kk : ∀ j, k = j + 1 → ∀ H', DiskAt C H' d a w n (pushW (lefD D (some ((j : Nat) : Int)) true) s r) → Stp (dkF d a w n) H (dkF d a w n) H' → Q .non H') : sp_Disk_write K C [.ref d, .int s, .ref q] H Q E := by
  have ok := ok_lef o.ok
  refine w_S3 ⟨d, a, w, n, D, rfl, x, ok, by have := o.wl; exact Nat.lt_of_le_of_lt this hm, trivial, .inl ⟨q, _, rfl, hq, fun y hy => ?_, fun z => ?_, fun t e _ _ r2 er _ _ => ?_⟩⟩
  · obtain ⟨i, _, rfl⟩ := List.mem_map.mp hy
    trivial
  · exfalso
    rcases z with z | z
    · rw [btw_int h0 (by omega)] at z; cases z
    · have : (r.map V.int).all isWord = true := List.all_eq_true.mpr fun y hy => by
        obtain ⟨i, hi, rfl⟩ := List.mem_map.mp hy
        exact decide_eq_true (hr i hi)
      rw [this, decide_eq_true (by rw [List.length_map]; omega)] at z
      cases z
  · cases e
    have er : r = r2 := (List.map_inj_right (fun _ _ h => V.int.inj h)).mp er
    subst er
    cases k with
    | zero =>
      rw [opS_zero lf]
      exact ⟨fun H' a b _ => ke rfl H' a b, fun _ _ _ h => by cases h⟩
    | succ j =>
      rw [opS_succ lf pw]
      exact ⟨fun _ _ _ h => (by cases h), fun H' a b _ => kk j rfl H' a b⟩
theorem w_flushF {K : PySem.W.Frag} {C : Ex} {H : Hp} {Q : VK} {E : XK} {d a w n : Addr} {D : DiskS} {k : Nat} (x : DiskAt C H d a w n D) (ok : DiskOk D) (lf : D.left = some ((k : Nat) : Int)) (pw : D.pw = true)
    (ke : k = 0 → ∀ H', DiskAt C H' d a w n (lefD D (some 0) false) → Stp (dkF d a w n) H (dkF d a w n) H' → E (.ref C.PowerOff) none H')
    (kk : ∀ j, k = j + 1 → ∀ H' w' n', DiskAt C H' d a w' n' (flushD (lefD D (some ((j : Nat) : Int)) true)) → Stp (dkF d a w n) H (dkF d a w' n') H' → Q .non H') : sp_Disk_flush K C [.ref d] H Q E := by
  refine w_S1 ⟨d, a, w, n, D, rfl, x, ok, ?_⟩
  cases k with
  | zero =>
    rw [opS_zero lf]
    exact ⟨fun H' a b _ => ke rfl H' a b, fun _ _ _ _ _ h => by cases h⟩
  | succ j =>
    rw [opS_succ lf pw]
    exact ⟨fun _ _ _ h => (by cases h), fun H' w' n' a b _ => kk j rfl H' w' n' a b⟩
def comStF (S : StS) (a b : Int) (l : Nat) : StS := { comSt S a b with dk := lefD (applyS S.dk (stepsS S a b)) (some ((l : Nat) : Int)) true }
/-- what a commit does: R where the power fails -/
abbrev comP (C : Ex) (H : Hp) (x : V) (Q : VK) (R : Hp → Prop) : Prop := (OffAt C H x ∧ R H) ∨ ∃ A S t1 t2 a b a0 b0 c, x = .ref A.st ∧ StAt C H A S ∧ StOk S ∧ Dsk S ∧ S.kvs.length < 64 ∧ TabsAt H S t1 t2 a b a0 b0 ∧ DskF S.dk S.dk.blocks c ∧ 0 ≤ a ∧ 0 ≤ b ∧ 0 ≤ S.gen ∧ idleS S a b a0 b0 = false ∧
  (c < (stepsS S a b).length → ∀ H' w' n', StAt C H' { A with w := w', n := n' } { S with dk := fallD S.dk (stepsS S a b) c } → Stp (stF A S) H (stF { A with w := w', n := n' } { S with dk := fallD S.dk (stepsS S a b) c }) H' → R H') ∧
  ((stepsS S a b).length ≤ c → ∀ H' A', A'.st = A.st → A'.d = A.d → StAt C H' A' (comStF S a b (c - (stepsS S a b).length)) → Stp (stF A S) H (stF A' (comStF S a b (c - (stepsS S a b).length))) H' → Q (.bl true) H')
theorem comP.mono {C : Ex} {H : Hp} {x : V} {Q : VK} {R R' : Hp → Prop} (h : comP C H x Q R) (m : ∀ H', R H' → R' H') : comP C H x Q R' := by
  rcases h with ⟨a, b⟩ | ⟨A, S, t1, t2, a, b, a0, b0, c, e1, e2, e3, e4, e5, e6, e7, e8, e9, e10, e11, k1, k2⟩
  · exact .inl ⟨a, m _ b⟩
  · exact .inr ⟨A, S, t1, t2, a, b, a0, b0, c, e1, e2, e3, e4, e5, e6, e7, e8, e9, e10, e11, fun h H' w' n' x y => m _ (k1 h H' w' n' x y), k2⟩
def sp_commit (K : PySem.W.Frag) (C : Ex) : Sp := S1 fun x H Q E => comP C H x Q fun H' => E (.ref C.PowerOff) none H'
def t_commit (K : PySem.W.Frag) (C : Ex) (E : XK) : TS :=
  tSeq (tAsg (uCall (sp_commit_steps K C) (WB E) (tCons (tVar 0) (tNil))) (gName 1))
  (tSeq (tIfS (tTest (tOp (uEq K) (tVar 1) (tLst (tNil)))) (tRet (tC (.bl false))) (tNext))
  (tSeq (tFor (iList K (tVar 1)) (gName 2)
  (tIfS (tTest (tOp (uEq K) (tOp (uIx K) (tVar 2) (tC (.int 0))) (tC (.str "write")))) (tDrop (uMeth C.Disk "write" (sp_Disk_write K C) (WB E) (uFld C.Store "disk" (tVar 0)) (tCons (tOp (uIx K) (tVar 2) (tC (.int 1))) (tCons (tOp (uIx K) (tVar 2) (tC (.int 2))) (tNil))))) (tDrop (uMeth C.Disk "flush" (sp_Disk_flush K C) (WB E) (uFld C.Store "disk" (tVar 0)) (tNil)))))
  (tSeq (uSetF C.Store "head" (tVar 0) (uCall (sp_next_head K C) (WB E) (tCons (tVar 0) (tNil))))
  (tSeq (tDrop (uMeth C.Space "settle" (sp_Space_settle K C) (WB E) (uFld C.Store "space" (tVar 0)) (tNil)))
  (tSeq (uSetF C.Store "memory" (tVar 0) (tDNewK))
  (tRet (tC (.bl true))))))))
theorem pure_commit {K : PySem.W.Frag} {C : Ex} {vs : List V} {H : Hp} {Q : VK} {E : XK} (F : Fa K C) (h : sp_commit K C vs H Q E) : t_commit K C E { nx := fun _ H' => Q .non H', rt := Q } (start ["store", "steps", "step"] vs) H := by
  obtain ⟨x, rfl, ⟨⟨dx, A, tab, res, D, rfl, i, hD, ok, r8, pw⟩, k⟩ | ⟨A, S, t1, t2, a, b, a0, b0, c, rfl, hS, ok, dk, kl, tb, df, ha, hb, hg, hid, k1, k2⟩⟩ := h
  · unfold t_commit
    walk_at "run1"
    exact w_S1 (.inl ⟨⟨dx, A, tab, res, D, rfl, i, hD, ok, r8, pw⟩, k⟩)
  unfold t_commit
  walk_at "run1"
  refine w_S1 (.inr ⟨A, S, t1, t2, a, b, a0, b0, rfl, hS, ok, dk, kl, tb, fun l H1 vs s1 hl e1 hst => ?_⟩)
  walk_at "run1"
  rename_i l2 hl2
  have s2 := same_new (o := .lst []) hl2
  have e2 : upd H1 l2 (.lst []) l2 = some (.lst []) := upd_same
  generalize upd H1 l2 _ = H2 at *
  refine w_eqD (Dt.list (SqL.of (s2 _ _ e1)) (hst.same s2).dt) (Dt.list (SqL.of e2) DtAll.nil) (by decide) ⟨_, rfl⟩ ?_
  unfold comS at hst
  rw [hid] at hst
  unfold comS
  rw [hid]
  simp only [Bool.false_eq_true, if_false] at hst ⊢
  have sl := stepsS_len S a b
  rw [decide_eq_false (fun e => by have := congrArg List.length e; rw [List.length_map, sl] at this; cases this)]
  have s12 := s1.trans s2
  have hS2 := hS.same s12
  have el2 := s2 _ _ e1
  have hst2 := hst.same s2
  have nl := hS.dk.fresh hl
  have ks := newL_len hS ok
  have oks := stepsS_ok hS ok dk ha hb hg
  have lv := hst.1
  clear hst e1 e2 hl hl2 tb
  walk_at "run1"
  refine f_list (xs := vs) (fun i σ H' => i ≤ c ∧ ∃ w n v2, σ = [some (.ref A.st), some (.ref l), v2] ∧ DiskAt C H' A.d A.a w n (lefD (applyS S.dk ((stepsS S a b).take i)) (some ((c - i : Nat) : Int)) true) ∧ Stp (dkF A.d A.a A.w A.n) H2 (dkF A.d A.a w n) H')
    ⟨Nat.zero_le _, A.w, A.n, none, rfl, by rw [List.take_zero, Nat.sub_zero]; show DiskAt C H2 A.d A.a A.w A.n (lefD S.dk (some ((c : Nat) : Int)) true); rw [lef_self df.lf df.pw]; exact hS2.dk, .refl⟩ (by rintro i σ H' _ ⟨_, _, _, _, _, _, st⟩; exact SqL.of (st.keep el2 nl).1) ?_ ?_
  · rintro i x σ H' hx ⟨hic, w, n, v2, rfl, hD, st⟩
    obtain ⟨s, es, y⟩ := hst2.2 i x hx
    have y := y.map (fun _ _ r => r.stp hS2.dk st) fun t xs e => (st.keep e (hS2.dk.tupNot e)).1
    obtain ⟨dx, i'⟩ := (hS2.setDk hD st).1.ins
    unfold stO at i'
    have hi : i < (stepsS S a b).length := (List.getElem?_eq_some_iff.mp es).1
    have ltk : ((stepsS S a b).take i).length = i := by rw [List.length_take]; omega
    have oi := applyS_on ((stepsS S a b).take i) df.on (fun s hs => oks s (List.mem_of_mem_take hs)) (by rw [ltk]; omega)
    rw [applyS_lef] at oi
    have oks := oks s (List.mem_of_getElem? es)
    have eln := applyS_len ((stepsS S a b).take i) S.dk
    rw [take_snoc es, applyS_snoc]
    rw [ltk] at oi
    obtain ⟨dd, id⟩ := hD.ins
    unfold dkO at id
    have fall : c - i = 0 → ∀ H3, DiskAt C H3 A.d A.a w n (lefD (lefD (applyS S.dk ((stepsS S a b).take i)) (some ((c - i : Nat) : Int)) true) (some 0) false) → Stp (dkF A.d A.a w n) H' (dkF A.d A.a w n) H3 → E (.ref C.PowerOff) none H3 := fun h0 H3 hD3 st3 => by
      obtain rfl : i = c := by omega
      obtain ⟨g1, g2⟩ := hS2.setDk hD3 (st.trans st3)
      exact k1 hi H3 w n g1 ((Stp.same s12).trans g2)
    cases s with
    | none =>
      obtain ⟨t, rfl, et⟩ := y
      walk_at "run1"
      refine w_flushF (k := c - i) hD (ok_lef oi.ok) rfl rfl fall fun j ej H3 w' n' hD3 st3 => ?_
      walk_at "run1"
      exact ⟨by omega, w', n', _, rfl, by rw [show c - (i + 1) = j by omega]; exact hD3, st.trans st3⟩
    | some sr =>
      obtain ⟨s, r⟩ := sr
      obtain ⟨t, p, rfl, et, l8, p', ep, hp⟩ := y
      cases ep
      obtain ⟨o0, o1, _, o3⟩ := oks
      walk_at "run1"
      refine w_writeF (k := c - i) hD oi rfl rfl (by omega) o0 (by show s < (applyS S.dk ((stepsS S a b).take i)).secs.length; rw [eln]; exact o1) (SqL.of hp) l8 o3 fall fun j ej H3 hD3 st3 => ?_
      walk_at "run1"
      exact ⟨by omega, w, n, _, rfl, by rw [show c - (i + 1) = j by omega]; exact hD3, st.trans st3⟩
  · rintro σ H5 ⟨hic, w, n, v2, rfl, hD, st⟩
    rw [lv] at hic
    have k2 := k2 hic
    rw [lv, List.take_length] at hD
    obtain ⟨h5, st5⟩ := hS2.setDk hD st
    generalize eDD : lefD (applyS S.dk (stepsS S a b)) (some ((c - (stepsS S a b).length : Nat) : Int)) true = DD at *
    obtain ⟨dx, i5⟩ := h5.ins
    unfold stO at i5
    dsimp only at i5
    walk_at "run1"
    refine w_S1 ⟨{ A with w := w, n := n }, _, rfl, h5, fun p dp H6 s6 hp e6 => ?_⟩
    have i6 := s6 _ _ i5
    walk_at "run1"
    obtain ⟨h7, st7⟩ := h5.newHd (dx := dx) s6 hp e6
    generalize hG : upd H6 A.st _ = H7
    have h7 : StAt C H7 { A with w := w, n := n, hd := p } { S with dk := DD, gen := S.gen + 1, ht := S.tab, hb := .int S.sp.nums.length } := by rw [← hG]; exact h7
    have st7 : Stp (stF { A with w := w, n := n } { S with dk := DD }) H5 (stF { A with w := w, n := n, hd := p } { S with dk := DD, gen := S.gen + 1, ht := S.tab, hb := .int S.sp.nums.length }) H7 := by rw [← hG]; exact st7
    clear hG i6 e6 i5
    obtain ⟨dx7, i7⟩ := h7.ins
    unfold stO at i7
    dsimp only at i7
    obtain ⟨ds7, is7⟩ := h7.sp.ins
    unfold spO at is7
    dsimp only at is7
    walk_at "run1"
    refine w_S1 ⟨A.s, A.sa, A.sb, S.sp, rfl, h7.sp, ok.spo, fun H8 b' hsp st8 => ?_⟩
    obtain ⟨h8, st8⟩ := h7.setSpB (by have := ok.sz; show S.sp.nums.length ≠ 8; omega) hsp st8
    obtain ⟨dx8, i8⟩ := h8.ins
    unfold stO at i8
    dsimp only at i8
    walk_at "run1"
    rename_i m hm
    have sm := same_new (o := .dK []) hm
    obtain ⟨h9, st9⟩ := h8.clear (dx := dx8) sm hm upd_same
    have i9 := sm _ _ i8
    walk_at "run1"
    have eF : comStF S a b (c - (stepsS S a b).length) = { sp := ⟨S.sp.nums, posL S.sp.nums, 0⟩, dk := DD, kvs := [], cont := fun _ => none, gen := S.gen + 1, ht := S.tab, hb := .int S.sp.nums.length, tab := S.tab, res := S.res } := by unfold comStF; rw [eDD]; rfl
    rw [eF] at k2
    exact k2 _ { A with w := w, n := n, hd := p, sb := b', m := m } rfl rfl h9 (((((Stp.same s12).trans st5).trans st7).trans st8).trans st9)
def blkF (n e : Int) : List Int := (List.range 32).map fun j : Nat => (n * ((j : Int) + 2) + e * (j : Int) * (j : Int) + (j : Int)) % 2003
theorem blkF_blk (n e : Int) : Blk (blkF n e) := ⟨by unfold blkF; rw [List.length_map, List.length_range], fun z hz => by
  unfold blkF at hz
  obtain ⟨j, _, rfl⟩ := List.mem_map.mp hz
  exact Int.emod_nonneg _ (by decide)⟩
def sp__law_block (K : PySem.W.Frag) (_ : Ex) : Sp := S2 fun a b H Q _ => ∃ n e : Int, a = .int n ∧ b = .int e ∧ (0 ≤ n ∧ n < 1000) ∧ (0 ≤ e ∧ e < 1000) ∧ ∀ l, H l = none → ∀ H', Same H H' → H' l = some (.lst ((blkF n e).map V.int)) → Q (.ref l) H'
def t__law_block (K : PySem.W.Frag) (C : Ex) (E : XK) : TS :=
  tRet (tLc (iRng1 (tCons (tC (.int 32)) (tNil))) (gName 2) (tYes) (tOp (uMod) (tCB (uInt) (tCons (tOp (uAdd K) (tOp (uAdd K) (tOp (uMul) (tVar 0) (tOp (uAdd K) (tVar 2) (tC (.int 2)))) (tOp (uMul) (tOp (uMul) (tVar 1) (tVar 2)) (tVar 2))) (tVar 2)) (tNil))) (tC (.int 2003))) [2])
theorem pure__law_block {K : PySem.W.Frag} {C : Ex} {vs : List V} {H : Hp} {Q : VK} {E : XK} (F : Fa K C) (h : sp__law_block K C vs H Q E) : t__law_block K C E { nx := fun _ H' => Q .non H', rt := Q } (start ["_law_number", "_law_extra", "_law_j"] vs) H := by
  obtain ⟨a, b, rfl, n, e, rfl, rfl, n0, e0, k⟩ := h
  unfold t__law_block
  walk_at "run1"
  refine l_range (fun b i H1 => Same H H1 ∧ H1 b = some (.lst (((List.range i).map fun j : Nat => (n * ((j : Int) + 2) + e * (j : Int) * (j : Int) + (j : Int)) % 2003).map V.int))) (fun b hb => ⟨same_new hb, upd_same⟩) ?_ ?_
  · rintro D i H1 hD hi ⟨s1, e1⟩
    have hi : i < 32 := hi
    walk_at "run1"
    refine ⟨rfl, ?_⟩
    walk_at "run1"
    refine ⟨_, e1, by rw [List.length_map, List.length_map, List.length_range]; exact lt_line (by omega), same_upd s1 hD, ?_⟩
    rw [upd_same, List.range_succ, List.map_append, List.map_append, Int.zero_add]
    rfl
  · rintro D H1 hD ⟨s1, e1⟩
    exact k D hD H1 s1 e1
def sp__law_is_block (K : PySem.W.Frag) (_ : Ex) : Sp := S2 fun a b H Q _ => ∃ (p q : Addr) (ws : List Int), a = .ref p ∧ b = .ref q ∧ SqL K H p (ws.map V.int) ∧ SqL K H q (ws.map V.int) ∧ ws.length = 32 ∧ Q (.bl true) H
def t__law_is_block (K : PySem.W.Frag) (C : Ex) (E : XK) : TS :=
  tSeq (tIfS (tOr (tNot (uTru K (tCB (uIsi K .list) (tCons (tVar 0) (tCons (tC (.ty "list")) (tNil)))))) (tTest (tOp (uNe K) (tCB (uLen K) (tCons (tVar 0) (tNil))) (tC (.int 32))))) (tRet (tC (.bl false))) (tNext))
  (tSeq (tFor (iRng1 (tCons (tC (.int 32)) (tNil))) (gName 2)
  (tIfS (tOr (tNot (uTru K (tCB (uIsi K .int) (tCons (tOp (uIx K) (tVar 0) (tVar 2)) (tCons (tC (.ty "int")) (tNil)))))) (tOr (uTru K (tCB (uIsi K .bool) (tCons (tOp (uIx K) (tVar 0) (tVar 2)) (tCons (tC (.ty "bool")) (tNil))))) (tTest (tOp (uNe K) (tOp (uIx K) (tVar 0) (tVar 2)) (tOp (uIx K) (tVar 1) (tVar 2)))))) (tRet (tC (.bl false))) (tNext)))
  (tRet (tC (.bl true))))
theorem pure__law_is_block {K : PySem.W.Frag} {C : Ex} {vs : List V} {H : Hp} {Q : VK} {E : XK} (F : Fa K C) (h : sp__law_is_block K C vs H Q E) : t__law_is_block K C E { nx := fun _ H' => Q .non H', rt := Q } (start ["_law_told", "_law_due_here", "_law_j"] vs) H := by
  obtain ⟨a, b, rfl, p, q, ws, rfl, rfl, hp, hq, l, k⟩ := h
  unfold t__law_is_block
  walk_at "run1"
  refine w_isi_list_L hp ?_
  have l' : (ws.map V.int).length = 32 := by rw [List.length_map, l]
  walk_at "run1"
  · rename_i h
    exact absurd (by rw [l']; rfl) h
  walk_at "run1"
  refine f_range (fun i σ H' => H' = H ∧ ∃ v, σ = [some (.ref p), some (.ref q), v]) ⟨rfl, none, rfl⟩ ?_ ?_
  · rintro i σ H' hi ⟨e, v, rfl⟩
    rw [e]
    clear e
    have hi : i < 32 := hi
    walk_at "run1"
    exact ⟨rfl, _, rfl⟩
  · rintro σ H' ⟨e, v, rfl⟩
    rw [e]
    walk_at "run1"
    exact k
/-- the four rows of a block -/
def putB (D : DiskS) (n : Int) (ws : List Int) : Nat → DiskS
  | 0 => D
  | i + 1 => pushW (putB D n ws i) (4 * n + (i : Int)) ((ws.drop (8 * i)).take 8)
theorem putB_secs {D : DiskS} {n : Int} {ws : List Int} : ∀ i, (putB D n ws i).secs = D.secs
  | 0 => rfl
  | i + 1 => putB_secs i
theorem putB_on {D : DiskS} {b : Int} {m : Nat} {n : Int} {ws : List Int} (o : DskOn D b m) (h0 : 0 ≤ n) (h1 : 4 * n + 4 ≤ D.secs.length) (l : ws.length = 32) (hm : m + 4 < 100000) : ∀ i, i ≤ 4 → DskOn (putB D n ws i) b (m + i)
  | 0, _ => o
  | i + 1, hi => (putB_on o h0 h1 l hm i (by omega)).push (by omega) (by omega) (by rw [putB_secs]; omega) (by rw [List.length_take, List.length_drop, l]; omega)
theorem cutV_ints {ws : List Int} {i j : Nat} (h : i ≤ j) (hj : j ≤ ws.length) : cutV (ws.map V.int) (some (i : Int)) (some (j : Int)) = ((ws.drop i).take (j - i)).map V.int := by
  rw [cut_mid _ _ _ h (by rw [List.length_map]; exact hj), List.map_take, List.map_drop]
def sp__law_put_block (K : PySem.W.Frag) (C : Ex) : Sp := S3 fun x b c H Q _ => ∃ (d a w n q : Addr) (D : DiskS) (k : Int) (m : Nat) (bl : Int) (ws : List Int), x = .ref d ∧ b = .int k ∧ c = .ref q ∧ DiskAt C H d a w n D ∧ DskOn D bl m ∧ m + 4 < 100000 ∧ 0 ≤ k ∧ 4 * k + 4 ≤ D.secs.length ∧ H q = some (.lst (ws.map V.int)) ∧ Blk ws ∧ q ∉ dkF d a w n ∧
  ∀ H', DiskAt C H' d a w n (putB D k ws 4) → Stp (dkF d a w n) H (dkF d a w n) H' → Q .non H'
def t__law_put_block (K : PySem.W.Frag) (C : Ex) (E : XK) : TS :=
  tFor (iRng1 (tCons (tC (.int 4)) (tNil))) (gName 3)
  (tDrop (uMeth C.Disk "write" (sp_Disk_write K C) (WB E) (tVar 0) (tCons (tOp (uAdd K) (tOp (uMul) (tC (.int 4)) (tVar 1)) (tVar 3)) (tCons (tSl (uSl K) (tVar 2) (tPart (tOp (uMul) (tC (.int 8)) (tVar 3))) (tPart (tOp (uAdd K) (tOp (uMul) (tC (.int 8)) (tVar 3)) (tC (.int 8))))) (tNil)))))
theorem pure__law_put_block {K : PySem.W.Frag} {C : Ex} {vs : List V} {H : Hp} {Q : VK} {E : XK} (F : Fa K C) (h : sp__law_put_block K C vs H Q E) : t__law_put_block K C E { nx := fun _ H' => Q .non H', rt := Q } (start ["_law_disk", "_law_number", "_law_words", "_law_part"] vs) H := by
  obtain ⟨x, b, c, rfl, d, a, w, n, q, D, k, m, bl, ws, rfl, rfl, rfl, hD, on, hm, k0, k1, hq, bw, nq, kk⟩ := h
  unfold t__law_put_block
  walk_at "run1"
  refine f_range (fun i σ H' => (∃ v, σ = [some (.ref d), some (.int k), some (.ref q), v]) ∧ DiskAt C H' d a w n (putB D k ws i) ∧ Stp (dkF d a w n) H (dkF d a w n) H') ⟨⟨none, rfl⟩, hD, .refl⟩ ?_ ?_
  · rintro i σ H1 hi ⟨⟨v, rfl⟩, hD1, st1⟩
    have hi : i < 4 := hi
    obtain ⟨dx, i1⟩ := hD1.ins
    unfold dkO at i1
    have hq1 := (st1.keep hq nq).1
    walk_at "run1"
    refine w_slL (SqL.of hq1) fun l hl => ?_
    rw [show 8 * (0 + (i : Int)) = ((8 * i : Nat) : Int) by omega, show ((8 * i : Nat) : Int) + 8 = ((8 * i + 8 : Nat) : Int) by omega, cutV_ints (by omega) (by rw [bw.1]; omega), show 8 * i + 8 - 8 * i = 8 by omega]
    walk_at "run1"
    have on1 := putB_on on k0 k1 bw.1 hm i (by omega)
    refine w_write (hD1.same (same_new hl)) on1 (by omega) (by omega) (by rw [putB_secs]; omega) (SqL.of upd_same) (by rw [List.length_take, List.length_drop, bw.1]; omega) (fun z hz => bw.2 z (List.mem_of_mem_drop (List.mem_of_mem_take hz))) fun H2 hD2 st2 => ?_
    walk_at "run1"
    refine ⟨⟨_, rfl⟩, ?_, (st1.new hl).trans st2⟩
    rw [Int.zero_add] at hD2
    exact hD2
  · rintro σ H1 ⟨⟨v, rfl⟩, hD1, st1⟩
    walk_at "run1"
    exact kk H1 hD1 st1
def afterA : List (List Int) → StepD → List (List Int)
  | rs, none => rs
  | rs, some (s, r) => rs.set s.toNat r
def afterS (rs : List (List Int)) (ss : List StepD) : List (List Int) := ss.foldl afterA rs
theorem afterS_snoc (rs : List (List Int)) (ss : List StepD) (s : StepD) : afterS rs (ss ++ [s]) = afterA (afterS rs ss) s := by
  unfold afterS
  rw [List.foldl_append]
  rfl
theorem afterS_len : ∀ (ss : List StepD) (rs : List (List Int)), (afterS rs ss).length = rs.length
  | [], _ => rfl
  | none :: ss, rs => afterS_len ss rs
  | some (s, r) :: ss, rs => (afterS_len ss (rs.set s.toNat r)).trans (List.length_set ..)
theorem posL_get (ns : List Int) (k : Nat) : (posL ns).getD k false = decide (0 < ns.getD k 0) := by
  unfold posL
  rw [List.getD_eq_getElem?_getD, List.getD_eq_getElem?_getD, List.getElem?_map]
  cases ns[k]? <;> rfl
/-- what the new blocks hold, as a list of pairs -/
def ContAt (H : Hp) (vs : List V) (cs : List (Nat × List Int)) : Prop := vs.length = cs.length ∧ ∀ (i : Nat) v, vs[i]? = some v → ∃ k ws t p, cs[i]? = some (k, ws) ∧ v = .ref t ∧ H t = some (.tup [.int (k : Nat), .ref p]) ∧ H p = some (.lst (ws.map V.int)) ∧ ws.length = 32
theorem ContAt.same {H H' : Hp} {vs : List V} {cs : List (Nat × List Int)} (x : ContAt H vs cs) (s : Same H H') : ContAt H' vs cs := ⟨x.1, fun i v h => by
  obtain ⟨k, ws, t, p, a, b, c, d, e⟩ := x.2 i v h
  exact ⟨k, ws, t, p, a, b, s _ _ c, s _ _ d, e⟩⟩
theorem apply_after : ∀ (ss : List StepD) (D : DiskS), flushS (applyS D ss).secs (applyS D ss).wr = afterS (flushS D.secs D.wr) ss
  | [], _ => rfl
  | none :: ss, D => (apply_after ss (flushD D)).trans rfl
  | some (s, r) :: ss, D => (apply_after ss (pushW D s r)).trans (by
    show afterS (flushS D.secs (D.wr ++ [(s, r)])) ss = afterS ((flushS D.secs D.wr).set s.toNat r) ss
    rw [flushS_snoc])
theorem stepsS_snoc (S : StS) (a b : Int) : ∃ ss, stepsS S a b = ss ++ [none] := ⟨_, rfl⟩
theorem stepsS_after {S : StS} {a b : Int} (h : S.dk.wr = []) : (applyS S.dk (stepsS S a b)).secs = afterS S.dk.secs (stepsS S a b) ∧ (applyS S.dk (stepsS S a b)).wr = [] := by
  obtain ⟨ss, e⟩ := stepsS_snoc S a b
  have w : (applyS S.dk (stepsS S a b)).wr = [] := by rw [e, applyS_snoc]; rfl
  refine ⟨?_, w⟩
  have z := apply_after (stepsS S a b) S.dk
  rw [w, h] at z
  exact z
def wrTo (t : Int) : StepD → Bool
  | none => false
  | some (s, _) => decide (s = t)
/-- a sector that no step writes -/
theorem afterS_skip {t : Nat} : ∀ (ss : List StepD) (rs : List (List Int)), (∀ s ∈ ss, wrTo t s = false) → (∀ s ∈ ss, StepOk rs.length s) → (afterS rs ss).getD t [] = rs.getD t []
  | [], _, _, _ => rfl
  | none :: ss, rs, h, o => afterS_skip ss rs (fun s hs => h s (List.mem_cons_of_mem _ hs)) fun s hs => o s (List.mem_cons_of_mem _ hs)
  | some (s, r) :: ss, rs, h, o => by
    have n := of_decide_eq_false (h (some (s, r)) (List.mem_cons_self ..))
    obtain ⟨o0, o1, _, _⟩ := o (some (s, r)) (List.mem_cons_self ..)
    have z := afterS_skip (t := t) ss (rs.set s.toNat r) (fun u hu => h u (List.mem_cons_of_mem _ hu)) fun u hu => by rw [List.length_set]; exact o u (List.mem_cons_of_mem _ hu)
    show (afterS (rs.set s.toNat r) ss).getD t [] = _
    rw [z, List.getD_eq_getElem?_getD, List.getElem?_set_ne (by omega), ← List.getD_eq_getElem?_getD]
theorem afterS_append (rs : List (List Int)) (u v : List StepD) : afterS rs (u ++ v) = afterS (afterS rs u) v := by
  unfold afterS
  rw [List.foldl_append]
/-- a sector whose last write is known -/
theorem afterS_hit {t : Nat} {r : List Int} {u v : List StepD} {rs : List (List Int)} (ht : t < rs.length) (h : ∀ s ∈ v, wrTo t s = false) (o : ∀ s ∈ v, StepOk rs.length s) : (afterS rs (u ++ some ((t : Int), r) :: v)).getD t [] = r := by
  rw [show u ++ some ((t : Int), r) :: v = (u ++ [some ((t : Int), r)]) ++ v by simp, afterS_append, afterS_snoc]
  have e : afterA (afterS rs u) (some ((t : Int), r)) = (afterS rs u).set t r := rfl
  have l : ((afterS rs u).set t r).length = rs.length := by rw [List.length_set, afterS_len]
  rw [e, afterS_skip v _ h (by rw [l]; exact o), List.getD_eq_getElem?_getD, List.getElem?_set_self (by rw [afterS_len]; exact ht)]
  rfl
/-- reading is what lasts once nothing waits -/
theorem rdS_flat {D : DiskS} (h : D.wr = []) (t : Int) : rdS D t = D.secs.getD t.toNat [] := by
  unfold rdS
  rw [h]
  rfl
theorem blk_wr {S : StS} {k : Nat} {t : Int} (h : t < 4 * (k : Int) ∨ 4 * (k : Int) + 4 ≤ t) : ∀ s ∈ blkSteps S k, wrTo t s = false := fun s hs => by
  unfold blkSteps at hs
  obtain ⟨j, hj, rfl⟩ := List.mem_map.mp hs
  have hj := List.mem_range.mp hj
  exact decide_eq_false (by omega)
theorem tail_wr {t g : Int} {r : List Int} (h : 2 ≤ t) : ∀ s ∈ ([none] ++ [some ((g + 1) % 2, r)] ++ [none] : List StepD), wrTo t s = false := fun s hs => by
  simp only [List.mem_append, List.mem_singleton] at hs
  rcases hs with (rfl | rfl) | rfl
  · rfl
  · exact decide_eq_false (by omega)
  · rfl
theorem stepsS_eq (S : StS) (a b : Int) : stepsS S a b = (newL S).flatMap (blkSteps S) ++ ([none] ++ [some ((S.gen + 1) % 2, headW (S.gen + 1) a b S.sp.nums.length)] ++ [none]) := by
  unfold stepsS
  rw [List.append_assoc, List.append_assoc, List.append_assoc]
/-- each row of a new block is written, and nothing behind it -/
theorem stepsS_hit {S : StS} {a b : Int} (ok : StOk S) {k : Nat} (hk : k ∈ newL S) {j : Nat} (hj : j < 4) : ∃ u v, stepsS S a b = u ++ some (((4 * k + j : Nat) : Int), ((blkS S k).drop (8 * j)).take 8) :: v ∧ ∀ s ∈ v, wrTo ((4 * k + j : Nat) : Int) s = false := by
  have hm := newL_mem ok hk
  have asc : (newL S).Pairwise (· < ·) := filt_sorted _ _
  obtain ⟨l1, l2, e⟩ := List.append_of_mem hk
  rw [e] at asc
  have gt := (List.pairwise_cons.mp (List.pairwise_append.mp asc).2.1).1
  have eb : (blkSteps S k)[j]? = some (some (((4 * k + j : Nat) : Int), ((blkS S k).drop (8 * j)).take 8)) := by
    unfold blkSteps
    rw [List.getElem?_map, List.getElem?_range hj]
    show some (some (4 * (k : Int) + (j : Int), _)) = _
    rw [show 4 * (k : Int) + (j : Int) = ((4 * k + j : Nat) : Int) by omega]
  obtain ⟨hl, he⟩ := List.getElem?_eq_some_iff.mp eb
  have split : blkSteps S k = (blkSteps S k).take j ++ some (((4 * k + j : Nat) : Int), ((blkS S k).drop (8 * j)).take 8) :: (blkSteps S k).drop (j + 1) := by
    rw [← he, ← List.drop_eq_getElem_cons hl, List.take_append_drop]
  refine ⟨l1.flatMap (blkSteps S) ++ (blkSteps S k).take j, (blkSteps S k).drop (j + 1) ++ (l2.flatMap (blkSteps S) ++ ([none] ++ [some ((S.gen + 1) % 2, headW (S.gen + 1) a b S.sp.nums.length)] ++ [none])), ?_, fun s hs => ?_⟩
  · rw [stepsS_eq, e, List.flatMap_append, List.flatMap_cons]
    conv => lhs; rw [split]
    simp only [List.append_assoc, List.cons_append]
  · rcases List.mem_append.mp hs with hs | hs
    · obtain ⟨i, hi⟩ := List.getElem?_of_mem hs
      rw [List.getElem?_drop] at hi
      unfold blkSteps at hi
      rw [List.getElem?_map] at hi
      obtain ⟨i', hi', rfl⟩ := Option.map_eq_some_iff.mp hi
      have q := (List.getElem?_eq_some_iff.mp hi').1
      have q2 := (List.getElem?_eq_some_iff.mp hi').2
      rw [List.getElem_range] at q2
      exact decide_eq_false (by omega)
    · rcases List.mem_append.mp hs with hs | hs
      · obtain ⟨k', hk', hs⟩ := List.mem_flatMap.mp hs
        have := gt k' hk'
        exact blk_wr (.inl (by omega)) s hs
      · exact tail_wr (by omega) s hs
theorem row_after {S : StS} {a b : Int} (ok : StOk S) (dk : Dsk S) (h : S.dk.wr = []) (oks : ∀ s ∈ stepsS S a b, StepOk S.dk.secs.length s) {k : Nat} (hk : k ∈ newL S) {j : Nat} (hj : j < 4) : rdS (applyS S.dk (stepsS S a b)) (4 * (k : Int) + (j : Int)) = ((blkS S k).drop (8 * j)).take 8 := by
  obtain ⟨e1, e2⟩ := stepsS_after (a := a) (b := b) h
  obtain ⟨u, v, e, n⟩ := stepsS_hit (a := a) (b := b) ok hk hj
  have hm := newL_mem ok hk
  have := dk.ok.sz
  have := dk.bl
  rw [rdS_flat e2, e1, show (4 * (k : Int) + (j : Int)).toNat = 4 * k + j by omega]
  rw [e] at oks ⊢
  exact afterS_hit (by omega) n fun s hs => oks s (List.mem_append_right _ (List.mem_cons_of_mem _ hs))
theorem four (ws : List Int) (h : ws.length = 32) : ((List.range 4).flatMap fun j : Nat => (ws.drop (8 * j)).take 8) = ws := by
  have t : ∀ i, i ≤ 4 → ((List.range i).flatMap fun j : Nat => (ws.drop (8 * j)).take 8) = ws.take (8 * i)
    | 0, _ => by simp
    | i + 1, hi => by
      have ih : ((List.range i).flatMap fun j : Nat => (ws.drop (8 * j)).take 8) = ws.take (8 * i) := by
        clear hi
        induction i with
        | zero => simp
        | succ i ih => rw [List.range_succ, List.flatMap_append, ih, List.flatMap_cons, List.flatMap_nil, List.append_nil, show 8 * (i + 1) = 8 * i + 8 by omega, List.take_add]
      rw [List.range_succ, List.flatMap_append, ih, List.flatMap_cons, List.flatMap_nil, List.append_nil, show 8 * (i + 1) = 8 * i + 8 by omega, List.take_add]
  rw [t 4 (Nat.le_refl 4), List.take_of_length_le (by omega)]
/-- what a new block holds is read back -/
theorem blk_after {C : Ex} {H : Hp} {A : SA} {S : StS} {a b : Int} (x : StAt C H A S) (ok : StOk S) (dk : Dsk S) (h : S.dk.wr = []) (oks : ∀ s ∈ stepsS S a b, StepOk S.dk.secs.length s) {k : Nat} (hk : k ∈ newL S) : rdB4 (applyS S.dk (stepsS S a b)) k 4 = blkS S k := by
  have hm := newL_mem ok hk
  rw [← four (blkS S k) (blkS_len x dk hm.2)]
  unfold rdB4
  have e : ∀ l : List Nat, (∀ j ∈ l, j < 4) → (l.flatMap fun j : Nat => rdS (applyS S.dk (stepsS S a b)) (4 * (k : Int) + (j : Int))) = l.flatMap fun j : Nat => ((blkS S k).drop (8 * j)).take 8 := fun l => by
    induction l with
    | nil => intro _; rfl
    | cons j l ih =>
      intro hl
      rw [List.flatMap_cons, List.flatMap_cons, ih fun i hi => hl i (List.mem_cons_of_mem _ hi), row_after ok dk h oks hk (hl j (List.mem_cons_self ..))]
  exact e _ fun j hj => List.mem_range.mp hj
/-- the mark is the greatest seventh word -/
theorem mark_lt {D : DiskS} {g : Int} (hg : 0 < g) : ∀ i, (∀ j : Nat, j < i → rw8 (rdS D (4 + (j : Nat))) 7 < g) → markD D i < g
  | 0, _ => hg
  | i + 1, h => by
    unfold markD
    split
    · exact h i (Nat.lt_succ_self i)
    · exact mark_lt hg i fun j hj => h j (Nat.lt_succ_of_lt hj)
theorem fm_congr {f g : Nat → List Int} : ∀ {l : List Nat}, (∀ p ∈ l, f p = g p) → l.flatMap f = l.flatMap g
  | [], _ => rfl
  | a :: l, h => by rw [List.flatMap_cons, List.flatMap_cons, h a (List.mem_cons_self ..), fm_congr fun p hp => h p (List.mem_cons_of_mem _ hp)]
theorem putB_rd {D : DiskS} {k j : Int} {ws : List Int} {p : Nat} (hp : p < 4) : ∀ i, i ≤ 4 → rdS (putB D k ws i) (4 * j + (p : Int)) = if j = k ∧ p < i then (ws.drop (8 * p)).take 8 else rdS D (4 * j + (p : Int))
  | 0, _ => by rw [if_neg (by omega)]; rfl
  | i + 1, hi => by
    show rdS (pushW (putB D k ws i) (4 * k + (i : Int)) ((ws.drop (8 * i)).take 8)) _ = _
    rw [rd_push, putB_rd hp i (by omega)]
    by_cases q : j = k ∧ p = i
    · obtain ⟨rfl, rfl⟩ := q
      rw [if_pos rfl, if_pos ⟨rfl, Nat.lt_succ_self _⟩]
    · rw [if_neg (by omega)]
      by_cases r : j = k ∧ p < i
      · rw [if_pos r, if_pos ⟨r.1, by omega⟩]
      · rw [if_neg r, if_neg (by omega)]
theorem chunks {ws : List Int} (h : ws.length = 32) : ((List.range 4).flatMap fun p => (ws.drop (8 * p)).take 8) = ws := by
  rw [show List.range 4 = [0, 1, 2, 3] from rfl]
  simp only [List.flatMap_cons, List.flatMap_nil, List.append_nil]
  have e3 : (ws.drop (8 * 3)).take 8 = ws.drop 24 := List.take_of_length_le (by rw [List.length_drop, h]; decide)
  have e2 : (ws.drop (8 * 2)).take 8 ++ ws.drop 24 = ws.drop 16 := by
    have z := List.take_append_drop 8 (ws.drop 16)
    rw [List.drop_drop] at z
    exact z
  have e1 : (ws.drop (8 * 1)).take 8 ++ ws.drop 16 = ws.drop 8 := by
    have z := List.take_append_drop 8 (ws.drop 8)
    rw [List.drop_drop] at z
    exact z
  rw [e3, e2, e1]
  exact List.take_append_drop 8 ws
theorem rdB4_put {D : DiskS} {k j : Int} {ws : List Int} (h : ws.length = 32) : rdB4 (putB D k ws 4) j 4 = if j = k then ws else rdB4 D j 4 := by
  unfold rdB4
  by_cases q : j = k
  · rw [if_pos q]
    refine Eq.trans (fm_congr fun p hp => ?_) (chunks h)
    have hp := List.mem_range.mp hp
    rw [putB_rd hp 4 (Nat.le_refl 4), if_pos ⟨q, hp⟩]
  · rw [if_neg q]
    refine fm_congr fun p hp => ?_
    have hp := List.mem_range.mp hp
    rw [putB_rd hp 4 (Nat.le_refl 4), if_neg (fun z => q z.1)]
theorem rdB4_flush {D : DiskS} {b : Int} {m : Nat} (on : DskOn D b m) {j : Int} (h0 : 0 ≤ j) (h1 : 4 * j + 4 ≤ D.secs.length) : rdB4 (flushD D) j 4 = rdB4 D j 4 := fm_congr fun p hp => by
  have hp := List.mem_range.mp hp
  exact rd_flush on (by omega) (by omega)
/-- an object is made: all that was stands -/
theorem same_made {H H' : Hp} {x dx : Addr} {o o' : HO} (hx : H x = none) (hdx : H dx = none) (f : ∀ c u, upd (upd H dx o) x o' c = some u → c ≠ x → H' c = some u) : Same H H' := fun c u h => by
  have n1 : c ≠ x := fun e => by rw [e, hx] at h; cases h
  have n2 : c ≠ dx := fun e => by rw [e, hdx] at h; cases h
  exact f c u (by rw [upd_ne n1, upd_ne n2]; exact h) n1
theorem none_made {H : Hp} {x dx b : Addr} {o o' : HO} (h : upd (upd H dx o) x o' b = none) : H b = none := (none_of_upd (none_of_upd h).1).1
/-- the store as the law makes it -/
def firstS (nums : List Int) (D : DiskS) (g : Int) (tb : V) : StS := ⟨⟨nums, posL nums, 0⟩, D, [], fun _ => none, g, tb, .int 96, tb, 60⟩
theorem posL_getD {ns : List Int} {k : Nat} (h : k < ns.length) : (posL ns).getD k false = decide (0 < ns.getD k 0) := by
  unfold posL
  rw [List.getD_eq_getElem?_getD, List.getElem?_map, List.getD_eq_getElem?_getD, List.getElem?_eq_getElem h]
  rfl
theorem firstS_ok {nums : List Int} {D : DiskS} {g : Int} {tb : V} (ln : nums.length = 96) (nn : ∀ z ∈ nums, 0 ≤ z) (l5 : ∀ j : Nat, j < 5 → nums.getD j 0 = 1) : StOk (firstS nums D g tb) := by
  refine ⟨.zero (posL_len _).symm nn (by omega), by show 96 ≤ nums.length; omega, by show (0 : Int) ≤ 60; decide, fun k => ⟨(fun h => by cases h), fun h => ?_⟩, fun _ _ => rfl, fun i hi => ⟨by show 0 < nums.getD i 0; rw [l5 i hi]; decide, ?_⟩⟩
  · exfalso
    obtain ⟨h1, h2, h3⟩ := h
    have h1 : k < nums.length := h1
    have h2 : 0 < nums.getD k 0 := h2
    have h3 : (posL nums).getD k false = false := h3
    rw [posL_getD h1, decide_eq_true h2] at h3
    cases h3
  · show (posL nums).getD i false = true
    rw [posL_getD (by omega), l5 i hi]
    rfl
theorem dk_nodup {C : Ex} {H : Hp} {d a w n : Addr} {D : DiskS} (x : DiskAt C H d a w n D) : (dkF d a w n).Nodup := by
  obtain ⟨⟨dx, i⟩, ⟨vs, e1, _⟩, ⟨ws, e2, _⟩, ⟨kvs, e3, _⟩, ne⟩ := x
  have h1 : d ≠ a := ne_of i e1 fun z => nomatch z
  have h2 : d ≠ w := ne_of i e2 fun z => nomatch z
  have h3 : d ≠ n := ne_of i e3 fun z => nomatch z
  have h4 : a ≠ n := ne_of e1 e3 fun z => nomatch z
  have h5 : w ≠ n := ne_of e2 e3 fun z => nomatch z
  simp [dkF, h1, h2, h3, ne, h4, h5]
theorem sp_nodup {C : Ex} {H : Hp} {s a b : Addr} {S : SpS} (x : SpAt C H s a b S) : (spF s a b).Nodup := by
  obtain ⟨⟨dx, i⟩, e1, e2, ne⟩ := x
  have h1 : s ≠ a := ne_of i e1 fun z => nomatch z
  have h2 : s ≠ b := ne_of i e2 fun z => nomatch z
  simp [spF, h1, h2, ne]
/-- addresses that are held by and by are different -/
theorem nodup_store {st hd d a w n s sa sb : Addr} {H8 H9 H10 : Hp} (hd8 : H8 hd = none) (dk : (dkF d a w n).Nodup) (h8 : ∀ b ∈ dkF d a w n, H8 b ≠ none) (s89 : Same H8 H9) (hd9 : H9 hd ≠ none) (sp : (spF s sa sb).Nodup) (h9 : ∀ b ∈ spF s sa sb, H9 b = none) (s910 : Same H9 H10) (hs10 : ∀ b ∈ spF s sa sb, H10 b ≠ none) (st10 : H10 st = none) : [st, hd, d, a, w, n, s, sa, sb].Nodup := by
  have up89 : ∀ b, H8 b ≠ none → H9 b ≠ none := fun b h q => by
    cases e : H8 b with
    | none => exact h e
    | some o => rw [s89 b o e] at q; cases q
  have up910 : ∀ b, H9 b ≠ none → H10 b ≠ none := fun b h q => by
    cases e : H9 b with
    | none => exact h e
    | some o => rw [s910 b o e] at q; cases q
  have A : (dkF d a w n ++ spF s sa sb).Nodup := List.nodup_append.mpr ⟨dk, sp, fun x hx y hy e => up89 x (h8 x hx) (e ▸ h9 y hy)⟩
  have Bn : (hd :: (dkF d a w n ++ spF s sa sb)).Nodup := List.nodup_cons.mpr ⟨fun h => by
    rcases List.mem_append.mp h with h | h
    · exact h8 hd h hd8
    · exact hd9 (h9 hd h), A⟩
  exact List.nodup_cons.mpr ⟨fun h => by
    rcases List.mem_cons.mp h with h | h
    · exact up910 hd hd9 (h ▸ st10)
    · rcases List.mem_append.mp (show st ∈ dkF d a w n ++ spF s sa sb from h) with h | h
      · exact up910 st (up89 st (h8 st h)) st10
      · exact hs10 st h st10, Bn⟩
structure Keep (C : Ex) (H G : Hp) (A : SA) (S : StS) : Prop where
  at_ : StAt C H A S
  sm : Same G H
  fr : ∀ b ∈ stF A S, G b = none
section keep
variable {C : Ex} {H H' G : Hp} {A A' : SA} {S S' : StS} {p : Addr} {o u : HO}
theorem Keep.stp (x : Keep C H G A S) (h : StAt C H' A' S') (st : Stp (stF A S) H (stF A' S') H') : Keep C H' G A' S' :=
  ⟨h, (st.toSame x.fr x.sm).1, (st.toSame x.fr x.sm).2⟩
theorem Keep.same (x : Keep C H G A S) (s : Same H H') : Keep C H' G A S := ⟨x.at_.same s, x.sm.trans s, x.fr⟩
theorem Keep.add (x : Keep C H G A S) (e : H p = some o) (n : p ∉ stF A S) : Keep C H (upd G p o) A S :=
  ⟨x.at_, fun b w h => by
    by_cases q : b = p
    · subst q
      rw [upd_same] at h
      cases h
      exact e
    · rw [upd_ne q] at h
      exact x.sm b w h, fun b hb => by
    rw [upd_ne (show b ≠ p from fun q => n (q ▸ hb))]
    exact x.fr b hb⟩
/-- a new object -/
theorem Keep.new (x : Keep C H G A S) (s : Same H H') (h : H p = none) (e : H' p = some o) : Keep C H' (upd G p o) A S :=
  (x.same s).add e (x.at_.fresh h)
theorem Keep.free (x : Keep C H G A S) (h : H p = none) : G p = none := x.sm.free h
/-- an object of the part is written -/
theorem Keep.own (x : Keep C H G A S) (e : G p = some u) (pu : Plain u) : Keep C (upd H p o) (upd G p o) A S := by
  have n : p ∉ stF A S := fun q => by rw [x.fr p q] at e; cases e
  exact ⟨x.at_.oth (x.sm _ _ e) pu n, same_both x.sm, fun b hb => by rw [upd_ne (show b ≠ p from fun q => n (q ▸ hb))]; exact x.fr b hb⟩
end keep
theorem msk_out {F : List Addr} {H : Hp} {b : Addr} {o : HO} (h : msk F H b = some o) : b ∉ F ∧ H b = some o := by
  unfold msk at h
  split at h
  · cases h
  · rename_i n
    exact ⟨n, h⟩
theorem msk_mono {F : List Addr} {H H' : Hp} (s : Same H H') : Same (msk F H) (msk F H') := fun b o h => by
  obtain ⟨n, e⟩ := msk_out h
  exact msk_at (s _ _ e) n
theorem msk_skip {F : List Addr} {H : Hp} {b : Addr} {o : HO} (h : b ∈ F) : msk F (upd H b o) = msk F H := funext fun c => by
  unfold msk
  split
  · rfl
  · rename_i n
    rw [upd_ne (show c ≠ b from fun q => n (q ▸ h))]
theorem msk_less {F : List Addr} {H : Hp} {b : Addr} : Same (msk (b :: F) H) (msk F H) := fun c o h => by
  obtain ⟨n, e⟩ := msk_out h
  exact msk_at e fun q => n (List.mem_cons_of_mem _ q)
theorem ContAt.snoc {G : Hp} {vs : List V} {cs : List (Nat × List Int)} {k : Nat} {ws : List Int} {t p : Addr} (x : ContAt G vs cs) (e1 : G t = some (.tup [.int (k : Nat), .ref p])) (e2 : G p = some (.lst (ws.map V.int))) (l : ws.length = 32) : ContAt G (vs ++ [.ref t]) (cs ++ [(k, ws)]) := by
  refine ⟨by rw [List.length_append, List.length_append, x.1]; rfl, fun i w h => ?_⟩
  rcases Nat.lt_or_ge i vs.length with q | q
  · rw [List.getElem?_append_left q] at h
    obtain ⟨k', ws', t', p', e', z⟩ := x.2 i w h
    exact ⟨k', ws', t', p', by rw [List.getElem?_append_left (by rw [← x.1]; exact q)]; exact e', z⟩
  · rw [List.getElem?_append_right q] at h
    have hi : i - vs.length = 0 := by
      have := (List.getElem?_eq_some_iff.mp h).1
      simp at this
      omega
    rw [hi] at h
    cases h
    exact ⟨k, ws, t, p, by rw [List.getElem?_append_right (by rw [← x.1]; exact q), ← x.1, hi]; rfl, rfl, e1, e2, l⟩
theorem ContAt.nil {G : Hp} : ContAt G [] [] := ⟨rfl, fun i v h => by simp at h⟩
section mskst
variable {C : Ex} {H H' G : Hp} {A : SA} {S : StS}
theorem StAt.mskRow (x : StAt C H A S) (l : S.sp.nums.length ≠ 8) {v : V} {r : List Int} (y : RowAt H v r) : RowAt (msk (stF A S) H) v r := by
  obtain ⟨l8, p, rfl, e⟩ := y
  refine ⟨l8, p, rfl, msk_at e fun h => ?_⟩
  obtain ⟨o, ho, po⟩ := x.plain l p h
  rw [e] at ho
  exact po.1 r l8 (Option.some.inj ho)
theorem StAt.mskTup (x : StAt C H A S) (l : S.sp.nums.length ≠ 8) {t : Addr} {xs : List V} (e : H t = some (.tup xs)) : msk (stF A S) H t = some (.tup xs) := msk_at e fun h => by
  obtain ⟨o, ho, po⟩ := x.plain l t h
  rw [e] at ho
  exact po.2 xs (Option.some.inj ho).symm
/-- an object that is new since the store stood -/
theorem StAt.mskNew (x : StAt C H A S) {p : Addr} {o : HO} (h : H p = none) (e : H' p = some o) : msk (stF A S) H' p = some o := msk_at e (x.fresh h)
theorem Keep.all (x : Keep C H G A S) : Keep C H (msk (stF A S) H) A S := ⟨x.at_, msk_same, fun _ hb => msk_none hb⟩
end mskst
structure LayS (C : Ex) (H H' : Hp) (d a w n pn : Addr) (D : DiskS) (ns : List Int) (m : Nat) (g e : Int) (i : Nat) : Prop where
  sm : Same H H'
  fS : ∀ b ∈ dkF d a w n, H b = none
  np : H pn = none
  dk : DiskAt C H' d a w n D
  on : DskOn D 96 m
  sz : D.secs.length = 384
  hp : H' pn = some (.lst (ns.map V.int))
  out : pn ∉ dkF d a w n
  ln : ns.length = 96
  nn : ∀ z ∈ ns, 0 ≤ z
  l5 : ∀ j : Nat, j < 5 → ns.getD j 0 = 1
  hi : ∀ j : Nat, 30 ≤ j → ns.getD j 0 = 0
  log : ∀ t : Int, 4 ≤ t → t < 20 → rw8 (rdS D t) 7 < g
  oth : rw8 (rdS D (1 - g % 2)) 7 < g
  ct : ∀ k : Int, 5 ≤ k → k < 5 + (i : Int) → rdB4 D k 4 = blkF k e
theorem rdB4_push {D : DiskS} {s k : Int} {r : List Int} (h : s < 4 * k ∨ 4 * k + 4 ≤ s) : rdB4 (pushW D s r) k 4 = rdB4 D k 4 := by
  unfold rdB4
  refine fm_congr fun p hp => ?_
  have hp := List.mem_range.mp hp
  rw [rd_push, if_neg (by omega)]
section lay
variable {C : Ex} {H H1 H2 : Hp} {d a w n pn : Addr} {D : DiskS} {ns : List Int} {m i : Nat} {g e : Int}
theorem LayS.same (x : LayS C H H1 d a w n pn D ns m g e i) (s : Same H1 H2) : LayS C H H2 d a w n pn D ns m g e i :=
  ⟨x.sm.trans s, x.fS, x.np, x.dk.same s, x.on, x.sz, s _ _ x.hp, x.out, x.ln, x.nn, x.l5, x.hi, x.log, x.oth, x.ct⟩
theorem LayS.num {k : Nat} {y : Int} (x : LayS C H H1 d a w n pn D ns m g e i) (h5 : 5 ≤ k) (h30 : k < 30) (y0 : 0 ≤ y) : LayS C H (upd H1 pn (.lst ((ns.map V.int).set k (.int y)))) d a w n pn D (ns.set k y) m g e i := by
  have ln := x.ln
  have em : (ns.map V.int).set k (.int y) = (ns.set k y).map V.int := by rw [List.map_set]
  rw [em]
  refine ⟨same_upd x.sm x.np, x.fS, x.np, x.dk.other x.hp (by omega) (by omega) x.out, x.on, x.sz, upd_same, x.out, by rw [List.length_set]; exact ln, fun z hz => ?_, fun j hj => ?_, fun j hj => ?_, x.log, x.oth, x.ct⟩
  · rcases List.mem_or_eq_of_mem_set hz with h | h
    · exact x.nn z h
    · rw [h]; exact y0
  · rw [getD_set (by omega), if_neg (by omega)]
    exact x.l5 j hj
  · rw [getD_set (by omega), if_neg (by omega)]
    exact x.hi j hj
theorem LayS.wrote {w' n' : Addr} {D' : DiskS} {m' i' : Nat} (x : LayS C H H1 d a w n pn D ns m g e i) (hD : DiskAt C H2 d a w' n' D') (st : Stp (dkF d a w n) H1 (dkF d a w' n') H2) (on : DskOn D' 96 m') (sz : D'.secs.length = 384)
    (log : ∀ t : Int, 4 ≤ t → t < 20 → rw8 (rdS D' t) 7 < g) (oth : rw8 (rdS D' (1 - g % 2)) 7 < g) (ct : ∀ k : Int, 5 ≤ k → k < 5 + (i' : Int) → rdB4 D' k 4 = blkF k e) : LayS C H H2 d a w' n' pn D' ns m' g e i' :=
  ⟨(st.toSame x.fS x.sm).1, (st.toSame x.fS x.sm).2, x.np, hD, on, sz, (st.keep x.hp x.out).1, (st.keep x.hp x.out).2, x.ln, x.nn, x.l5, x.hi, log, oth, ct⟩
theorem LayS.mono {m' : Nat} (x : LayS C H H1 d a w n pn D ns m g e i) (h : m ≤ m') : LayS C H H1 d a w n pn D ns m' g e i :=
  ⟨x.sm, x.fS, x.np, x.dk, x.on.mono h, x.sz, x.hp, x.out, x.ln, x.nn, x.l5, x.hi, x.log, x.oth, x.ct⟩
theorem LayS.put {k : Int} (x : LayS C H H1 d a w n pn D ns m g e i) (hm : m < 90000) (h5 : k = 5 + (i : Int)) (h9 : k < 96) (hD : DiskAt C H2 d a w n (putB D k (blkF k e) 4)) (st : Stp (dkF d a w n) H1 (dkF d a w n) H2) : LayS C H H2 d a w n pn (putB D k (blkF k e) 4) ns (m + 4) g e (i + 1) := by
  have sz := x.sz
  have b := blkF_blk k e
  have lo : ∀ t : Int, 0 ≤ t → t < 20 → rdS (putB D k (blkF k e) 4) t = rdS D t := fun t t0 t1 => by
    obtain ⟨j, p, hp, rfl⟩ : ∃ (j : Int) (p : Nat), p < 4 ∧ t = 4 * j + (p : Int) := ⟨t / 4, (t % 4).toNat, by omega, by omega⟩
    rw [putB_rd hp 4 (Nat.le_refl 4), if_neg (by omega)]
  refine x.wrote hD st (putB_on x.on (by omega) (by omega) b.1 (by omega) 4 (Nat.le_refl 4)) (by rw [putB_secs]; exact sz) (fun t t0 t1 => by rw [lo t (by omega) t1]; exact x.log _ t0 t1) (by rw [lo _ (by omega) (by omega)]; exact x.oth) fun j j0 j1 => ?_
  rw [rdB4_put b.1]
  split
  · rename_i q
    rw [q]
  · exact x.ct j j0 (by omega)
theorem LayS.push {s : Int} {r : List Int} (x : LayS C H H1 d a w n pn D ns m g e i) (hm : m < 90000) (h0 : 0 ≤ s) (h1 : s < 20) (l8 : r.length = 8) (hr : 4 ≤ s → rw8 r 7 < g) (ho : s = 1 - g % 2 → rw8 r 7 < g) (hD : DiskAt C H2 d a w n (pushW D s r)) (st : Stp (dkF d a w n) H1 (dkF d a w n) H2) : LayS C H H2 d a w n pn (pushW D s r) ns (m + 1) g e i := by
  have sz := x.sz
  refine x.wrote hD st (x.on.push (by omega) h0 (by omega) l8) sz (fun t t0 t1 => ?_) ?_ fun j j0 j1 => ?_
  · rw [rd_push]
    split
    · rename_i e
      exact hr (e ▸ t0)
    · exact x.log t t0 t1
  · rw [rd_push]
    split
    · rename_i e
      exact ho e.symm
    · exact x.oth
  · rw [rdB4_push (by omega)]
    exact x.ct j j0 j1
end lay
/-- the store as the law laid it out -/
structure LaidS (S : StS) (g : Int) (t : Addr) (e : Int) : Prop where
  ln : S.sp.nums.length = 96
  fr : 66 ≤ (freeL S.sp.nums S.sp.held).length
  kv : S.kvs = []
  on : DskOn S.dk 96 0
  wr : S.dk.wr = []
  gn : S.gen = g
  ht : S.ht = .ref t
  tab : S.tab = .ref t
  res : S.res = 0
  log : ∀ j : Nat, j < 16 → rw8 (rdS S.dk (4 + (j : Int))) 7 < g
  l5 : ∀ j : Nat, j < 5 → S.sp.nums.getD j 0 = 1
  held : S.sp.held = posL S.sp.nums
  hi : ∀ j : Nat, 30 ≤ j → S.sp.nums.getD j 0 = 0
  hd : rdS S.dk (g % 2) = headW g 5 1 96
  oth : rw8 (rdS S.dk (1 - g % 2)) 7 < g
  ct : ∀ k : Int, 5 ≤ k → k < 30 → rdB4 S.dk k 4 = blkF k e
theorem posL_getD0 {ns : List Int} {k : Nat} (h : ns.getD k 0 = 0) : (posL ns).getD k false = false := by
  rw [posL_get, h]
  rfl
/-- zeros behind a place are free -/
theorem free_hi {ns : List Int} (h : ∀ j : Nat, 30 ≤ j → ns.getD j 0 = 0) (l : ns.length = 96) : 66 ≤ (freeL ns (posL ns)).length := by
  have e : (List.range 96) = List.range 30 ++ (List.range 66).map fun i => 30 + i := by decide
  unfold freeL
  rw [l, e, List.filter_append, List.length_append]
  have z : ((List.range 66).map fun i => 30 + i).filter (isFr ns (posL ns)) = (List.range 66).map fun i => 30 + i := List.filter_eq_self.mpr fun j hj => by
    obtain ⟨i, _, rfl⟩ := List.mem_map.mp hj
    have q := h (30 + i) (by omega)
    unfold isFr
    rw [q, posL_getD0 q]
    rfl
  rw [z, List.length_map, List.length_range]
  omega
def sp__law_store (K : PySem.W.Frag) (C : Ex) : Sp := S2 fun x c H Q _ => ∃ (q : Addr) (ts : List Int) (g : Int), x = .ref q ∧ c = .int g ∧ H q = some (.lst (ts.map V.int)) ∧ TapeOk ts ∧ 1 ≤ g ∧ g < 2 ^ 190 ∧
  ∀ H' G A S t, Keep C H' G A S → Same H G → StOk S → LaidS S g t (ts.getD 1 0) → G t = some (.tup [.int 5, .int 1]) → Q (.ref A.st) H'
def t__law_store (K : PySem.W.Frag) (C : Ex) (E : XK) : TS :=
  tSeq (tAsg (uMake C.Disk (sp_Disk___init__ K C) (WB E) (tCons (tC (.int 96)) (tNil))) (gName 2))
  (tSeq (tAsg (tOp (uAdd K) (tOp (uMul) (tLst (tCons (tC (.int 1)) (tNil))) (tC (.int 5))) (tOp (uMul) (tLst (tCons (tC (.int 0)) (tNil))) (tC (.int 91)))) (gName 3))
  (tSeq (tFor (iRng2 (tCons (tC (.int 5)) (tCons (tC (.int 30)) (tNil)))) (gName 4)
  (tSeq (tAsg (tOp (uIx K) (tLst (tCons (tC (.int 0)) (tCons (tC (.int 1)) (tCons (tC (.int 2)) (tCons (tC (.int 1)) (tNil)))))) (tOp (uMod) (tOp (uAdd K) (uCall (sp__law_at K C) (WB E) (tCons (tVar 0) (tCons (tOp (uAdd K) (tC (.int 1)) (tOp (uMod) (tVar 4) (tC (.int 5)))) (tNil)))) (tVar 4)) (tC (.int 4)))) (gSub (tVar 3) (tVar 4) uSet))
  (tDrop (uCall (sp__law_put_block K C) (WB E) (tCons (tVar 2) (tCons (tVar 4) (tCons (uCall (sp__law_block K C) (WB E) (tCons (tVar 4) (tCons (uCall (sp__law_at K C) (WB E) (tCons (tVar 0) (tCons (tC (.int 1)) (tNil)))) (tNil)))) (tNil))))))))
  (tSeq (tAsg (tC (.int 1)) (gSub (tVar 3) (tC (.int 5)) uSet))
  (tSeq (tAsg (tOp (uMod) (uCall (sp__law_at K C) (WB E) (tCons (tVar 0) (tCons (tC (.int 2)) (tNil)))) (tC (.int 4))) (gName 5))
  (tSeq (tAsg (tLst (tCons (tVar 1) (tCons (tC (.int 5)) (tCons (tC (.int 1)) (tCons (tC (.int 4)) (tCons (tC (.int 96)) (tCons (tC (.int 0)) (tCons (tC (.int 0)) (tCons (tVar 1) (tNil)))))))))) (gName 6))
  (tSeq (tDrop (uMeth C.Disk "write" (sp_Disk_write K C) (WB E) (tVar 2) (tCons (tOp (uMod) (tVar 1) (tC (.int 2))) (tCons (tVar 6) (tNil)))))
  (tCut (tIfS (tAnd (tTest (tOp (uGt) (tVar 5) (tC (.int 0)))) (tTest (tOp (uGt) (tVar 1) (tC (.int 2))))) (tDrop (uMeth C.Disk "write" (sp_Disk_write K C) (WB E) (tVar 2) (tCons (tOp (uSub) (tC (.int 1)) (tOp (uMod) (tVar 1) (tC (.int 2)))) (tCons (tLst (tCons (tOp (uSub) (tVar 1) (tOp (uMod) (tVar 5) (tC (.int 2)))) (tCons (tC (.int 5)) (tCons (tC (.int 1)) (tCons (tC (.int 4)) (tCons (tC (.int 96)) (tCons (tC (.int 0)) (tCons (tC (.int 0)) (tCons (tOp (uSub) (tOp (uSub) (tVar 1) (tC (.int 1))) (tOp (uDiv) (tVar 5) (tC (.int 2)))) (tNil)))))))))) (tNil))))) (tNext))
  (tSeq (tFor (iRng1 (tCons (tOp (uMod) (uCall (sp__law_at K C) (WB E) (tCons (tVar 0) (tCons (tC (.int 3)) (tNil)))) (tC (.int 4))) (tNil))) (gName 7)
  (tDrop (uMeth C.Disk "write" (sp_Disk_write K C) (WB E) (tVar 2) (tCons (tOp (uAdd K) (tC (.int 4)) (tOp (uMul) (tVar 7) (tC (.int 5)))) (tCons (tLst (tCons (tVar 7) (tCons (tC (.int 1)) (tCons (tC (.int 1)) (tCons (tC (.int 1)) (tCons (tC (.int 1)) (tCons (tC (.int 1)) (tCons (tC (.int 1)) (tCons (tCB (uMax K) (tCons (tC (.int 0)) (tCons (tOp (uSub) (tOp (uSub) (tVar 1) (tC (.int 1))) (tVar 7)) (tNil)))) (tNil)))))))))) (tNil))))))
  (tSeq (tDrop (uMeth C.Disk "flush" (sp_Disk_flush K C) (WB E) (tVar 2) (tNil)))
  (tSeq (tAsg (uMake C.Store (sp_Store___init__ K C) (WB E) (tCons (tVar 2) (tCons (uMake C.Head (sp_Head___init__ K C) (WB E) (tCons (tVar 1) (tCons (tTup (tCons (tC (.int 5)) (tCons (tC (.int 1)) (tNil)))) (tCons (tC (.int 96)) (tNil))))) (tCons (uMake C.Space (sp_Space___init__ K C) (WB E) (tCons (tVar 3) (tNil))) (tNil))))) (gName 8))
  (tSeq (tDrop (uMeth C.Store "use_reserve" (sp_Store_use_reserve K C) (WB E) (tVar 8) (tCons (tC (.int 0)) (tNil))))
  (tRet (tVar 8)))))))))))))
theorem pure__law_store {K : PySem.W.Frag} {C : Ex} {vs : List V} {H : Hp} {Q : VK} {E : XK} (F : Fa K C) (h : sp__law_store K C vs H Q E) : t__law_store K C E { nx := fun _ H' => Q .non H', rt := Q } (start ["_law_tape_here", "_law_generation", "_law_disk", "_law_numbers", "_law_number", "_law_other", "_law_head", "_law_k", "_law_store_here"] vs) H := by
  obtain ⟨x, c, rfl, q, ts, g, rfl, rfl, hq, hT, g0, g1, k⟩ := h
  have hlt := hT.2
  have t1 := hT.at 1
  have t2 := hT.at 2
  have t3 := hT.at 3
  unfold t__law_store
  walk_at "run1"
  intro d dx hd hdx hne
  refine w_S2 ⟨d, dx, rfl, upd_same, trivial, fun z ez _ _ H1 a w n fr fa fw fn hD => ⟨rfl, ?_⟩, fun h => by cases h⟩
  cases ez
  have sB : Same H H1 := fun b o h => fr b o (by rw [upd_ne (ne_of_none h hd), upd_ne (ne_of_none h hdx)]; exact h) (ne_of_none h hd)
  have fS : ∀ b ∈ dkF d a w n, H b = none := by
    have f1 : ∀ b, upd (upd H dx (.own d)) d (.ins C.Disk dx []) b = none → H b = none := fun b h => (none_of_upd (none_of_upd h).1).1
    intro b hb
    simp only [dkF, List.mem_cons, List.not_mem_nil, or_false] at hb
    rcases hb with rfl | rfl | rfl | rfl
    · exact hd
    · exact f1 _ fa
    · exact f1 _ fw
    · exact f1 _ fn
  clear fr fa fw fn
  have on := newD_on (z := 96) (by omega)
  walk_at "run1"
  rename_i l1 hl1 l2 hl2 l3 hl3 l4 hl4
  have s1 := same_updN (o := .lst ((List.replicate (Int.toNat 91) (0 : Int)).map V.int)) (same_updN (o := .lst [.int 0]) (same_updN (o := .lst ((List.replicate (Int.toNat 5) (1 : Int)).map V.int)) (same_new (o := .lst [.int 1]) hl1) hl2) hl3) hl4
  have e2 := upd_old (o := .lst ((List.replicate (Int.toNat 91) (0 : Int)).map V.int)) (upd_old (o := .lst [.int 0]) (upd_same (H := upd H1 l1 (.lst [.int 1])) (a := l2) (o := .lst ((List.replicate (Int.toNat 5) (1 : Int)).map V.int))) hl3) hl4
  refine w_cat e2 upd_same (by simp only [List.length_map, List.length_replicate]; decide) fun pn hpn => ?_
  have sB2 := sB.trans s1
  have hD2 := hD.same s1
  generalize upd (upd (upd (upd H1 l1 _) l2 _) l3 _) l4 _ = H2 at *
  rw [← List.map_append]
  have X0 : LayS C H (upd H2 pn (.lst ((List.replicate (Int.toNat 5) (1 : Int) ++ List.replicate (Int.toNat 91) (0 : Int)).map V.int))) d a w n pn (newD 96) (List.replicate (Int.toNat 5) (1 : Int) ++ List.replicate (Int.toNat 91) (0 : Int)) (4 * 0) g (ts.getD 1 0) 0 := by
    refine ⟨same_updN sB2 hpn, fS, sB2.free hpn, hD2.same (same_new hpn), on, rfl, upd_same, hD2.fresh hpn, rfl, fun z hz => ?_, fun j hj => ?_, fun j hj => ?_, fun t t0 t1 => ?_, ?_, fun k k0 k1 => by omega⟩
    · rcases List.mem_append.mp hz with h | h <;> (rw [List.eq_of_mem_replicate h]; decide)
    · match j, hj with
      | 0, _ => rfl
      | 1, _ => rfl
      | 2, _ => rfl
      | 3, _ => rfl
      | 4, _ => rfl
    · rw [List.getD_eq_getElem?_getD, List.getElem?_append_right (by rw [List.length_replicate]; show 5 ≤ j; omega), List.getElem?_replicate]
      split <;> rfl
    · rw [rd_new (by omega) (by omega)]
      show (0 : Int) < g
      omega
    · rw [rd_new (by omega) (by omega)]
      show (0 : Int) < g
      omega
  generalize upd H2 pn _ = H3 at *
  clear sB2 hD2 e2 s1 hD hpn hl1 hl2 hl3 hl4 sB fS on
  walk_at "run1"
  refine f_range (fun i σ H' => ∃ (D : DiskS) (ns : List Int) (v4 : Option V), σ = [some (.ref q), some (.int g), some (.ref d), some (.ref pn), v4, none, none, none, none] ∧ LayS C H H' d a w n pn D ns (4 * i) g (ts.getD 1 0) i) ⟨_, _, none, rfl, X0⟩ ?_ ?_
  · rintro i σ H4 hi ⟨D, ns, v4, rfl, X⟩
    have hi : i < 25 := hi
    have hq4 := X.sm _ _ hq
    have tk := hT.at (1 + (5 + (i : Int)) % 5).toNat
    walk_at "run1"
    rename_i l4 hl4
    refine w_ixA (SqL.of upd_same) ⟨by omega, by show _ < 4; omega⟩ fun v hv => ?_
    have hy : ∃ y : Int, v = .int y ∧ 0 ≤ y := by
      have hm := List.mem_of_getElem? hv
      simp only [List.mem_cons, List.not_mem_nil, or_false] at hm
      rcases hm with h | h | h | h <;> exact ⟨_, h, by decide⟩
    obtain ⟨y, rfl, y0⟩ := hy
    have X1 := X.same (same_new (o := .lst [.int 0, .int 1, .int 2, .int 1]) hl4)
    generalize upd H4 l4 _ = H5 at *
    have hn5 := X1.hp
    have ln := X1.ln
    walk_at "run1"
    refine w_setL hn5 ⟨by omega, by rw [List.length_map]; omega⟩ ?_
    have e5 : (5 + (i : Int)).toNat = 5 + i := by omega
    rw [e5]
    have X2 := X1.num (k := 5 + i) (y := y) (by omega) (by omega) y0
    generalize upd H5 pn _ = H6 at *
    have hq6 := X2.sm _ _ hq
    walk_at "run1"
    refine w_S2 ⟨_, _, rfl, rfl, by omega, t1, fun l hl H7 s7 e7 => ?_⟩
    have X3 := X2.same s7
    have nl := X2.dk.fresh hl
    have sz := X3.sz
    walk_at "run1"
    refine w_S3 ⟨d, a, w, n, l, D, 5 + (i : Int), 4 * i, 96, blkF (5 + (i : Int)) (ts.getD 1 0), rfl, rfl, rfl, X3.dk, X3.on, by omega, by omega, by omega, e7, blkF_blk _ _, nl, fun H8 hD8 st8 => ?_⟩
    walk_at "run1"
    have X4 := X3.put (by omega) rfl (by omega) hD8 st8
    exact ⟨_, _, _, rfl, by rw [show 4 * (i + 1) = 4 * i + 4 by omega]; exact X4⟩
  · rintro σ H4 ⟨D, ns, v4, rfl, X⟩
    have hn4 := X.hp
    have ln := X.ln
    walk_at "run1"
    refine w_setL hn4 ⟨by omega, by rw [List.length_map]; omega⟩ ?_
    have X1 := (X.num (k := 5) (y := 1) (by omega) (by omega) (by decide)).mono (m' := 100) (by decide)
    rw [show (5 : Int).toNat = 5 from rfl]
    generalize upd H4 pn _ = H5 at *
    clear X hn4 X0
    have hq5 := X1.sm _ _ hq
    walk_at "run1"
    rename_i ph hph
    have X2 := X1.same (same_new (o := .lst [.int g, .int 5, .int 1, .int 4, .int 96, .int 0, .int 0, .int g]) hph)
    have eph : upd H5 ph (.lst [.int g, .int 5, .int 1, .int 4, .int 96, .int 0, .int 0, .int g]) ph = some (.lst ([g, 5, 1, 4, 96, 0, 0, g].map V.int)) := upd_same
    generalize upd H5 ph _ = H6 at *
    obtain ⟨ddx, id⟩ := X2.dk.ins
    unfold dkO at id
    have sz := X2.sz
    walk_at "run1"
    refine w_write X2.dk X2.on (by omega) (by omega) (by omega) (SqL.of eph) rfl (fun z hz => by simp only [List.mem_cons, List.not_mem_nil, or_false] at hz; omega) fun H7 hD7 st7 => ?_
    have X3 := X2.push (by omega) (by omega) (by omega) rfl (fun h => by omega) (fun h => by omega) hD7 st7
    have hd3 : rdS (pushW D (g % 2) [g, 5, 1, 4, 96, 0, 0, g]) (g % 2) = headW g 5 1 96 := by rw [rd_push, if_pos rfl]; rfl
    clear id hq5 X1 eph
    walk_at "run1"
    refine w_cut (fun σ H' => ∃ (D : DiskS), σ = [some (.ref q), some (.int g), some (.ref d), some (.ref pn), v4, some (.int (ts.getD (Int.toNat 2) 0 % 4)), some (.ref ph), none, none] ∧ LayS C H H' d a w n pn D (ns.set 5 1) 110 g (ts.getD 1 0) 25 ∧ rdS D (g % 2) = headW g 5 1 96) ?_ ?_
    · obtain ⟨ddx, id⟩ := X3.dk.ins
      unfold dkO at id
      have sz3 := X3.sz
      walk_at "run1"
      · rename_i h1 h2 pr hpr
        have epr : upd H7 pr (.lst [.int (g - ts.getD (Int.toNat 2) 0 % 4 % 2), .int 5, .int 1, .int 4, .int 96, .int 0, .int 0, .int (g - 1 - ts.getD (Int.toNat 2) 0 % 4 / 2)]) pr = some (.lst ([g - ts.getD (Int.toNat 2) 0 % 4 % 2, 5, 1, 4, 96, 0, 0, g - 1 - ts.getD (Int.toNat 2) 0 % 4 / 2].map V.int)) := upd_same
        refine w_write (X3.dk.same (same_new hpr)) X3.on (by omega) (by omega) (by omega) (SqL.of epr) rfl (fun z hz => by simp only [List.mem_cons, List.not_mem_nil, or_false] at hz; omega) fun H8 hD8 st8 => ?_
        have X4 := (X3.same (same_new hpr)).push (by omega) (by omega) (by omega) rfl (fun h => by omega) (fun h => by show g - 1 - ts.getD (Int.toNat 2) 0 % 4 / 2 < g; omega) hD8 st8
        walk_at "run1"
        exact ⟨_, rfl, X4.mono (by omega), by rw [rd_push, if_neg (by omega)]; exact hd3⟩
      all_goals
        walk_at "run1"
        exact ⟨_, rfl, X3.mono (by omega), hd3⟩
    · rintro σ H8 ⟨D, rfl, X, hdr⟩
      have hq8 := X.sm _ _ hq
      walk_at "run1"
      refine f_range (fun i σ H' => ∃ (D : DiskS) (v7 : Option V), σ = [some (.ref q), some (.int g), some (.ref d), some (.ref pn), v4, some (.int (ts.getD (Int.toNat 2) 0 % 4)), some (.ref ph), v7, none] ∧ LayS C H H' d a w n pn D (ns.set 5 1) (110 + i) g (ts.getD 1 0) 25 ∧ rdS D (g % 2) = headW g 5 1 96) ⟨_, none, rfl, X, hdr⟩ ?_ ?_
      · clear X hq8 hdr
        rintro i σ H9 hi ⟨D, v7, rfl, X, hdr⟩
        have hi : i < 4 := by omega
        obtain ⟨ddx, id⟩ := X.dk.ins
        unfold dkO at id
        have sz := X.sz
        walk_at "run1"
        rename_i pr hpr
        generalize hz : (if g - 1 - (0 + (i : Int)) > 0 then g - 1 - (0 + (i : Int)) else 0) = z at *
        have z0 : 0 ≤ z := by rw [← hz]; split <;> omega
        have z1 : z < g := by rw [← hz]; split <;> omega
        have epr : upd H9 pr (.lst [.int (0 + (i : Int)), .int 1, .int 1, .int 1, .int 1, .int 1, .int 1, .int z]) pr = some (.lst ([0 + (i : Int), 1, 1, 1, 1, 1, 1, z].map V.int)) := upd_same
        refine w_write (X.dk.same (same_new hpr)) X.on (by omega) (by omega) (by omega) (SqL.of epr) rfl (fun z hz => by simp only [List.mem_cons, List.not_mem_nil, or_false] at hz; omega) fun H10 hD10 st10 => ?_
        have X4 := (X.same (same_new hpr)).push (r := [0 + (i : Int), 1, 1, 1, 1, 1, 1, z]) (by omega) (by omega) (by omega) rfl (fun _ => z1) (fun _ => z1) hD10 st10
        walk_at "run1"
        exact ⟨_, _, rfl, X4, by rw [rd_push, if_neg (by omega)]; exact hdr⟩
      · rintro σ H9 ⟨D, v7, rfl, X, hdr⟩
        obtain ⟨ddx, id⟩ := X.dk.ins
        unfold dkO at id
        have sz := X.sz
        walk_at "run1"
        refine w_flush X.dk X.on fun H10 w' n' hD10 st10 => ?_
        have on10 := X.on.flush
        have X5 := X.wrote (m' := 0) (i' := 25) hD10 st10 on10 (by show (flushS D.secs D.wr).length = 384; rw [flushS_len]; exact sz) (fun t t0 t1 => by rw [rd_flush X.on (by omega) (by omega)]; exact X.log t t0 t1) (by rw [rd_flush X.on (by omega) (by omega)]; exact X.oth) fun j j0 j1 => by rw [rdB4_flush X.on (by omega) (by omega)]; exact X.ct j j0 j1
        rw [← rd_flush X.on (by omega) (by omega)] at hdr
        clear id hD10 st10 on10 X
        generalize hE : flushD D = D2 at *
        have wr0 : D2.wr = [] := by rw [← hE]; rfl
        generalize ns.set 5 1 = ns1 at *
        have ln1 := X5.ln
        walk_at "run1"
        rename_i tb htb
        have X6 := X5.same (same_new (o := .tup [.int 5, .int 1]) htb)
        have etb : upd H10 tb (.tup [.int 5, .int 1]) tb = some (.tup [.int 5, .int 1]) := upd_same
        have ntb := X5.dk.fresh htb
        have htb0 := X5.sm.free htb
        generalize upd H10 tb _ = H11 at *
        intro hd dxh hhd hdxh hneh
        refine w_S4 ⟨hd, dxh, rfl, upd_same, fun H12 e12 f12 => ⟨rfl, ?_⟩⟩
        have s12 := same_made hhd hdxh f12
        have X7 := X6.same s12
        have hn12 := X7.hp
        have etb12 := s12 _ _ etb
        walk_at "run1"
        intro s dxs hs hdxs hnes
        refine w_S2 ⟨s, dxs, pn, ns1, rfl, rfl, upd_same, by rw [upd_ne (ne_of_none hn12 hs), upd_ne (ne_of_none hn12 hdxs)]; exact hn12, by omega, fun H13 sa sb hS13 f13 ha hb => ⟨rfl, ?_⟩⟩
        have s13 := same_made hs hdxs f13
        have ha9 := none_made ha
        have hb9 := none_made hb
        walk_at "run1"
        intro st dxt hst hdxt hnet
        have s13x : Same H13 (upd (upd H13 dxt (.own st)) st (.ins C.Store dxt [])) := same_updN (same_new hdxt) (by rw [upd_ne hnet.symm]; exact hst)
        have h12n : ∀ b ∈ spF s sa sb, H12 b = none := fun b hb => by
          simp only [spF, List.mem_cons, List.not_mem_nil, or_false] at hb
          rcases hb with rfl | rfl | rfl <;> assumption
        refine w_S4 ⟨st, dxt, hd, d, a, w', n', s, sa, sb, D2, ⟨ns1, posL ns1, 0⟩, g, .ref tb, .int 96, rfl, rfl, rfl, rfl, upd_same, ⟨dxh, s13x _ _ (s13 _ _ e12)⟩, (X7.dk.same s13).same s13x, hS13.same s13x,
          nodup_store hhd (dk_nodup X6.dk) (fun b hb q => X6.dk.fresh q hb) s12 (by rw [e12]; simp [hdO]) (sp_nodup hS13) h12n s13 (fun b hb q => hS13.fresh q hb) hst, fun H14 m hS14 f14 hm => ⟨rfl, ?_⟩⟩
        have s14 : Same H13 H14 := fun c u h => f14 c u (s13x _ _ h) (ne_of_none h hst)
        have s1114 := (s12.trans s13).trans s14
        have s1113 := s12.trans s13
        have nn : ∀ b, b ∈ stF ⟨st, m, hd, d, a, w', n', s, sa, sb⟩ (firstS ns1 D2 g (.ref tb)) → b ∈ dkF d a w' n' ∨ H11 b = none := fun b hb => by
          rcases List.mem_append.mp hb with hb | hb
          · simp only [SA.all, List.mem_cons, List.not_mem_nil, or_false] at hb
            rcases hb with rfl | rfl | rfl | rfl | rfl | rfl | rfl | rfl | rfl | rfl
            · exact .inr (s1113.free hst)
            · exact .inr (s1113.free (none_made hm))
            · exact .inr hhd
            · exact .inl (by simp [dkF])
            · exact .inl (by simp [dkF])
            · exact .inl (by simp [dkF])
            · exact .inl (by simp [dkF])
            · exact .inr (s12.free hs)
            · exact .inr (s12.free ha9)
            · exact .inr (s12.free hb9)
          · cases hb
        have Y : Keep C H14 (upd H tb (.tup [.int 5, .int 1])) ⟨st, m, hd, d, a, w', n', s, sa, sb⟩ (firstS ns1 D2 g (.ref tb)) := by
          refine Keep.add ⟨hS14, (X6.sm.trans s1114), fun b hb => ?_⟩ (s1114 _ _ etb) fun h => ?_
          · rcases nn b hb with h | h
            · exact X6.fS b h
            · exact X6.sm.free h
          · rcases nn tb h with h | h
            · exact ntb h
            · rw [etb] at h; cases h
        obtain ⟨dx14, i14⟩ := Y.at_.ins
        unfold stO at i14
        have i14 : H14 st = _ := i14
        walk_at "run1"
        refine w_S2 ⟨⟨st, m, hd, d, a, w', n', s, sa, sb⟩, firstS ns1 D2 g (.ref tb), 0, rfl, rfl, Y.at_, fun H15 hS15 st15 => ?_⟩
        have Z := Y.stp hS15 st15
        walk_at "run1"
        have ok := res_st (z := 0) (firstS_ok (g := g) (tb := .ref tb) (D := D2) ln1 X6.nn X6.l5) (by decide)
        exact k _ _ ⟨st, m, hd, d, a, w', n', s, sa, sb⟩ _ tb Z (same_new htb0) ok ⟨ln1, free_hi X6.hi ln1, rfl, X6.on, wr0, rfl, rfl, rfl, rfl, fun j hj => X6.log _ (by omega) (by omega), X6.l5, rfl, X6.hi, hdr, X6.oth, fun k k0 k1 => X6.ct k k0 k1⟩ upd_same
def PtsAt (G : Hp) (vs : List V) (ks : List Nat) (g : Int) : Prop := vs.length = ks.length ∧ ∀ (i : Nat) v, vs[i]? = some v → ∃ (k : Nat) (t : Addr), ks[i]? = some k ∧ v = .ref t ∧ G t = some (.tup [.int (k : Nat), .int g]) ∧ 5 ≤ k ∧ k < 96
section pts
variable {G G' : Hp} {vs : List V} {ks : List Nat} {g : Int}
theorem PtsAt.same (x : PtsAt G vs ks g) (s : Same G G') : PtsAt G' vs ks g := ⟨x.1, fun i v h => by
  obtain ⟨k, t, a, b, c, d⟩ := x.2 i v h
  exact ⟨k, t, a, b, s _ _ c, d⟩⟩
theorem PtsAt.ref (x : PtsAt G vs ks g) : AllRef vs := fun v hv => by
  obtain ⟨i, hi⟩ := List.getElem?_of_mem hv
  obtain ⟨_, t, _, e, _⟩ := x.2 i v hi
  exact ⟨t, e⟩
theorem PtsAt.nil : PtsAt G [] [] g := ⟨rfl, fun i v h => by simp at h⟩
theorem PtsAt.snoc {k : Nat} {t : Addr} (x : PtsAt G vs ks g) (e : G t = some (.tup [.int (k : Nat), .int g])) (h5 : 5 ≤ k) (h9 : k < 96) : PtsAt G (vs ++ [.ref t]) (ks ++ [k]) g := by
  refine ⟨by rw [List.length_append, List.length_append, x.1]; rfl, fun i w h => ?_⟩
  rcases Nat.lt_or_ge i vs.length with q | q
  · rw [List.getElem?_append_left q] at h
    obtain ⟨k', t', e', z⟩ := x.2 i w h
    exact ⟨k', t', by rw [List.getElem?_append_left (by rw [← x.1]; exact q)]; exact e', z⟩
  · rw [List.getElem?_append_right q] at h
    have hi : i - vs.length = 0 := by
      have := (List.getElem?_eq_some_iff.mp h).1
      simp at this
      omega
    rw [hi] at h
    cases h
    exact ⟨k, t, by rw [List.getElem?_append_right (by rw [← x.1]; exact q), ← x.1, hi]; rfl, rfl, e, h5, h9⟩
theorem PtsAt.upd {l : Addr} {us : List V} {o : HO} (x : PtsAt G vs ks g) (e : G l = some (.lst us)) : PtsAt (upd G l o) vs ks g := ⟨x.1, fun i v h => by
  obtain ⟨k, t, a, b, c, d⟩ := x.2 i v h
  exact ⟨k, t, a, b, by rw [upd_ne (ne_of c e fun z => nomatch z)]; exact c, d⟩⟩
theorem PtsAt.get (x : PtsAt G vs ks g) {i : Nat} (h : i < vs.length) : ∃ (k : Nat) (t : Addr), ks[i]? = some k ∧ vs[i]? = some (.ref t) ∧ G t = some (.tup [.int (k : Nat), .int g]) ∧ 5 ≤ k ∧ k < 96 := by
  obtain ⟨k, t, a, b, c⟩ := x.2 i _ (List.getElem?_eq_getElem h)
  exact ⟨k, t, a, by rw [← b, List.getElem?_eq_getElem h], c⟩
end pts
theorem free_le {ns ms : List Int} {hs : List Bool} (l : ns.length = ms.length) (h : ∀ i, isFr ns hs i = true → isFr ms hs i = true) : (freeL ns hs).length ≤ (freeL ms hs).length := by
  unfold freeL
  rw [l, ← List.countP_eq_length_filter, ← List.countP_eq_length_filter]
  exact List.countP_mono_left fun i _ => h i
theorem free_set {ns : List Int} {hs : List Bool} {k : Nat} {z : Int} (hk : k < ns.length) (h0 : ns.getD k 0 ≠ 0) : (freeL ns hs).length ≤ (freeL (ns.set k z) hs).length := by
  refine free_le (List.length_set ..).symm fun i hi => ?_
  unfold isFr at hi ⊢
  obtain ⟨a, b⟩ := Bool.and_eq_true_iff.mp hi
  have a := of_decide_eq_true a
  rw [getD_set hk, if_neg (show i ≠ k from fun q => h0 (q ▸ a)), decide_eq_true a, b]
  rfl
/-- a store that was worked on i times -/
structure WorkS (B S : StS) (i : Nat) : Prop where
  ok : StOk S
  dk : S.dk = B.dk
  gen : S.gen = B.gen
  ht : S.ht = B.ht
  hb : S.hb = B.hb
  tab : S.tab = B.tab
  res : S.res = 0
  ln : S.sp.nums.length = 96
  held : S.sp.held = B.sp.held
  kl : S.kvs.length ≤ i
  fr : 66 ≤ (freeL S.sp.nums S.sp.held).length + i
  l5 : ∀ j : Nat, j < 5 → S.sp.nums.getD j 0 = 1
section works
variable {B S : StS} {i k : Nat} {l : Addr} {ws : List Int}
theorem WorkS.mono (x : WorkS B S i) : WorkS B S (i + 1) := ⟨x.ok, x.dk, x.gen, x.ht, x.hb, x.tab, x.res, x.ln, x.held, Nat.le_succ_of_le x.kl, by have := x.fr; omega, x.l5⟩
theorem WorkS.make {t : List Nat} (x : WorkS B S i) (e : freeL S.sp.nums S.sp.held = k :: t) : WorkS B (putM (takeSt S k) k l ws) (i + 1) := by
  have kl := x.kl
  have fr := x.fr
  have ft := freeL_take (z := 1) e (by decide)
  refine ⟨make_st x.ok e, x.dk, x.gen, x.ht, x.hb, x.tab, x.res, ?_, x.held, ?_, ?_, fun j hj => ?_⟩
  · show (S.sp.nums.set k 1).length = 96
    rw [List.length_set]
    exact x.ln
  · have z := length_putK S.kvs (Sum.inl ((k : Nat) : Int)) (V.ref l)
    show (putK S.kvs (Sum.inl ((k : Nat) : Int)) (V.ref l)).length ≤ _
    omega
  · show 66 ≤ (freeL (S.sp.nums.set k 1) S.sp.held).length + (i + 1)
    rw [ft]
    rw [e, List.length_cons] at fr
    omega
  · obtain ⟨hk, hf, _⟩ := freeL_head e
    unfold isFr at hf
    have f1 := of_decide_eq_true (Bool.and_eq_true_iff.mp hf).1
    show (S.sp.nums.set k 1).getD j 0 = 1
    rw [getD_set hk]
    split
    · rfl
    · exact x.l5 j hj
theorem WorkS.write (x : WorkS B S i) (hk : k < S.sp.nums.length) (nb : newB S k = true) : WorkS B (putM S k l ws) (i + 1) := by
  have kl := x.kl
  have fr := x.fr
  refine ⟨write_st x.ok hk nb, x.dk, x.gen, x.ht, x.hb, x.tab, x.res, x.ln, x.held, ?_, ?_, x.l5⟩
  · have z := length_putK S.kvs (Sum.inl ((k : Nat) : Int)) (V.ref l)
    show (putK S.kvs (Sum.inl ((k : Nat) : Int)) (V.ref l)).length ≤ _
    omega
  · show 66 ≤ (freeL S.sp.nums S.sp.held).length + (i + 1)
    omega
theorem WorkS.share (x : WorkS B S i) (h5 : 5 ≤ k) (hk : k < S.sp.nums.length) (h0 : S.sp.nums.getD k 0 ≠ 0) : WorkS B { S with sp := shareS S.sp k } (i + 1) := by
  have kl := x.kl
  have fr := x.fr
  have z := free_set (hs := S.sp.held) (z := S.sp.nums.getD k 0 + 1) hk h0
  refine ⟨share_st x.ok h5 hk h0, x.dk, x.gen, x.ht, x.hb, x.tab, x.res, ?_, x.held, Nat.le_succ_of_le kl, ?_, fun j hj => by
    show (S.sp.nums.set k (S.sp.nums.getD k 0 + 1)).getD j 0 = 1
    rw [getD_set hk, if_neg (by omega)]
    exact x.l5 j hj⟩
  · show (S.sp.nums.set k (S.sp.nums.getD k 0 + 1)).length = 96
    rw [List.length_set]
    exact x.ln
  · show 66 ≤ (freeL (S.sp.nums.set k (S.sp.nums.getD k 0 + 1)) S.sp.held).length + (i + 1)
    omega
theorem drop_same (S : StS) (k : Nat) : (dropSt S k).dk = S.dk ∧ (dropSt S k).gen = S.gen ∧ (dropSt S k).ht = S.ht ∧ (dropSt S k).hb = S.hb ∧ (dropSt S k).tab = S.tab ∧ (dropSt S k).res = S.res ∧ (dropSt S k).sp.nums = S.sp.nums.set k (S.sp.nums.getD k 0 - 1) ∧ (dropSt S k).sp.held = S.sp.held ∧ (dropSt S k).kvs.length ≤ S.kvs.length := by
  unfold dropSt
  split
  · exact ⟨rfl, rfl, rfl, rfl, rfl, rfl, rfl, rfl, List.length_filter_le _ _⟩
  · exact ⟨rfl, rfl, rfl, rfl, rfl, rfl, rfl, rfl, Nat.le_refl _⟩
theorem WorkS.drop (x : WorkS B S i) (h5 : 5 ≤ k) (hk : k < S.sp.nums.length) (h0 : S.sp.nums.getD k 0 ≠ 0) : WorkS B (dropSt S k) (i + 1) := by
  have kl := x.kl
  have fr := x.fr
  obtain ⟨e1, e2, e3, e4, e5, e6, e7, e8, e9⟩ := drop_same S k
  have z := free_set (hs := S.sp.held) (z := S.sp.nums.getD k 0 - 1) hk h0
  refine ⟨drop_st x.ok h5 hk h0, e1.trans x.dk, e2.trans x.gen, e3.trans x.ht, e4.trans x.hb, e5.trans x.tab, e6.trans x.res, by rw [e7, List.length_set]; exact x.ln, e8.trans x.held, by omega, ?_, fun j hj => by rw [e7, getD_set hk, if_neg (by omega)]; exact x.l5 j hj⟩
  rw [e7, e8]
  omega
theorem notBad {z : Int} (h5 : 5 ≤ z) (h9 : z < S.sp.nums.length) (h0 : S.sp.nums.getD z.toNat 0 ≠ 0) : ¬ badB S.sp (.int z) := fun h => by
  rcases h with h | ⟨z', e, h⟩
  · rw [btw_int (by omega) (by omega)] at h; cases h
  · cases e
    rcases h with h | h
    · omega
    · exact h0 h
theorem WorkS.pos (x : WorkS B S i) (hi : i < 66) : S.res < (freeL S.sp.nums S.sp.held).length := by
  have := x.res
  have := x.fr
  omega
end works
theorem Keep.tup {C : Ex} {H G : Hp} {A : SA} {S : StS} {p : Addr} {xs : List V} (x : Keep C H G A S) (l : S.sp.nums.length ≠ 8) (e : H p = some (.tup xs)) : Keep C H (upd G p (.tup xs)) A S :=
  x.add e fun h => by
    obtain ⟨o, ho, po⟩ := x.at_.plain l p h
    rw [e] at ho
    cases ho
    exact po.2 _ rfl
def sp__law_work (K : PySem.W.Frag) (C : Ex) : Sp := S4 fun x c u v H Q _ => ∃ A S G B n0, ∃ (q : Addr) (ts : List Int) (st mn : Int), x = .ref A.st ∧ c = .ref q ∧ u = .int st ∧ v = .int mn ∧ Keep C H G A S ∧ WorkS B S n0 ∧ n0 ≤ 4 ∧ G q = some (.lst (ts.map V.int)) ∧ TapeOk ts ∧ (0 ≤ st ∧ st < 1000) ∧ (0 ≤ mn ∧ mn ≤ 60) ∧
  ∀ H' G' S' l vs ks, Keep C H' G' A S' → Same G G' → WorkS B S' (n0 + 60) → G' l = some (.lst vs) → PtsAt G' vs ks (B.gen + 1) → vs.length ≤ 60 → Q (.ref l) H'
def t__law_work (K : PySem.W.Frag) (C : Ex) (E : XK) : TS :=
  tSeq (tAsg (tLst (tNil)) (gName 4))
  (tSeq (tFor (iRng1 (tCons (tVar 3) (tNil))) (gName 5)
  (tSeq (tAsg (uCall (sp__law_at K C) (WB E) (tCons (tVar 1) (tCons (tOp (uAdd K) (tVar 2) (tOp (uMul) (tC (.int 2)) (tVar 5))) (tNil)))) (gName 6))
  (tSeq (tAsg (uCall (sp__law_at K C) (WB E) (tCons (tVar 1) (tCons (tOp (uAdd K) (tOp (uAdd K) (tVar 2) (tOp (uMul) (tC (.int 2)) (tVar 5))) (tC (.int 1))) (tNil)))) (gName 7))
  (tIfS (tOr (tTest (tOp (uLt K) (tOp (uMod) (tVar 6) (tC (.int 5))) (tC (.int 2)))) (tTest (tOp (uEq K) (tCB (uLen K) (tCons (tVar 4) (tNil))) (tC (.int 0))))) (tDrop (tBM K "list" (rAppend) (tVar 4) (tCons (uMeth C.Store "make" (sp_Store_make K C) (WB E) (tVar 0) (tCons (uCall (sp__law_block K C) (WB E) (tCons (tVar 6) (tCons (tVar 7) (tNil)))) (tNil))) (tNil)))) (tIfS (tTest (tOp (uEq K) (tOp (uMod) (tVar 6) (tC (.int 5))) (tC (.int 2)))) (tSeq (tAsg (tOp (uIx K) (tVar 4) (tOp (uMod) (tVar 7) (tCB (uLen K) (tCons (tVar 4) (tNil))))) (gName 8))
  (tIfS (uTru K (uMeth C.Store "is_new" (sp_Store_is_new K C) (WB E) (tVar 0) (tCons (tVar 8) (tNil)))) (tDrop (uMeth C.Store "write" (sp_Store_write K C) (WB E) (tVar 0) (tCons (tVar 8) (tCons (uCall (sp__law_block K C) (WB E) (tCons (tVar 6) (tCons (tVar 7) (tNil)))) (tNil))))) (tNext))) (tIfS (tTest (tOp (uEq K) (tOp (uMod) (tVar 6) (tC (.int 5))) (tC (.int 3)))) (tSeq (tAsg (tTup (tCons (tOp (uAdd K) (tC (.int 5)) (tOp (uMod) (tVar 7) (tC (.int 25)))) (tCons (tC (.int 1)) (tNil)))) (gName 8))
  (tIfS (tAnd (tTest (tOp (uGt) (uMeth C.Store "uses" (sp_Store_uses K C) (WB E) (tVar 0) (tCons (tVar 8) (tNil))) (tC (.int 0)))) (tTest (tOp (uGt) (tOp (uIx K) (tVar 8) (tC (.int 0))) (tC (.int 5))))) (tDrop (uMeth C.Store "drop" (sp_Store_drop K C) (WB E) (tVar 0) (tCons (tVar 8) (tNil)))) (tNext))) (tSeq (tAsg (tOp (uIx K) (tVar 4) (tOp (uMod) (tVar 7) (tCB (uLen K) (tCons (tVar 4) (tNil))))) (gName 8))
  (tIfS (tOr (tTest (tOp (uGt) (uMeth C.Store "uses" (sp_Store_uses K C) (WB E) (tVar 0) (tCons (tVar 8) (tNil))) (tC (.int 1)))) (tAnd (tTest (tOp (uEq K) (uMeth C.Store "uses" (sp_Store_uses K C) (WB E) (tVar 0) (tCons (tVar 8) (tNil))) (tC (.int 1)))) (tTest (tOp (uEq K) (tOp (uMod) (tVar 7) (tC (.int 3))) (tC (.int 0)))))) (tDrop (uMeth C.Store "drop" (sp_Store_drop K C) (WB E) (tVar 0) (tCons (tVar 8) (tNil)))) (tIfS (tTest (tOp (uGt) (uMeth C.Store "uses" (sp_Store_uses K C) (WB E) (tVar 0) (tCons (tVar 8) (tNil))) (tC (.int 0)))) (tDrop (uMeth C.Store "share" (sp_Store_share K C) (WB E) (tVar 0) (tCons (tVar 8) (tNil)))) (tNext))))))))))
  (tRet (tVar 4)))
theorem pure__law_work {K : PySem.W.Frag} {C : Ex} {vs : List V} {H : Hp} {Q : VK} {E : XK} (F : Fa K C) (h : sp__law_work K C vs H Q E) : t__law_work K C E { nx := fun _ H' => Q .non H', rt := Q } (start ["_law_store_here", "_law_tape_here", "_law_start", "_law_many", "_law_recent", "_law_k", "_law_number", "_law_pick", "_law_pointer"] vs) H := by
  obtain ⟨x, c, u, v, rfl, A, S0, G0, B, n0, q, ts, st, mn, rfl, rfl, rfl, rfl, X0, W0, hn0, hq, hT, hst, hmn, k⟩ := h
  have hlt := hT.2
  unfold t__law_work
  walk_at "run1"
  rename_i l hl
  have X1 := X0.new (o := .lst []) (same_new hl) hl upd_same
  have hl0 := X0.free hl
  refine f_range (fun i σ H' => ∃ (S : StS) (G : Hp) (vs : List V) (ks : List Nat) (v5 v6 v7 v8 : Option V), σ = [some (.ref A.st), some (.ref q), some (.int st), some (.int mn), some (.ref l), v5, v6, v7, v8] ∧ Keep C H' G A S ∧ Same G0 G ∧ G l = some (.lst vs) ∧ PtsAt G vs ks (B.gen + 1) ∧ WorkS B S (n0 + i) ∧ vs.length ≤ i)
    ⟨S0, _, [], [], none, none, none, none, rfl, X1, same_new hl0, upd_same, .nil, W0, Nat.le_refl 0⟩ ?_ ?_
  · rintro i σ H' hi ⟨S, G, vs, ks, v5, v6, v7, v8, rfl, X, sG, el, hp, W, hvi⟩
    have hi : i < 60 := by omega
    have hqH := X.sm _ _ (sG _ _ hq)
    have elH := X.sm _ _ el
    have tn := hT.at (st + 2 * (0 + (i : Int))).toNat
    have tp := hT.at (st + 2 * (0 + (i : Int)) + 1).toNat
    have ln := W.ln
    obtain ⟨dx0, i0⟩ := X.at_.ins
    unfold stO at i0
    have hx : ∀ p : Int, ¬ (vs.length : Int) = 0 → 0 ≤ p % (vs.length : Int) ∧ (p % (vs.length : Int)).toNat < vs.length := fun p h => by
      have a := Int.emod_nonneg p h
      have b := Int.emod_lt_of_pos p (show (0 : Int) < vs.length by omega)
      omega
    have pos := W.pos (by omega)
    have l8 : S.sp.nums.length ≠ 8 := by omega
    walk_at "run1"
    rotate_left
    walk_at "run1"
    rotate_left
    · rename_i hn1 hn2
      walk_at "run1"
      · obtain ⟨x0, x1⟩ := hx (ts.getD (st + 2 * (0 + (i : Int)) + 1).toNat 0) hn2
        refine w_ixA (SqL.of elH) ⟨x0, x1⟩ fun v hv => ?_
        obtain ⟨kk, t, ek, ev, et, h5, h9⟩ := hp.get x1
        rw [hv] at ev
        cases ev
        have etH := X.sm _ _ et
        walk_at "run1"
        refine w_S2 ⟨A, S, (kk : Nat), rfl, ⟨t, _, rfl, SqT.of etH⟩, X.at_, W.ok, fun h => by unfold outB at h; omega, fun k' ek' hk' => ?_⟩
        cases ek'
        walk_at "run1"
        cases nb : newB S kk with
        | false =>
          walk_at "run1"
          exact ⟨_, _, _, ks, _, _, _, _, rfl, X, sG, el, hp, W.mono, by omega⟩
        | true =>
          walk_at "run1"
          refine w_S2 ⟨_, _, rfl, rfl, tn, tp, fun b hb H1 s1 e1 => ?_⟩
          have Y := X.same s1
          walk_at "run1"
          refine w_S3 ⟨A, S, (kk : Nat), some (blkF _ _), rfl, ⟨t, _, rfl, SqT.of (s1 _ _ etH)⟩, WordsV.good (SqL.of e1) (blkF_blk _ _), Y.at_, W.ok, fun h => ?_, fun k' ws ek' hk' nb' eg H2 lm hS2 st2 => ?_⟩
          · exfalso
            rcases h with h | ⟨k', e, h⟩ | h
            · unfold outB at h; omega
            · cases e; rw [nb] at h; cases h
            · cases h
          · cases ek'
            cases eg
            walk_at "run1"
            exact ⟨_, _, _, ks, _, _, _, _, rfl, Y.stp hS2 st2, sG, el, hp, W.write hk' nb', by omega⟩
      · walk_at "run1"
        · rename_i t ht
          have Y := X.same (same_new (o := .tup [.int (5 + ts.getD (st + 2 * (0 + (i : Int)) + 1).toNat 0 % 25), .int 1]) ht)
          have et : upd H' t (.tup [.int (5 + ts.getD (st + 2 * (0 + (i : Int)) + 1).toNat 0 % 25), .int 1]) t = some (.tup [.int (5 + ts.getD (st + 2 * (0 + (i : Int)) + 1).toNat 0 % 25), .int 1]) := upd_same
          generalize upd H' t _ = H1 at *
          obtain ⟨kk, ek⟩ : ∃ kk : Nat, 5 + ts.getD (st + 2 * (0 + (i : Int)) + 1).toNat 0 % 25 = (kk : Int) := ⟨(5 + ts.getD (st + 2 * (0 + (i : Int)) + 1).toNat 0 % 25).toNat, by omega⟩
          rw [ek] at et
          have et : H1 t = some (.tup ([(kk : Int), 1].map V.int)) := et
          obtain ⟨dx1, i1⟩ := Y.at_.ins
          unfold stO at i1
          refine w_S2 ⟨A, S, (kk : Nat), rfl, ⟨t, _, rfl, SqT.of et⟩, Y.at_, W.ok, fun h => by unfold outB at h; omega, fun k' ek' hk' => ?_⟩
          cases ek'
          walk_at "run1"
          · rename_i hu hz
            have hz : (kk : Int) > 5 := hz
            refine w_S2 ⟨A, S, (kk : Nat), rfl, ⟨t, _, rfl, SqT.of et⟩, Y.at_, W.ok, fun h => absurd h (notBad (by omega) (by omega) (by rw [Int.toNat_natCast]; omega)), fun k' ek' h5 hk h0 H2 hS2 st2 => ?_⟩
            cases ek'
            walk_at "run1"
            exact ⟨_, _, _, ks, _, _, _, _, rfl, Y.stp hS2 st2, sG, el, hp, W.drop h5 hk h0, by omega⟩
          all_goals
            walk_at "run1"
            exact ⟨_, _, _, ks, _, _, _, _, rfl, Y, sG, el, hp, W.mono, by omega⟩
        · walk_at "run1"
          obtain ⟨x0, x1⟩ := hx (ts.getD (st + 2 * (0 + (i : Int)) + 1).toNat 0) hn2
          refine w_ixA (SqL.of elH) ⟨x0, x1⟩ fun v hv => ?_
          obtain ⟨kk, t, ek, ev, et, h5, h9⟩ := hp.get x1
          rw [hv] at ev
          cases ev
          have etH := X.sm _ _ et
          have us : ∀ Q E, Q (.int (S.sp.nums.getD kk 0)) H' → sp_Store_uses K C [.ref A.st, .ref t] H' Q E := fun Q E h => w_S2 ⟨A, S, (kk : Nat), rfl, ⟨t, _, rfl, SqT.of etH⟩, X.at_, W.ok, fun h => by unfold outB at h; omega, fun k' ek' hk' => by cases ek'; exact h⟩
          have dr : ∀ Q E, S.sp.nums.getD kk 0 ≠ 0 → (∀ y H2, Keep C H2 G A (dropSt S kk) → WorkS B (dropSt S kk) (n0 + (i + 1)) → Q y H2) → sp_Store_drop K C [.ref A.st, .ref t] H' Q E := fun Q E h0 h =>
            w_S2 ⟨A, S, (kk : Nat), rfl, ⟨t, _, rfl, SqT.of etH⟩, X.at_, W.ok, fun h => absurd h (notBad (by omega) (by omega) (by rw [Int.toNat_natCast]; exact h0)), fun k' ek' h5 hk h0 H2 hS2 st2 => by
              cases ek'
              exact h _ _ (X.stp hS2 st2) (W.drop h5 hk h0)⟩
          walk_at "run1"
          refine us _ _ ?_
          walk_at "run1"
          · rename_i hu
            refine dr _ _ (by omega) fun y H2 Y W2 => ?_
            walk_at "run1"
            exact ⟨_, _, _, ks, _, _, _, _, rfl, Y, sG, el, hp, W2, by omega⟩
          walk_at "run1"
          refine us _ _ ?_
          walk_at "run1"
          · rename_i hu hu1 hu2
            refine dr _ _ (by omega) fun y H2 Y W2 => ?_
            walk_at "run1"
            exact ⟨_, _, _, ks, _, _, _, _, rfl, Y, sG, el, hp, W2, by omega⟩
          all_goals
            walk_at "run1"
            refine us _ _ ?_
            walk_at "run1"
            · rename_i hu
              refine w_S2 ⟨A, S, (kk : Nat), rfl, ⟨t, _, rfl, SqT.of etH⟩, X.at_, W.ok, fun h => absurd h (notBad (by omega) (by omega) (by rw [Int.toNat_natCast]; omega)), fun k' ek' h5 hk h0 H2 hS2 st2 => ?_⟩
              cases ek'
              walk_at "run1"
              exact ⟨_, _, _, ks, _, _, _, _, rfl, X.stp hS2 st2, sG, el, hp, W.share h5 hk h0, by omega⟩
            · walk_at "run1"
              exact ⟨_, _, _, ks, _, _, _, _, rfl, X, sG, el, hp, W.mono, by omega⟩
    all_goals
      refine w_S2 ⟨_, _, rfl, rfl, tn, tp, fun b hb H1 s1 e1 => ?_⟩
      walk_at "run1"
      have Y := X.same s1
      refine w_S2 ⟨A, S, some (blkF _ _), rfl, WordsV.good (SqL.of e1) (blkF_blk _ _), Y.at_, W.ok, (fun h => by cases h), fun ws e => ⟨fun h => absurd h (by omega), fun kk t ef hr H2 lm tpp hS2 st2 htp e2 => ?_⟩⟩
      cases e
      have W2 := W.make (l := lm) (ws := blkF (ts.getD (st + 2 * (0 + (i : Int))).toNat 0) (ts.getD (st + 2 * (0 + (i : Int)) + 1).toNat 0)) ef
      obtain ⟨hk9, hf, _⟩ := freeL_head ef
      unfold isFr at hf
      have f1 := of_decide_eq_true (Bool.and_eq_true_iff.mp hf).1
      have h5 : 5 ≤ kk := by
        rcases Nat.lt_or_ge kk 5 with q | q
        · have := W.l5 kk q
          omega
        · exact q
      rw [W.gen] at e2
      have Y2 := (Y.stp hS2 st2).tup (by rw [W2.ln]; decide) e2
      have gtp := Y.free htp
      have el2 : upd G tpp (.tup [.int (kk : Nat), .int (B.gen + 1)]) l = some (.lst vs) := upd_old el gtp
      walk_at "run1"
      refine w_app (Y2.sm _ _ el2) (lt_line (by omega)) ?_
      exact ⟨_, _, _, ks ++ [kk], _, _, _, _, rfl, Y2.own el2 (plain_refs hp.ref), same_upd (same_updN sG gtp) hl0, upd_same, ((hp.same (same_new gtp)).snoc upd_same h5 (by omega)).upd el2, W2, by rw [List.length_append]; simp only [List.length_cons, List.length_nil]; omega⟩
  · rintro σ H' ⟨S, G, vs, ks, v5, v6, v7, v8, rfl, X, sG, el, hp, W, hvi⟩
    walk_at "run1"
    have z : ∀ j, j + mn.toNat = 60 → WorkS B S (n0 + 60) := fun j hj => by
      rw [← hj]
      clear hj
      induction j with
      | zero => rw [Nat.zero_add]; exact W
      | succ j ih => rw [show n0 + (j + 1 + mn.toNat) = n0 + (j + mn.toNat) + 1 by omega]; exact ih.mono
    exact k H' G S l vs ks X sG (z (60 - mn.toNat) (by omega)) el hp (by omega)
def sp__law_choices (K : PySem.W.Frag) (_ : Ex) : Sp := S3 fun x u v H Q _ => ∃ (q : Addr) (ts : List Int) (st mn : Int), x = .ref q ∧ u = .int st ∧ v = .int mn ∧ H q = some (.lst (ts.map V.int)) ∧ TapeOk ts ∧ (0 ≤ st ∧ st < 1000) ∧ (0 ≤ mn ∧ mn < 1000) ∧
  ∀ H' l (cs : List Int), Same H H' → H l = none → H' l = some (.lst (cs.map V.int)) → (∀ z ∈ cs, 0 ≤ z ∧ z ≤ 8) → cs.length < 1000 → Q (.ref l) H'
def t__law_choices (K : PySem.W.Frag) (C : Ex) (E : XK) : TS :=
  tSeq (tAsg (tLst (tNil)) (gName 3))
  (tSeq (tFor (iRng1 (tCons (tVar 2) (tNil))) (gName 4)
  (tSeq (tAsg (uCall (sp__law_at K C) (WB E) (tCons (tVar 0) (tCons (tOp (uAdd K) (tVar 1) (tVar 4)) (tNil)))) (gName 5))
  (tDrop (tBM K "list" (rAppend) (tVar 3) (tCons (tOp (uIx K) (tLst (tCons (tC (.int 0)) (tCons (tC (.int 8)) (tCons (tOp (uMod) (tOp (uDiv) (tVar 5) (tC (.int 4))) (tC (.int 9))) (tCons (tOp (uMul) (tC (.int 8)) (tOp (uMod) (tOp (uDiv) (tVar 5) (tC (.int 4))) (tC (.int 2)))) (tNil)))))) (tOp (uMod) (tVar 5) (tC (.int 4)))) (tNil))))))
  (tRet (tVar 3)))
theorem pure__law_choices {K : PySem.W.Frag} {C : Ex} {vs : List V} {H : Hp} {Q : VK} {E : XK} (F : Fa K C) (h : sp__law_choices K C vs H Q E) : t__law_choices K C E { nx := fun _ H' => Q .non H', rt := Q } (start ["_law_tape_here", "_law_start", "_law_many", "_law_choices_here", "_law_k", "_law_number"] vs) H := by
  obtain ⟨x, u, v, rfl, q, ts, st, mn, rfl, rfl, rfl, hq, hT, hst, hmn, k⟩ := h
  have hlt := hT.2
  unfold t__law_choices
  walk_at "run1"
  rename_i l hl
  refine f_range (fun i σ H' => Same H H' ∧ ∃ (cs : List Int) (v4 v5 : Option V), σ = [some (.ref q), some (.int st), some (.int mn), some (.ref l), v4, v5] ∧ H' l = some (.lst (cs.map V.int)) ∧ (∀ z ∈ cs, 0 ≤ z ∧ z ≤ 8) ∧ cs.length = i) ⟨same_new hl, [], none, none, rfl, upd_same, (fun z h => by cases h), rfl⟩ ?_ ?_
  · rintro i σ H' hi ⟨s', cs, v4, v5, rfl, el, hc, lc⟩
    have hi : i < 1000 := by omega
    have hq' := s' _ _ hq
    have tn := hT.at (st + (0 + (i : Int))).toNat
    walk_at "run1"
    rename_i l4 hl4
    refine w_ixA (SqL.of upd_same) ⟨by omega, by show _ < 4; omega⟩ fun v hv => ?_
    have hy : ∃ y : Int, v = .int y ∧ 0 ≤ y ∧ y ≤ 8 := by
      have hm := List.mem_of_getElem? hv
      simp only [List.mem_cons, List.not_mem_nil, or_false] at hm
      rcases hm with h | h | h | h
      · exact ⟨_, h, by decide, by decide⟩
      · exact ⟨_, h, by decide, by decide⟩
      · exact ⟨_, h, by omega, by omega⟩
      · exact ⟨_, h, by omega, by omega⟩
    obtain ⟨y, rfl, y0, y1⟩ := hy
    have s2 := same_new (o := .lst [.int 0, .int 8, .int (ts.getD (st + (0 + (i : Int))).toNat 0 / 4 % 9), .int (8 * (ts.getD (st + (0 + (i : Int))).toNat 0 / 4 % 2))]) hl4
    generalize upd H' l4 _ = H2 at *
    have e2 := s2 _ _ el
    walk_at "run1"
    refine ⟨same_upd (s'.trans s2) hl, cs ++ [y], _, _, rfl, upd_same, fun z hz => ?_, by rw [List.length_append, lc]; rfl⟩
    rcases List.mem_append.mp hz with h | h
    · exact hc z h
    · rw [List.mem_singleton.mp h]; exact ⟨y0, y1⟩
  · rintro σ H' ⟨s', cs, v4, v5, rfl, el, hc, lc⟩
    walk_at "run1"
    exact k H' l cs s' hl el hc (by omega)
def sp__law_commit (K : PySem.W.Frag) (C : Ex) : Sp := S1 fun x H Q _ => comP C H x Q (Q (.str "off"))
def t__law_commit (K : PySem.W.Frag) (C : Ex) (E : XK) : TS :=
  uTry K (.ref C.PowerOff) (fun W => tRet (uCall (sp_commit K C) W (tCons (tVar 0) (tNil)))) (fun a cls d => tRet (tC (.str "off"))) (WB E)
theorem pure__law_commit {K : PySem.W.Frag} {C : Ex} {vs : List V} {H : Hp} {Q : VK} {E : XK} (F : Fa K C) (h : sp__law_commit K C vs H Q E) : t__law_commit K C E { nx := fun _ H' => Q .non H', rt := Q } (start ["_law_store_here"] vs) H := by
  obtain ⟨x, rfl, h⟩ := h
  unfold t__law_commit
  walk_at "run1"
  refine w_S1 (h.mono fun H' k => ?_)
  walk_at "run1"
  exact k
def sp__law_steps (K : PySem.W.Frag) (C : Ex) : Sp := S1 fun x H Q _ => OffAt C H x ∧ Q (.str "off") H
def t__law_steps (K : PySem.W.Frag) (C : Ex) (E : XK) : TS :=
  uTry K (.ref C.PowerOff) (fun W => tRet (uCall (sp_commit_steps K C) W (tCons (tVar 0) (tNil)))) (fun a cls d => tRet (tC (.str "off"))) (WB E)
theorem pure__law_steps {K : PySem.W.Frag} {C : Ex} {vs : List V} {H : Hp} {Q : VK} {E : XK} (F : Fa K C) (h : sp__law_steps K C vs H Q E) : t__law_steps K C E { nx := fun _ H' => Q .non H', rt := Q } (start ["_law_store_here"] vs) H := by
  obtain ⟨x, rfl, h, k⟩ := h
  unfold t__law_steps
  walk_at "run1"
  refine w_S1 (.inl ⟨h, ?_⟩)
  walk_at "run1"
  exact k
def blkWr (S : StS) (k : Nat) : List (Int × List Int) := (List.range 4).map fun j : Nat => (4 * (k : Int) + (j : Int), ((blkS S k).drop (8 * j)).take 8)
def wrsS (S : StS) : List (Int × List Int) := (newL S).flatMap (blkWr S)
theorem blkWr_len (S : StS) (k : Nat) : (blkWr S k).length = 4 := by unfold blkWr; rw [List.length_map, List.length_range]
theorem wrs_len (S : StS) : ∀ l : List Nat, (l.flatMap (blkWr S)).length = 4 * l.length
  | [] => rfl
  | k :: l => by
    rw [List.flatMap_cons, List.length_append, wrs_len S l, blkWr_len, List.length_cons]
    omega
theorem take_wrs {S : StS} {l : List Nat} {i k : Nat} (h : l[i]? = some k) : (l.take (i + 1)).flatMap (blkWr S) = (l.take i).flatMap (blkWr S) ++ blkWr S k := by
  rw [take_snoc h, List.flatMap_append, List.flatMap_cons, List.flatMap_nil, List.append_nil]
theorem WrsAt.nil {H : Hp} : WrsAt H [] [] := ⟨rfl, fun i v h => by simp at h⟩
theorem WrsAt.app {H H' : Hp} {l : Addr} {vs : List V} {ss : List (Int × List Int)} {v : V} {s : Int} {r : List Int} (x : WrsAt H vs ss) (sm : Same H H') (e : H' l = some (.lst vs)) (y : WrAt H' v s r) : WrsAt (upd H' l (.lst (vs ++ [v]))) (vs ++ [v]) (ss ++ [(s, r)]) := by
  have p := plain_refs x.ref
  exact ((x.map (fun _ _ y => y.same sm) fun _ _ e => sm _ _ e).snoc y).map (row_upd e p) (tup_upd e p)
def sp__law_due (K : PySem.W.Frag) (C : Ex) : Sp := S1 fun x H Q _ => ∃ A S, x = .ref A.st ∧ StAt C H A S ∧ StOk S ∧ Dsk S ∧ S.kvs.length < 64 ∧ ∀ l H' vs, Same H H' → H l = none → H' l = some (.lst vs) → WrsAt H' vs (wrsS S) → Q (.ref l) H'
def t__law_due (K : PySem.W.Frag) (C : Ex) (E : XK) : TS :=
  tSeq (tAsg (tLst (tNil)) (gName 1))
  (tSeq (tFor (iList K (uMeth C.Store "new_blocks" (sp_Store_new_blocks K C) (WB E) (tVar 0) (tNil))) (gName 2)
  (tSeq (tAsg (uMeth C.Store "read" (sp_Store_read K C) (WB E) (tVar 0) (tCons (tTup (tCons (tVar 2) (tCons (tC (.int 1)) (tNil)))) (tNil))) (gName 3))
  (tFor (iRng1 (tCons (tC (.int 4)) (tNil))) (gName 4)
  (tDrop (tBM K "list" (rAppend) (tVar 1) (tCons (tTup (tCons (tOp (uAdd K) (tOp (uMul) (tC (.int 4)) (tVar 2)) (tVar 4)) (tCons (tSl (uSl K) (tVar 3) (tPart (tOp (uMul) (tC (.int 8)) (tVar 4))) (tPart (tOp (uAdd K) (tOp (uMul) (tC (.int 8)) (tVar 4)) (tC (.int 8))))) (tNil)))) (tNil)))))))
  (tRet (tVar 1)))
theorem pure__law_due {K : PySem.W.Frag} {C : Ex} {vs : List V} {H : Hp} {Q : VK} {E : XK} (F : Fa K C) (h : sp__law_due K C vs H Q E) : t__law_due K C E { nx := fun _ H' => Q .non H', rt := Q } (start ["_law_store_here", "_law_writes", "_law_number", "_law_words", "_law_part"] vs) H := by
  obtain ⟨x, rfl, A, S, rfl, hS, ok, dk, kl, k⟩ := h
  obtain ⟨dx, i⟩ := hS.ins
  unfold stO at i
  unfold t__law_due
  walk_at "run1"
  rename_i l hl
  have sl := same_new (o := .lst []) hl
  have el : upd H l (.lst []) l = some (.lst []) := upd_same
  have hS2 := hS.same sl
  generalize upd H l _ = H2 at *
  have i2 := sl _ _ i
  walk_at "run1"
  refine w_S1 ⟨A, S, rfl, hS2, ok, kl, fun q H3 s3 hq e3 => ?_⟩
  have eL : (((List.range S.sp.nums.length).filter fun i => (S.cont (i : Nat)).isSome).map fun i => V.int (i : Nat)) = (newL S).map fun i => V.int (i : Nat) := rfl
  rw [eL] at e3
  have nl := newL_len hS ok
  walk_at "run1"
  have l64 : (newL S).length < 64 := by omega
  have s13 := sl.trans s3
  have el3 := s3 _ _ el
  refine f_list (xs := (newL S).map fun i => V.int (i : Nat)) (fun i σ H' => Same H H' ∧ ∃ v2 v3 v4 vs, σ = [some (.ref A.st), some (.ref l), v2, v3, v4] ∧ H' l = some (.lst vs) ∧ WrsAt H' vs (((newL S).take i).flatMap (blkWr S)) ∧ H' q = some (.lst ((newL S).map fun i => V.int (i : Nat))))
    ⟨s13, none, none, none, [], rfl, el3, .nil, e3⟩ (by rintro i σ H' _ ⟨_, _, _, _, _, _, _, _, h⟩; exact SqL.of h) ?_ ?_
  · clear i2 sl el hS2 e3 s3 hq s13 el3
    rintro n x σ H' hx ⟨s', v2, v3, v4, vs, rfl, h2, hst, hq'⟩
    rw [List.getElem?_map] at hx
    obtain ⟨kk, hk, rfl⟩ := Option.map_eq_some_iff.mp hx
    have hm := newL_mem ok (List.mem_of_getElem? hk)
    have hn : n < (newL S).length := (List.getElem?_eq_some_iff.mp hk).1
    have hS' := hS.same s'
    obtain ⟨dx', i'⟩ := hS'.ins
    unfold stO at i'
    walk_at "run1"
    rename_i t ht
    have st := same_new (o := .tup [.int (kk : Nat), .int 1]) ht
    refine w_S2 ⟨A, S, (kk : Nat), rfl, ⟨t, _, rfl, SqT.of upd_same⟩, hS'.same st, ok, dk, fun h => absurd h (by omega), fun _ _ lw H4 s4 hlw e4 => ?_⟩
    have s5 := st.trans s4
    have h24 := s5 _ _ h2
    have hst4 := hst.map (fun _ _ y => y.same s5) fun _ _ e => s5 _ _ e
    have hq4 := s5 _ _ hq'
    have s14 := s'.trans s5
    clear i' hS' h2 hst hq' st s4 s5 ht hlw s'
    have bl := blkS_len hS dk hm.2
    have fl := wrs_len S ((newL S).take n)
    rw [List.length_take, Nat.min_eq_left (by omega)] at fl
    walk_at "run1"
    refine f_range (fun j σ H' => Same H H' ∧ ∃ v4 vs, σ = [some (.ref A.st), some (.ref l), some (.int (kk : Nat)), some (.ref lw), v4] ∧ H' l = some (.lst vs) ∧ WrsAt H' vs (((newL S).take n).flatMap (blkWr S) ++ (blkWr S kk).take j) ∧ H' q = some (.lst ((newL S).map fun i => V.int (i : Nat))) ∧ H' lw = some (.lst ((blkS S kk).map V.int)))
      ⟨s14, v4, vs, rfl, h24, by rw [List.take_zero, List.append_nil]; exact hst4, hq4, e4⟩ ?_ ?_
    · clear h24 hst4 hq4 s14 e4
      rintro j σ H' hj ⟨s', v4, vs, rfl, h2, hst, hq', hw⟩
      have hj : j < 4 := hj
      have lv := hst.1
      rw [List.length_append, fl, List.length_take] at lv
      have lb := blkWr_len S kk
      walk_at "run1"
      refine w_slL (SqL.of hw) fun r hr => ?_
      rw [show 8 * (0 + (j : Int)) = ((8 * j : Nat) : Int) by omega, show ((8 * j : Nat) : Int) + 8 = ((8 * j + 8 : Nat) : Int) by omega, cutV_mid (by omega) (by rw [bl]; omega), show 8 * j + 8 - 8 * j = 8 by omega]
      walk_at "run1"
      rename_i t ht
      have sx := same_updN (o := .tup [.int (4 * (kk : Int) + (0 + (j : Int))), .ref r]) (same_new (o := .lst ((((blkS S kk).drop (8 * j)).take 8).map V.int)) hr) ht
      have y : WrAt (upd (upd H' r (.lst ((((blkS S kk).drop (8 * j)).take 8).map V.int))) t (.tup [.int (4 * (kk : Int) + (0 + (j : Int))), .ref r])) (.ref t) (4 * (kk : Int) + (j : Int)) (((blkS S kk).drop (8 * j)).take 8) :=
        ⟨t, .ref r, rfl, by rw [upd_same, Int.zero_add], RowAt.of (by rw [List.length_take, List.length_drop, bl]; omega) (upd_old upd_same ht)⟩
      generalize upd (upd H' r _) t _ = H5 at *
      have h25 := sx _ _ h2
      refine w_app h25 (lt_line (by omega)) ?_
      have ne : l ≠ q := fun e => by
        rw [← e, h2] at hq'
        have z := HO.lst.inj (Option.some.inj hq')
        have z2 := hst.ref
        rw [z] at z2
        obtain ⟨p, e⟩ := z2 (.int (kk : Nat)) (List.mem_of_getElem? (by rw [List.getElem?_map, hk]; rfl))
        cases e
      have nw : l ≠ lw := fun e => by
        rw [← e, h2] at hw
        have z := HO.lst.inj (Option.some.inj hw)
        have z2 := hst.ref
        rw [z] at z2
        cases hb : blkS S kk with
        | nil => rw [hb] at bl; cases bl
        | cons z zs =>
          rw [hb] at z2
          obtain ⟨p, e⟩ := z2 (.int z) (List.mem_cons_self ..)
          cases e
      refine ⟨same_upd (s'.trans sx) hl, _, _, rfl, upd_same, ?_, upd_oth (sx _ _ hq') ne.symm, upd_oth (sx _ _ hw) nw.symm⟩
      have eb : (blkWr S kk)[j]? = some (4 * (kk : Int) + (j : Int), ((blkS S kk).drop (8 * j)).take 8) := by
        unfold blkWr
        rw [List.getElem?_map, List.getElem?_range hj]
        rfl
      rw [take_snoc eb, ← List.append_assoc]
      exact hst.app sx h25 y
    · rintro σ H' ⟨s', v4, vs, rfl, h2, hst, hq', _⟩
      refine ⟨s', _, _, _, vs, rfl, h2, ?_, hq'⟩
      rw [take_wrs hk]
      exact hst
  · rintro σ H' ⟨s', v2, v3, v4, vs, rfl, h2, hst, _⟩
    rw [List.length_map, List.take_length] at hst
    walk_at "run1"
    exact k l H' vs s' hl h2 hst
def sp__law_reads (K : PySem.W.Frag) (C : Ex) : Sp := S2 fun x c H Q _ => ∃ (d a w n pc : Addr) (D : DiskS) (vs : List V) (cs : List (Nat × List Int)), x = .ref d ∧ c = .ref pc ∧ DiskAt C H d a w n D ∧ DiskOk D ∧ Rd8 D ∧ D.pw = true ∧ H pc = some (.lst vs) ∧ ContAt H vs cs ∧ (∀ c ∈ cs, 4 * c.1 + 4 ≤ D.secs.length ∧ rdB4 D (c.1 : Nat) 4 = c.2) ∧ ∀ H', Same H H' → Q (.bl true) H'
def t__law_reads (K : PySem.W.Frag) (C : Ex) (E : XK) : TS :=
  tSeq (tFor (iList K (tVar 1)) (gName 2)
  (tSeq (tAsg (tLst (tNil)) (gName 3))
  (tSeq (tFor (iRng1 (tCons (tC (.int 4)) (tNil))) (gName 4)
  (tAsg (tOp (uAdd K) (tVar 3) (uMeth C.Disk "read" (sp_Disk_read K C) (WB E) (tVar 0) (tCons (tOp (uAdd K) (tOp (uMul) (tC (.int 4)) (tOp (uIx K) (tVar 2) (tC (.int 0)))) (tVar 4)) (tNil)))) (gName 3)))
  (tIfS (tNot (uTru K (uCall (sp__law_is_block K C) (WB E) (tCons (tVar 3) (tCons (tOp (uIx K) (tVar 2) (tC (.int 1))) (tNil)))))) (tRet (tC (.bl false))) (tNext)))))
  (tRet (tC (.bl true)))
theorem pure__law_reads {K : PySem.W.Frag} {C : Ex} {vs : List V} {H : Hp} {Q : VK} {E : XK} (F : Fa K C) (h : sp__law_reads K C vs H Q E) : t__law_reads K C E { nx := fun _ H' => Q .non H', rt := Q } (start ["_law_disk", "_law_contents", "_law_row", "_law_words", "_law_part"] vs) H := by
  obtain ⟨x, c, rfl, d, a, w, n, pc, D, vs, cs, rfl, rfl, hD, ok, r8, pw, hpc, hc, hr, k⟩ := h
  unfold t__law_reads
  walk_at "run1"
  refine f_list (xs := vs) (fun i σ H' => Same H H' ∧ ∃ v2 v3 v4, σ = [some (.ref d), some (.ref pc), v2, v3, v4]) ⟨L2.Same.refl _, none, none, none, rfl⟩ (fun i σ H' _ h => SqL.of (h.1 _ _ hpc)) ?_ ?_
  · rintro i x σ H1 hx ⟨s1, v2, v3, v4, rfl⟩
    obtain ⟨kk, ws, tp, pb, ek, rfl, et, ep, l32⟩ := (hc.same s1).2 i x hx
    obtain ⟨h1, h2⟩ := hr _ (List.mem_of_getElem? ek)
    have h1 : 4 * kk + 4 ≤ D.secs.length := h1
    have h2 : rdB4 D (kk : Nat) 4 = ws := h2
    walk_at "run1"
    rename_i l hl
    refine f_range (fun j σ H' => Same H1 H' ∧ ∃ (l : Addr) (v4 : Option V), σ = [some (.ref d), some (.ref pc), some (.ref tp), some (.ref l), v4] ∧ H1 l = none ∧ H' l = some (.lst ((rdB4 D (kk : Nat) j).map V.int)))
      ⟨same_new hl, l, v4, rfl, hl, upd_same⟩ ?_ ?_
    · rintro j σ H2 hj ⟨s2, l, v4, rfl, hl, e2⟩
      have hj : j < 4 := hj
      have hD2 := hD.same (s1.trans s2)
      have et2 := s2 _ _ et
      obtain ⟨dx2, i2⟩ := hD2.ins
      unfold dkO at i2
      walk_at "run1"
      refine w_read hD2 ok r8 pw (by omega) (by omega) fun p hp H3 s3 e3 => ?_
      have e23 := s3 _ _ e2
      have l8 := r8 (4 * (kk : Int) + (0 + (j : Int))) (by omega) (by omega)
      have ll : (rdB4 D (kk : Nat) j).length ≤ 8 * j := by
        clear e2 e23
        have z : ∀ j, j ≤ 4 → (rdB4 D (kk : Nat) j).length = 8 * j := fun j => by
          induction j with
          | zero => intro _; rfl
          | succ j ih =>
            intro hj
            have ih := ih (by omega)
            unfold rdB4 at ih ⊢
            rw [List.range_succ, List.flatMap_append, List.length_append, ih, List.flatMap_cons, List.flatMap_nil, List.append_nil, r8 _ (by omega) (by omega)]
            omega
        exact Nat.le_of_eq (z j (by omega))
      refine w_cat e23 e3 (by rw [List.length_map, List.length_map]; omega) fun l2 hl2 => ?_
      walk_at "run1"
      have s23 := s2.trans s3
      refine ⟨same_updN s23 hl2, l2, _, rfl, s23.free hl2, ?_⟩
      rw [upd_same]
      unfold rdB4
      rw [List.range_succ, List.flatMap_append, List.map_append, List.flatMap_cons, List.flatMap_nil, List.append_nil, Int.zero_add]
    · rintro σ H2 ⟨s2, l, v4, rfl, hl, e2⟩
      have e2 : H2 l = some (.lst ((rdB4 D (kk : Nat) 4).map V.int)) := e2
      rw [h2] at e2
      have et2 := s2 _ _ et
      have ep2 := s2 _ _ ep
      walk_at "run1"
      refine w_S2 ⟨l, pb, ws, rfl, rfl, SqL.of e2, SqL.of ep2, l32, ?_⟩
      walk_at "run1"
      exact ⟨s1.trans s2, _, _, _, rfl⟩
  · rintro σ H1 ⟨s1, v2, v3, v4, rfl⟩
    walk_at "run1"
    exact k H1 s1
abbrev nums6 : List Int := List.replicate (Int.toNat 6) (1 : Int) ++ List.replicate (Int.toNat 90) (0 : Int)
def mkT (K : PySem.W.Frag) (C : Ex) (E : XK) : TE := uMake C.Store (sp_Store___init__ K C) (WB E) (tCons (tVar 0) (tCons (uMake C.Head (sp_Head___init__ K C) (WB E) (tCons (tVar 1) (tCons (tTup (tCons (tC (.int 5)) (tCons (tC (.int 1)) (tNil)))) (tCons (tC (.int 96)) (tNil))))) (tCons (uMake C.Space (sp_Space___init__ K C) (WB E) (tCons (tOp (uAdd K) (tOp (uMul) (tLst (tCons (tC (.int 1)) (tNil))) (tC (.int 6))) (tOp (uMul) (tLst (tCons (tC (.int 0)) (tNil))) (tC (.int 90)))) (tNil))) (tNil))))
theorem mk_store {K : PySem.W.Frag} {C : Ex} {E : XK} {H : Hp} {Q : VK} {d a w n : Addr} {D : DiskS} {g : Int} {v2 : Option V} (hD : DiskAt C H d a w n D)
    (k : ∀ H' st m hd s sa sb tb, Same H H' → (∀ b ∈ [st, m, hd, s, sa, sb], H b = none) → StAt C H' ⟨st, m, hd, d, a, w, n, s, sa, sb⟩ (firstS nums6 D g (.ref tb)) → Q (.ref st) H') : mkT K C E [some (.ref d), some (.int g), v2, none] H Q := by
  unfold mkT
  walk_at "run1"
  rename_i tb htb
  have s1 := same_new (o := .tup [.int 5, .int 1]) htb
  have hD1 := hD.same s1
  generalize upd H tb _ = H1 at *
  intro hd dxh hhd hdxh hneh
  refine w_S4 ⟨hd, dxh, rfl, upd_same, fun H2 e2 f2 => ⟨rfl, ?_⟩⟩
  have s12 := same_made hhd hdxh f2
  have hD2 := hD1.same s12
  have s2 := s1.trans s12
  walk_at "run1"
  rename_i l1 hl1 l2 hl2 l3 hl3 l4 hl4
  have s3 := same_updN (o := .lst ((List.replicate (Int.toNat 90) (0 : Int)).map V.int)) (same_updN (o := .lst [.int 0]) (same_updN (o := .lst ((List.replicate (Int.toNat 6) (1 : Int)).map V.int)) (same_new (o := .lst [.int 1]) hl1) hl2) hl3) hl4
  have e3 := upd_old (o := .lst ((List.replicate (Int.toNat 90) (0 : Int)).map V.int)) (upd_old (o := .lst [.int 0]) (upd_same (H := upd H2 l1 (.lst [.int 1])) (a := l2) (o := .lst ((List.replicate (Int.toNat 6) (1 : Int)).map V.int))) hl3) hl4
  refine w_cat e3 upd_same (by simp only [List.length_map, List.length_replicate]; decide) fun pn hpn => ?_
  rw [← List.map_append]
  have e4 : upd (upd (upd (upd (upd H2 l1 (.lst [.int 1])) l2 (.lst ((List.replicate (Int.toNat 6) (1 : Int)).map V.int))) l3 (.lst [.int 0])) l4 (.lst ((List.replicate (Int.toNat 90) (0 : Int)).map V.int))) pn (.lst (nums6.map V.int)) pn = some (.lst (nums6.map V.int)) := upd_same
  have s4 := same_updN (o := .lst (nums6.map V.int)) s3 hpn
  generalize upd (upd (upd (upd (upd H2 l1 _) l2 _) l3 _) l4 _) pn _ = H3 at *
  have hD3 := hD2.same s4
  walk_at "run1"
  intro s dxs hs hdxs hnes
  refine w_S2 ⟨s, dxs, pn, nums6, rfl, rfl, upd_same, by rw [upd_ne (ne_of_none e4 hs), upd_ne (ne_of_none e4 hdxs)]; exact e4, by decide, fun H5 sa sb hS5 f5 ha hb => ⟨rfl, ?_⟩⟩
  have s5 := same_made hs hdxs f5
  have ha9 := none_made ha
  have hb9 := none_made hb
  walk_at "run1"
  intro st dxt hst hdxt hnet
  have s5x : Same H5 (upd (upd H5 dxt (.own st)) st (.ins C.Store dxt [])) := same_updN (same_new hdxt) (by rw [upd_ne hnet.symm]; exact hst)
  have h3n : ∀ b ∈ spF s sa sb, H3 b = none := fun b hb => by
    simp only [spF, List.mem_cons, List.not_mem_nil, or_false] at hb
    rcases hb with rfl | rfl | rfl <;> assumption
  have s13 := s12.trans s4
  refine w_S4 ⟨st, dxt, hd, d, a, w, n, s, sa, sb, D, ⟨nums6, posL nums6, 0⟩, g, .ref tb, .int 96, rfl, rfl, rfl, rfl, upd_same, ⟨dxh, s5x _ _ (s5 _ _ (s4 _ _ e2))⟩, (hD3.same s5).same s5x, hS5.same s5x,
    nodup_store hhd (dk_nodup hD1) (fun b hb q => hD1.fresh q hb) s13 (by rw [s4 _ _ e2]; simp [hdO]) (sp_nodup hS5) h3n s5 (fun b hb q => hS5.fresh q hb) hst, fun H6 m hS6 f6 hm => ⟨rfl, ?_⟩⟩
  have s6 : Same H5 H6 := fun c u h => f6 c u (s5x _ _ h) (ne_of_none h hst)
  have s05 := (s1.trans s13).trans s5
  refine k H6 st m hd s sa sb tb (s05.trans s6) (fun b hb => ?_) hS6
  simp only [List.mem_cons, List.not_mem_nil, or_false] at hb
  rcases hb with rfl | rfl | rfl | rfl | rfl | rfl
  · exact s05.free hst
  · exact s05.free (none_made hm)
  · exact s1.free hhd
  · exact (s1.trans s13).free hs
  · exact (s1.trans s13).free ha9
  · exact (s1.trans s13).free hb9
/-- a store but for its disk -/
structure StHalf (C : Ex) (G : Hp) (A : SA) (S : StS) : Prop where
  ins : ∃ dx, G A.st = some (stO C dx A S.tab S.res)
  mem : G A.m = some (.dK S.kvs)
  hd : ∃ dh, G A.hd = some (hdO C dh (.int S.gen) S.ht S.hb)
  sp : SpAt C G A.s A.sa A.sb S.sp
  nd : A.all.Nodup
  mr : MemAt G A.all S.kvs S.cont
section half
variable {C : Ex} {H H' G : Hp} {A : SA} {S : StS} {F : List Addr}
theorem StHalf.full (x : StHalf C G A S) (s : Same G H) (d : DiskAt C H A.d A.a A.w A.n S.dk) : StAt C H A S := by
  obtain ⟨⟨dx, x1⟩, x2, ⟨dh, x3⟩, ⟨⟨dp, y1⟩, y2, y3, y4⟩, nd, mr⟩ := x
  exact ⟨⟨dx, s _ _ x1⟩, s _ _ x2, ⟨dh, s _ _ x3⟩, d, ⟨⟨dp, s _ _ y1⟩, s _ _ y2, s _ _ y3, y4⟩, nd, mr.stp (.same s)⟩
theorem StAt.half (x : StAt C H A S) (dj : ∀ b ∈ stF A S, b ∉ dkF A.d A.a A.w A.n → b ∉ F) : StHalf C (msk F H) A S := by
  obtain ⟨⟨dx, x1⟩, x2, ⟨dh, x3⟩, _, ⟨⟨dp, y1⟩, y2, y3, y4⟩, nd, mr⟩ := x
  have nd' := nd
  simp only [SA.all, List.nodup_cons, List.mem_cons, List.not_mem_nil, or_false, not_or] at nd'
  have o : ∀ b, (b = A.st ∨ b = A.m ∨ b = A.hd ∨ b = A.s ∨ b = A.sa ∨ b = A.sb) → b ∉ F := fun b hb => by
    refine dj b (List.mem_append_left _ ?_) ?_
    · rcases hb with rfl | rfl | rfl | rfl | rfl | rfl <;> simp [SA.all]
    · simp only [dkF, List.mem_cons, List.not_mem_nil, or_false, not_or]
      rcases hb with rfl | rfl | rfl | rfl | rfl | rfl <;> simp_all [eq_comm]
  refine ⟨⟨dx, msk_at x1 (o _ (by simp))⟩, msk_at x2 (o _ (by simp)), ⟨dh, msk_at x3 (o _ (by simp))⟩, ⟨⟨dp, msk_at y1 (o _ (by simp))⟩, msk_at y2 (o _ (by simp)), msk_at y3 (o _ (by simp)), y4⟩, nd, ⟨mr.ks, mr.nd, fun k => ?_⟩⟩
  rcases mr.v k with y | ⟨p, ws, a, b, c, d, e⟩
  · exact .inl y
  · refine .inr ⟨p, ws, a, b, msk_at c (dj p (List.mem_append_right _ (memA_of a)) fun h => e ?_), d, e⟩
    simp only [dkF, List.mem_cons, List.not_mem_nil, or_false] at h
    rcases h with rfl | rfl | rfl | rfl <;> simp [SA.all]
end half
theorem nums6_ok {D : DiskS} {g : Int} {tb : V} : StOk (firstS nums6 D g tb) := firstS_ok rfl (fun z hz => by
  rcases List.mem_append.mp hz with h | h <;> (rw [List.eq_of_mem_replicate h]; decide)) fun j hj => by
  match j, hj with
  | 0, _ => rfl
  | 1, _ => rfl
  | 2, _ => rfl
  | 3, _ => rfl
  | 4, _ => rfl
theorem nums6_free : freeL nums6 (posL nums6) ≠ [] := by decide +kernel
/-- an object that is a store of the disk at d -/
def IsSt (C : Ex) (G : Hp) (o d : Addr) : Prop := ∃ dx A tab res, G o = some (stO C dx A tab res) ∧ A.d = d
def sp__law_others (K : PySem.W.Frag) (C : Ex) : Sp := S2 fun x c H Q _ => ∃ A S G, ∃ g : Int, x = .ref A.d ∧ c = .int g ∧ Keep C H G A S ∧ S.sp.nums.length ≠ 8 ∧
  ∀ H' G' l o1 o2, Keep C H' G' A S → Same G G' → G' l = some (.lst [.ref o1, .ref o2]) → IsSt C G' o1 A.d → IsSt C G' o2 A.d → Q (.ref l) H'
def t__law_others (K : PySem.W.Frag) (C : Ex) (E : XK) : TS :=
  tSeq (tAsg (uMake C.Store (sp_Store___init__ K C) (WB E) (tCons (tVar 0) (tCons (uMake C.Head (sp_Head___init__ K C) (WB E) (tCons (tVar 1) (tCons (tTup (tCons (tC (.int 5)) (tCons (tC (.int 1)) (tNil)))) (tCons (tC (.int 96)) (tNil))))) (tCons (uMake C.Space (sp_Space___init__ K C) (WB E) (tCons (tOp (uAdd K) (tOp (uMul) (tLst (tCons (tC (.int 1)) (tNil))) (tC (.int 6))) (tOp (uMul) (tLst (tCons (tC (.int 0)) (tNil))) (tC (.int 90)))) (tNil))) (tNil))))) (gName 2))
  (tSeq (tAsg (uMake C.Store (sp_Store___init__ K C) (WB E) (tCons (tVar 0) (tCons (uMake C.Head (sp_Head___init__ K C) (WB E) (tCons (tVar 1) (tCons (tTup (tCons (tC (.int 5)) (tCons (tC (.int 1)) (tNil)))) (tCons (tC (.int 96)) (tNil))))) (tCons (uMake C.Space (sp_Space___init__ K C) (WB E) (tCons (tOp (uAdd K) (tOp (uMul) (tLst (tCons (tC (.int 1)) (tNil))) (tC (.int 6))) (tOp (uMul) (tLst (tCons (tC (.int 0)) (tNil))) (tC (.int 90)))) (tNil))) (tNil))))) (gName 3))
  (tSeq (tDrop (uMeth C.Store "use_reserve" (sp_Store_use_reserve K C) (WB E) (tVar 3) (tCons (tC (.int 0)) (tNil))))
  (tSeq (tDrop (uMeth C.Store "use_table" (sp_Store_use_table K C) (WB E) (tVar 3) (tCons (uMeth C.Store "make" (sp_Store_make K C) (WB E) (tVar 3) (tCons (uCall (sp__law_block K C) (WB E) (tCons (tC (.int 1)) (tCons (tC (.int 1)) (tNil)))) (tNil))) (tNil))))
  (tRet (tLst (tCons (tVar 2) (tCons (tVar 3) (tNil))))))))
theorem pure__law_others {K : PySem.W.Frag} {C : Ex} {vs : List V} {H : Hp} {Q : VK} {E : XK} (F : Fa K C) (h : sp__law_others K C vs H Q E) : t__law_others K C E { nx := fun _ H' => Q .non H', rt := Q } (start ["_law_disk", "_law_generation", "_law_idle", "_law_busy"] vs) H := by
  obtain ⟨x, c, rfl, A, S, G, g, rfl, rfl, X, l8, k⟩ := h
  unfold t__law_others
  refine w_seq (w_asg ?_)
  refine mk_store (v2 := none) X.at_.dk fun H1 st m hd s sa sb tb s1 n1 hS1 => ?_
  obtain ⟨dx1, i1⟩ := hS1.ins
  have n1st := n1 st (by simp)
  have X1 := X.new s1 n1st i1
  have sG1 := same_new (o := stO C dx1 ⟨st, m, hd, A.d, A.a, A.w, A.n, s, sa, sb⟩ (.ref tb) 60) (X.free n1st)
  have I1 : IsSt C (upd G st (stO C dx1 ⟨st, m, hd, A.d, A.a, A.w, A.n, s, sa, sb⟩ (.ref tb) 60)) st A.d := ⟨dx1, ⟨st, m, hd, A.d, A.a, A.w, A.n, s, sa, sb⟩, _, _, upd_same, rfl⟩
  have X1 : Keep C H1 (upd G st (stO C dx1 ⟨st, m, hd, A.d, A.a, A.w, A.n, s, sa, sb⟩ (.ref tb) 60)) A S := X1
  obtain ⟨G1, hG1⟩ : ∃ G1, G1 = upd G st (stO C dx1 ⟨st, m, hd, A.d, A.a, A.w, A.n, s, sa, sb⟩ (.ref tb) 60) := ⟨_, rfl⟩
  rw [← hG1] at X1 sG1 I1
  clear hG1
  refine w_name ?_
  with_reducible refine w_seq ?_
  with_reducible refine w_asg ?_
  refine mk_store (v2 := some (.ref st)) X1.at_.dk fun H2 st2 m2 hd2 s2 sa2 sb2 tb2 s2' n2 hS2 => ?_
  have X2 := X1.same s2'
  have X1s := X1
  clear hS1 i1 X
  generalize hA2 : (⟨st2, m2, hd2, A.d, A.a, A.w, A.n, s2, sa2, sb2⟩ : SA) = A2 at *
  have est : st2 = A2.st := by rw [← hA2]
  have ed : A2.d = A.d ∧ A2.a = A.a ∧ A2.w = A.w ∧ A2.n = A.n := by rw [← hA2]; exact ⟨rfl, rfl, rfl, rfl⟩
  have nA2 : ∀ b ∈ stF A2 (firstS nums6 S.dk g (.ref tb2)), b ∈ dkF A.d A.a A.w A.n ∨ H1 b = none := fun b hb => by
    rcases List.mem_append.mp hb with hb | hb
    · rw [← hA2] at hb
      simp only [SA.all, List.mem_cons, List.not_mem_nil, or_false] at hb
      rcases hb with rfl | rfl | rfl | rfl | rfl | rfl | rfl | rfl | rfl | rfl
      · exact .inr (n2 _ (by simp))
      · exact .inr (n2 _ (by simp))
      · exact .inr (n2 _ (by simp))
      · exact .inl (by simp [dkF])
      · exact .inl (by simp [dkF])
      · exact .inl (by simp [dkF])
      · exact .inl (by simp [dkF])
      · exact .inr (n2 _ (by simp))
      · exact .inr (n2 _ (by simp))
      · exact .inr (n2 _ (by simp))
    · cases hb
  have half : StHalf C (msk (stF A2 (firstS nums6 S.dk g (.ref tb2))) H2) A S := X2.at_.half fun b hb nb h => by
    rcases nA2 b h with q | q
    · exact nb q
    · exact X1s.at_.held b hb q
  have sG2 : Same G1 (msk (stF A2 (firstS nums6 S.dk g (.ref tb2))) H2) := fun b o h => msk_at (X2.sm _ _ h) fun q => by
    rcases nA2 b q with z | z
    · have y := X1s.fr b (List.mem_append_left _ (by
        simp only [dkF, List.mem_cons, List.not_mem_nil, or_false] at z
        rcases z with rfl | rfl | rfl | rfl <;> simp [SA.all]))
      rw [h] at y; cases y
    · rw [X1s.sm _ _ h] at z; cases z
  have n2st := n2 st2 (by simp)
  clear hA2 n2 n1
  have Y : Keep C H2 (msk (stF A2 (firstS nums6 S.dk g (.ref tb2))) H2) A2 (firstS nums6 S.dk g (.ref tb2)) := ⟨hS2, msk_same, fun b hb => msk_none hb⟩
  generalize msk (stF A2 (firstS nums6 S.dk g (.ref tb2))) H2 = G2 at *
  obtain ⟨dx2, i2⟩ := Y.at_.ins
  unfold stO at i2
  have i2 : H2 A2.st = _ := i2
  rw [est] at n2st
  rw [est]
  walk_at "run1"
  refine w_S2 ⟨A2, _, 0, rfl, rfl, Y.at_, fun H3 hS3 st3 => ?_⟩
  have Y3 := Y.stp hS3 st3
  obtain ⟨dx3, i3⟩ := Y3.at_.ins
  unfold stO at i3
  have ok3 := res_st (z := 0) (nums6_ok (D := S.dk) (g := g) (tb := .ref tb2)) (by decide)
  walk_at "run1"
  refine w_S2 ⟨1, 1, rfl, rfl, by decide, by decide, fun lb hlb H4 s4 e4 => ?_⟩
  have Y4 := Y3.same s4
  walk_at "run1"
  cases ef : freeL nums6 (posL nums6) with
  | nil => exact absurd ef nums6_free
  | cons kf tf =>
    refine w_S2 ⟨A2, _, some (blkF 1 1), rfl, WordsV.good (SqL.of e4) (blkF_blk _ _), Y4.at_, ok3, (fun h => by cases h), fun ws e => ⟨fun h => ?_, fun kk t ef' hr H5 lm tp hS5 st5 htp e5 => ?_⟩⟩
    · exfalso
      have h : ((freeL nums6 (posL nums6)).length : Int) ≤ 0 := h
      rw [ef, List.length_cons] at h
      omega
    · have Y5 := Y4.stp hS5 st5
      obtain ⟨dx5, i5⟩ := Y5.at_.ins
      unfold stO at i5
      walk_at "run1"
      refine w_S2 ⟨A2, _, rfl, Y5.at_, fun H6 hS6 st6 => ?_⟩
      have Y6 := Y5.stp hS6 st6
      have d6 : DiskAt C H6 A2.d A2.a A2.w A2.n S.dk := Y6.at_.dk
      rw [ed.1, ed.2.1, ed.2.2.1, ed.2.2.2] at d6
      have main : StAt C H6 A S := half.full Y6.sm d6
      obtain ⟨dx6, i6⟩ := Y6.at_.ins
      have nst : A2.st ∉ stF A S := X1s.at_.fresh n2st
      have M : Keep C H6 G1 A S := ⟨main, sG2.trans Y6.sm, X1s.fr⟩
      have gst := X1s.free n2st
      have M2 := M.add i6 nst
      walk_at "run1"
      rename_i l hl
      have M3 := M2.new (o := .lst [.ref st, .ref A2.st]) (same_new hl) hl upd_same
      have gl := M2.free hl
      refine k _ _ l st A2.st M3 (same_updN (same_updN sG1 gst) gl) upd_same ?_ ?_
      · obtain ⟨a, b, c, d, e, f⟩ := I1
        exact ⟨a, b, c, d, upd_old (upd_old e gst) gl, f⟩
      · exact ⟨dx6, A2, _, _, upd_old upd_same gl, ed.1⟩
theorem applyS_some : ∀ (w : List (Int × List Int)) (D : DiskS), applyS D (w.map some) = { D with wr := D.wr ++ w }
  | [], D => by
    show D = { D with wr := D.wr ++ [] }
    rw [List.append_nil]
  | (s, r) :: w, D => by
    show applyS (pushW D s r) (w.map some) = _
    rw [applyS_some w]
    show ({ D with wr := (D.wr ++ [(s, r)]) ++ w } : DiskS) = _
    rw [List.append_assoc]
    rfl
theorem applyS_app (D : DiskS) (u v : List StepD) : applyS D (u ++ v) = applyS (applyS D u) v := by
  unfold applyS
  rw [List.foldl_append]
theorem steps_wrs (S : StS) (a b : Int) : stepsS S a b = (wrsS S).map some ++ [none, some ((S.gen + 1) % 2, headW (S.gen + 1) a b S.sp.nums.length), none] := by
  have e : (newL S).flatMap (blkSteps S) = (wrsS S).map some := by
    unfold wrsS
    rw [List.map_flatMap]
    congr 1
  rw [stepsS_eq, e]
  rfl
theorem lastW_none {t : Int} : ∀ {w : List (Int × List Int)}, (∀ p ∈ w, p.1 ≠ t) → lastW w t = none
  | [], _ => rfl
  | (s, r) :: w, h => by
    show (match lastW w t with | some q => some q | none => if t = s then some r else none) = none
    rw [lastW_none fun p hp => h p (List.mem_cons_of_mem _ hp)]
    exact if_neg fun e => h (s, r) (List.mem_cons_self ..) e.symm
theorem cutS_skip {t : Nat} : ∀ (w : List (Int × List Int)) (rs : List (List Int)) (cs : List Int), (∀ p ∈ w, p.1.toNat ≠ t) → (cutS rs w cs).getD t [] = rs.getD t []
  | [], rs, cs, _ => by rw [cutS_e]
  | _ :: _, _, [], _ => rfl
  | (s, r) :: w, rs, c :: cs, h => by
    show (cutS (rs.set s.toNat (torn c r (rs.getD s.toNat []))) w cs).getD t [] = _
    rw [cutS_skip w _ cs fun p hp => h p (List.mem_cons_of_mem _ hp), List.getD_eq_getElem?_getD, List.getElem?_set_ne (h (s, r) (List.mem_cons_self ..)), ← List.getD_eq_getElem?_getD]
def Sec8 (rs : List (List Int)) : Prop := ∀ t : Nat, t < rs.length → (rs.getD t []).length = 8
theorem Sec8.set {rs : List (List Int)} {k : Nat} {r : List Int} (x : Sec8 rs) (h : r.length = 8) : Sec8 (rs.set k r) := fun t ht => by
  rw [List.length_set] at ht
  rw [List.getD_eq_getElem?_getD]
  by_cases q : k = t
  · subst q
    rw [List.getElem?_set_self ht]
    exact h
  · rw [List.getElem?_set_ne q, ← List.getD_eq_getElem?_getD]
    exact x t ht
theorem Sec8.cut : ∀ (w : List (Int × List Int)) {rs : List (List Int)} (cs : List Int), Sec8 rs → (∀ p ∈ w, p.1.toNat < rs.length ∧ p.2.length = 8) → Sec8 (cutS rs w cs)
  | [], rs, cs, x, _ => by rw [cutS_e]; exact x
  | _ :: _, _, [], x, _ => x
  | (s, r) :: w, rs, c :: cs, x, h => by
    obtain ⟨h1, h2⟩ := h (s, r) (List.mem_cons_self ..)
    exact Sec8.cut w cs (x.set (torn_len h2 (x _ h1))) fun p hp => by rw [List.length_set]; exact h p (List.mem_cons_of_mem _ hp)
theorem Sec8.flush : ∀ (w : List (Int × List Int)) {rs : List (List Int)}, Sec8 rs → (∀ p ∈ w, p.2.length = 8) → Sec8 (flushS rs w)
  | [], _, x, _ => x
  | (s, r) :: w, rs, x, h => Sec8.flush w (x.set (h (s, r) (List.mem_cons_self ..))) fun p hp => h p (List.mem_cons_of_mem _ hp)
theorem Rd8.sec {D : DiskS} (h : Rd8 D) (w : D.wr = []) : Sec8 D.secs := fun t ht => by
  have z := h (t : Int) (by omega) (by omega)
  rw [rdS_flat w, Int.toNat_natCast] at z
  exact z
theorem Sec8.rd {D : DiskS} (h : Sec8 D.secs) (w : D.wr = []) : Rd8 D := fun s h0 h1 => by
  rw [rdS_flat w]
  exact h _ (by omega)
/-- the writes of the new blocks -/
theorem wrs_ok {C : Ex} {H : Hp} {A : SA} {S : StS} (x : StAt C H A S) (ok : StOk S) (dk : Dsk S) : ∀ p ∈ wrsS S, ∃ k ∈ newL S, ∃ j : Nat, j < 4 ∧ p.1 = 4 * (k : Int) + (j : Int) ∧ p.2.length = 8 := fun p hp => by
  obtain ⟨k, hk, hp⟩ := List.mem_flatMap.mp hp
  unfold blkWr at hp
  obtain ⟨j, hj, rfl⟩ := List.mem_map.mp hp
  have hj := List.mem_range.mp hj
  have l := blkS_len x dk (newL_mem ok hk).2
  exact ⟨k, hk, j, hj, rfl, by rw [List.length_take, List.length_drop, l]; omega⟩
/-- the head from before, or the next one -/
theorem pres_is {row : Nat → List Int} {G a b mark : Int} (h0 : 1 ≤ G) (hp : row (G % 2).toNat = headW G a b 96) (ho : rw8 (row (1 - (G % 2).toNat)) 7 < G) (hm : mark ≤ G) (a5 : 5 ≤ a ∧ a < 96) (b1 : 1 ≤ b ∧ b ≤ G) : presH row 96 mark = some (headW G a b 96) := by
  have w0 : rw8 (headW G a b 96) 0 = G := rfl
  have fit : fitH (headW G a b 96) 96 = true := by
    unfold fitH headW rw8
    simp
    omega
  have bst : bestH row 2 = some (G % 2).toNat := by
    have v : ∀ s : Int, s = G % 2 → validH s (headW G a b 96) = true := fun s hs => by
      unfold validH
      rw [w0, show rw8 (headW G a b 96) 7 = G from rfl, decide_eq_true rfl, decide_eq_false (show ¬ G = 0 by omega), decide_eq_true (show G % 2 = s from hs.symm)]
      rfl
    have e1 : bestH row 1 = if validH 0 (row 0) = true then some 0 else none := by
      show (if validH ((0 : Nat) : Int) (row 0) = true then _ else _) = _
      rfl
    have e2 : bestH row 2 = if validH 1 (row 1) = true then (match bestH row 1 with
      | none => some 1
      | some j => if rw8 (row 1) 0 > rw8 (row j) 0 then some 1 else some j) else bestH row 1 := rfl
    have lt : ∀ (s : Int) (r : List Int), validH s r = true → rw8 r 7 < G → rw8 r 0 < G := fun s r h h7 => by
      unfold validH at h
      have := of_decide_eq_true (Bool.and_eq_true_iff.mp h).1
      omega
    rcases (show G % 2 = 0 ∨ G % 2 = 1 by omega) with z | z
    · rw [z] at hp ho ⊢
      have hp : row 0 = headW G a b 96 := hp
      have ho : rw8 (row 1) 7 < G := ho
      rw [e2, e1, hp, if_pos (v 0 z.symm)]
      dsimp only
      split
      · rename_i h
        rw [hp, w0, if_neg (by have := lt 1 _ h ho; omega)]
        rfl
      · rfl
    · rw [z] at hp ho ⊢
      have hp : row 1 = headW G a b 96 := hp
      have ho : rw8 (row 0) 7 < G := ho
      rw [e2, e1, hp, if_pos (v 1 z.symm)]
      cases hv : validH 0 (row 0) with
      | false => rfl
      | true =>
        rw [if_pos rfl]
        dsimp only
        rw [w0, if_pos (by have := lt 0 _ hv ho; omega)]
        rfl
  unfold presH
  rw [bst]
  dsimp only
  rw [hp, w0, fit, if_neg]
  rintro (h | h | h)
  · omega
  · cases h
  · omega
theorem torn7 {z : Int} {r old : List Int} (h : r.length = 8) (h' : old.length = 8) (z0 : 0 ≤ z) (z8 : z < 8) : rw8 (torn z r old) 7 = rw8 old 7 := by
  unfold rw8 torn
  rw [List.getD_eq_getElem?_getD, List.getElem?_append_right (by rw [List.length_take]; omega), List.getElem?_drop, List.length_take, show z.toNat + (7 - min z.toNat r.length) = 7 by omega, ← List.getD_eq_getElem?_getD]
theorem torn8 {r old : List Int} (h : r.length = 8) (h' : old.length = 8) : torn 8 r old = r := by
  unfold torn
  rw [show (8 : Int).toNat = 8 from rfl, List.take_of_length_le (by omega), List.drop_eq_nil_of_le (by omega), List.append_nil]
/-- the disk behind a cut: the present head is the one from before -/
structure OldD (D D2 : DiskS) (S : StS) (g : Int) : Prop where
  on : DskOn D2 96 0
  row : ∀ t : Int, 0 ≤ t → t < 384 → t ≠ (g + 1) % 2 → (∀ k ∈ newL S, t < 4 * (k : Int) ∨ 4 * (k : Int) + 4 ≤ t) → rdS D2 t = rdS D t
  plc : rw8 (rdS D2 ((g + 1) % 2)) 7 < g
theorem cutD_on {D : DiskS} {cs : List Int} (bl : D.blocks = 96) (sz : D.secs.length = 384) (s8 : Sec8 D.secs) (w8 : ∀ p ∈ D.wr, p.1.toNat < D.secs.length ∧ p.2.length = 8) : DskOn (cutD D cs) 96 0 := by
  have l : (cutD D cs).secs.length = 384 := by show (cutS D.secs D.wr cs).length = 384; rw [cutS_len]; exact sz
  exact ⟨⟨by show 96 ≤ D.blocks ∧ D.blocks ≤ 256; omega, by rw [l]; show ((384 : Nat) : Int) = 4 * D.blocks; omega, fun p h => (by cases h), Nat.zero_le _⟩, rfl, rfl, bl, Sec8.rd (Sec8.cut _ _ s8 w8) rfl, Nat.le_refl 0⟩
section cutc
variable {C : Ex} {H : Hp} {A : SA} {S : StS} {a b g : Int}
/-- what is known ahead of the commit -/
structure PreC (C : Ex) (H : Hp) (A : SA) (S : StS) (g : Int) : Prop where
  at_ : StAt C H A S
  ok : StOk S
  dk : Dsk S
  on : DskOn (lefD S.dk none true) 96 0
  wr : S.dk.wr = []
  ln : S.sp.nums.length = 96
  gn : S.gen = g
  g0 : 1 ≤ g
  oth : rw8 (rdS S.dk (1 - g % 2)) 7 < g
theorem PreC.sz (x : PreC C H A S g) : S.dk.secs.length = 384 := by
  have h : ((lefD S.dk none true).secs.length : Int) = 4 * (lefD S.dk none true).blocks := x.on.ok.sz
  have e : (lefD S.dk none true).blocks = 96 := x.on.bl
  rw [e] at h
  have h : (S.dk.secs.length : Int) = 4 * 96 := h
  omega
theorem PreC.sec (x : PreC C H A S g) : Sec8 S.dk.secs := Rd8.sec (D := S.dk) x.dk.r8 x.wr
/-- the disk with the first steps done -/
theorem PreC.part (x : PreC C H A S g) {c : Nat} (h : c ≤ (wrsS S).length) : applyS S.dk ((stepsS S a b).take c) = { S.dk with wr := (wrsS S).take c } := by
  rw [steps_wrs, List.take_append_of_le_length (by rw [List.length_map]; exact h), ← List.map_take, applyS_some, x.wr, List.nil_append]
theorem PreC.part1 (x : PreC C H A S g) : applyS S.dk ((stepsS S a b).take ((wrsS S).length + 1)) = { S.dk with secs := flushS S.dk.secs (wrsS S), wr := [] } := by
  rw [steps_wrs, List.take_append, List.take_of_length_le (by rw [List.length_map]; omega), List.length_map, show (wrsS S).length + 1 - (wrsS S).length = 1 by omega, applyS_app, applyS_some, x.wr, List.nil_append]
  rfl
theorem PreC.part2 (x : PreC C H A S g) : applyS S.dk ((stepsS S a b).take ((wrsS S).length + 2)) = { S.dk with secs := flushS S.dk.secs (wrsS S), wr := [((g + 1) % 2, headW (g + 1) a b 96)] } := by
  rw [steps_wrs, List.take_append, List.take_of_length_le (by rw [List.length_map]; omega), List.length_map, show (wrsS S).length + 2 - (wrsS S).length = 2 by omega, applyS_app, applyS_some, x.wr, List.nil_append, x.gn, x.ln]
  rfl
theorem PreC.part3 (x : PreC C H A S g) : applyS S.dk (stepsS S a b) = { S.dk with secs := (flushS S.dk.secs (wrsS S)).set ((g + 1) % 2).toNat (headW (g + 1) a b 96), wr := [] } := by
  rw [steps_wrs, applyS_app, applyS_some, x.wr, List.nil_append, x.gn, x.ln]
  rfl
theorem PreC.out (x : PreC C H A S g) {t : Int} (h : ∀ k ∈ newL S, t < 4 * (k : Int) ∨ 4 * (k : Int) + 4 ≤ t) : ∀ p ∈ wrsS S, p.1 ≠ t := fun p hp e => by
  obtain ⟨k, hk, j, hj, e2, _⟩ := wrs_ok x.at_ x.ok x.dk p hp
  have := h k hk
  omega
theorem PreC.low (x : PreC C H A S g) {t : Int} (h : t < 20) : ∀ k ∈ newL S, t < 4 * (k : Int) ∨ 4 * (k : Int) + 4 ≤ t := fun k hk => by
  have := newL_mem x.ok hk
  omega
theorem PreC.flush (x : PreC C H A S g) {t : Int} (h0 : 0 ≤ t) (h1 : t < 384) (h : ∀ k ∈ newL S, t < 4 * (k : Int) ∨ 4 * (k : Int) + 4 ≤ t) : (flushS S.dk.secs (wrsS S)).getD t.toNat [] = S.dk.secs.getD t.toNat [] := by
  have sz := x.sz
  rw [flushS_get t h0 _ _ (by omega) fun p hp => by
    obtain ⟨k, hk, j, hj, e2, _⟩ := wrs_ok x.at_ x.ok x.dk p hp
    omega, lastW_none (x.out h)]
  rfl
theorem PreC.w8 (x : PreC C H A S g) : ∀ p ∈ wrsS S, p.1.toNat < S.dk.secs.length ∧ p.2.length = 8 := fun p hp => by
  obtain ⟨k, hk, j, hj, e2, e3⟩ := wrs_ok x.at_ x.ok x.dk p hp
  have := newL_mem x.ok hk
  have := x.sz
  have := x.ln
  exact ⟨by omega, e3⟩
theorem PreC.plc (x : PreC C H A S g) : rw8 (S.dk.secs.getD ((g + 1) % 2).toNat []) 7 < g := by
  have z := x.oth
  rw [rdS_flat x.wr, show 1 - g % 2 = (g + 1) % 2 by omega] at z
  exact z
/-- the power failed ahead of the head's write, or it was not kept -/
theorem PreC.old (x : PreC C H A S g) {c : Nat} {cs : List Int} (hc : c ≤ (wrsS S).length + 1 ∨ (c = (wrsS S).length + 2 ∧ cs.take 1 ≠ [8])) (h8 : ∀ z ∈ cs, 0 ≤ z ∧ z ≤ 8) : OldD S.dk (cutD (fallD S.dk (stepsS S a b) c) cs) S g := by
  have sz := x.sz
  have bl : S.dk.blocks = 96 := x.on.bl
  have lfl : (flushS S.dk.secs (wrsS S)).length = 384 := by rw [flushS_len]; exact sz
  have s8f := Sec8.flush (wrsS S) x.sec fun p hp => (x.w8 p hp).2
  have low : ∀ k ∈ newL S, (g + 1) % 2 < 4 * (k : Int) ∨ 4 * (k : Int) + 4 ≤ (g + 1) % 2 := x.low (by omega)
  rcases Nat.lt_or_ge (wrsS S).length c with q | q
  · rcases hc with hc | ⟨hc, h1⟩
    · obtain rfl : c = (wrsS S).length + 1 := by omega
      unfold fallD
      rw [x.part1]
      refine ⟨cutD_on bl lfl s8f fun p h => (by cases h), fun t t0 t1 _ h => ?_, ?_⟩
      · rw [rdS_flat rfl, rdS_flat x.wr]
        show (cutS (flushS S.dk.secs (wrsS S)) [] cs).getD t.toNat [] = _
        rw [cutS_e]
        exact x.flush t0 t1 h
      · rw [rdS_flat rfl]
        show rw8 ((cutS (flushS S.dk.secs (wrsS S)) [] cs).getD ((g + 1) % 2).toNat []) 7 < g
        rw [cutS_e, x.flush (by omega) (by omega) low]
        exact x.plc
    · subst hc
      unfold fallD
      rw [x.part2]
      refine ⟨cutD_on bl lfl s8f fun p h => ?_, fun t t0 t1 tp h => ?_, ?_⟩
      · have h : p ∈ [((g + 1) % 2, headW (g + 1) a b 96)] := h
        rw [List.mem_singleton.mp h]
        exact ⟨by show ((g + 1) % 2).toNat < (flushS S.dk.secs (wrsS S)).length; omega, rfl⟩
      · rw [rdS_flat rfl, rdS_flat x.wr]
        show (cutS (flushS S.dk.secs (wrsS S)) [((g + 1) % 2, headW (g + 1) a b 96)] cs).getD t.toNat [] = _
        rw [cutS_skip _ _ _ fun p hp => by rw [List.mem_singleton.mp hp]; show ((g + 1) % 2).toNat ≠ t.toNat; omega]
        exact x.flush t0 t1 h
      · rw [rdS_flat rfl]
        show rw8 ((cutS (flushS S.dk.secs (wrsS S)) [((g + 1) % 2, headW (g + 1) a b 96)] cs).getD ((g + 1) % 2).toNat []) 7 < g
        have e := x.flush (t := (g + 1) % 2) (by omega) (by omega) low
        cases cs with
        | nil =>
          rw [cutS_nil, e]
          exact x.plc
        | cons z cs =>
          have hz := h8 z (List.mem_cons_self ..)
          have nz : z ≠ 8 := fun q => h1 (by rw [q]; rfl)
          show rw8 ((cutS ((flushS S.dk.secs (wrsS S)).set ((g + 1) % 2).toNat (torn z (headW (g + 1) a b 96) ((flushS S.dk.secs (wrsS S)).getD ((g + 1) % 2).toNat []))) [] cs).getD ((g + 1) % 2).toNat []) 7 < g
          rw [cutS_e, List.getD_eq_getElem?_getD, List.getElem?_set_self (by omega)]
          show rw8 (torn z (headW (g + 1) a b 96) ((flushS S.dk.secs (wrsS S)).getD ((g + 1) % 2).toNat [])) 7 < g
          rw [torn7 rfl (s8f _ (by omega)) hz.1 (by omega), e]
          exact x.plc
  · unfold fallD
    rw [x.part q]
    have wt : ∀ p ∈ (wrsS S).take c, p ∈ wrsS S := fun p hp => List.mem_of_mem_take hp
    refine ⟨cutD_on bl sz x.sec fun p hp => x.w8 p (wt p hp), fun t t0 t1 _ h => ?_, ?_⟩
    · rw [rdS_flat rfl, rdS_flat x.wr]
      show (cutS S.dk.secs ((wrsS S).take c) cs).getD t.toNat [] = _
      exact cutS_skip _ _ _ fun p hp e => x.out h p (wt p hp) (by
        obtain ⟨k, hk, j, hj, e2, _⟩ := wrs_ok x.at_ x.ok x.dk p (wt p hp)
        omega)
    · rw [rdS_flat rfl]
      show rw8 ((cutS S.dk.secs ((wrsS S).take c) cs).getD ((g + 1) % 2).toNat []) 7 < g
      rw [cutS_skip _ _ _ fun p hp e => x.out low p (wt p hp) (by
        obtain ⟨k, hk, j, hj, e2, _⟩ := wrs_ok x.at_ x.ok x.dk p (wt p hp)
        omega)]
      exact x.plc
/-- the head's write was kept, or all was done -/
theorem PreC.new2 (x : PreC C H A S g) {cs : List Int} (h : cs.take 1 = [8]) : DskOn (cutD (fallD S.dk (stepsS S a b) ((wrsS S).length + 2)) cs) 96 0 ∧ (cutD (fallD S.dk (stepsS S a b) ((wrsS S).length + 2)) cs).secs = (applyS S.dk (stepsS S a b)).secs := by
  have sz := x.sz
  have bl : S.dk.blocks = 96 := x.on.bl
  have lfl : (flushS S.dk.secs (wrsS S)).length = 384 := by rw [flushS_len]; exact sz
  have s8f := Sec8.flush (wrsS S) x.sec fun p hp => (x.w8 p hp).2
  unfold fallD
  rw [x.part2, x.part3]
  refine ⟨cutD_on bl lfl s8f fun p hp => ?_, ?_⟩
  · have hp : p ∈ [((g + 1) % 2, headW (g + 1) a b 96)] := hp
    rw [List.mem_singleton.mp hp]
    exact ⟨by show ((g + 1) % 2).toNat < (flushS S.dk.secs (wrsS S)).length; omega, rfl⟩
  · cases cs with
    | nil => cases h
    | cons z cs =>
      have z8 : z = 8 := by
        have h : [z] = [8] := h
        exact (List.cons.inj h).1
      subst z8
      show cutS ((flushS S.dk.secs (wrsS S)).set ((g + 1) % 2).toNat (torn 8 (headW (g + 1) a b 96) ((flushS S.dk.secs (wrsS S)).getD ((g + 1) % 2).toNat []))) [] cs = _
      rw [cutS_e, torn8 rfl (s8f _ (by omega))]
theorem PreC.new3 (x : PreC C H A S g) {cs : List Int} {l : Nat} : DskOn (cutD (lefD (applyS S.dk (stepsS S a b)) (some ((l : Nat) : Int)) true) cs) 96 0 ∧ (cutD (lefD (applyS S.dk (stepsS S a b)) (some ((l : Nat) : Int)) true) cs).secs = (applyS S.dk (stepsS S a b)).secs := by
  have sz := x.sz
  have bl : S.dk.blocks = 96 := x.on.bl
  have lfl : (flushS S.dk.secs (wrsS S)).length = 384 := by rw [flushS_len]; exact sz
  have s8f := Sec8.flush (wrsS S) x.sec fun p hp => (x.w8 p hp).2
  rw [x.part3]
  refine ⟨cutD_on bl (by show ((flushS S.dk.secs (wrsS S)).set ((g + 1) % 2).toNat (headW (g + 1) a b 96)).length = 384; rw [List.length_set]; exact lfl) (s8f.set rfl) fun p hp => (by cases hp), ?_⟩
  show cutS ((flushS S.dk.secs (wrsS S)).set ((g + 1) % 2).toNat (headW (g + 1) a b 96)) [] cs = _
  rw [cutS_e]
end cutc
section cutn
variable {C : Ex} {H : Hp} {A : SA} {S : StS} {a b g : Int} {D2 : DiskS}
theorem PreC.nrow (x : PreC C H A S g) (e : D2.secs = (applyS S.dk (stepsS S a b)).secs) (w : D2.wr = []) {t : Int} (h0 : 0 ≤ t) (h1 : t < 384) (n : t ≠ (g + 1) % 2) (h : ∀ k ∈ newL S, t < 4 * (k : Int) ∨ 4 * (k : Int) + 4 ≤ t) : rdS D2 t = rdS S.dk t := by
  rw [rdS_flat w, rdS_flat x.wr, e, x.part3]
  show ((flushS S.dk.secs (wrsS S)).set ((g + 1) % 2).toNat (headW (g + 1) a b 96)).getD t.toNat [] = _
  rw [List.getD_eq_getElem?_getD, List.getElem?_set_ne (by omega), ← List.getD_eq_getElem?_getD]
  exact x.flush h0 h1 h
theorem PreC.nhead (x : PreC C H A S g) (e : D2.secs = (applyS S.dk (stepsS S a b)).secs) (w : D2.wr = []) : rdS D2 ((g + 1) % 2) = headW (g + 1) a b 96 := by
  have sz := x.sz
  rw [rdS_flat w, e, x.part3]
  show ((flushS S.dk.secs (wrsS S)).set ((g + 1) % 2).toNat (headW (g + 1) a b 96)).getD ((g + 1) % 2).toNat [] = _
  rw [List.getD_eq_getElem?_getD, List.getElem?_set_self (by rw [flushS_len]; omega)]
  rfl
theorem rdB4_eq {D D' : DiskS} {k : Int} (h : ∀ j : Nat, j < 4 → rdS D (4 * k + (j : Int)) = rdS D' (4 * k + (j : Int))) : rdB4 D k 4 = rdB4 D' k 4 := by
  unfold rdB4
  exact fm_congr fun p hp => h p (List.mem_range.mp hp)
/-- a block that is not new reads as before -/
theorem far_blk {k : Nat} (nk : k ∉ newL S) {j : Nat} (hj : j < 4) : ∀ m ∈ newL S, 4 * ((k : Nat) : Int) + (j : Int) < 4 * (m : Int) ∨ 4 * (m : Int) + 4 ≤ 4 * ((k : Nat) : Int) + (j : Int) := fun m hm => by
  have : m ≠ k := fun e => nk (e ▸ hm)
  omega
theorem PreC.nblk (x : PreC C H A S g) (e : D2.secs = (applyS S.dk (stepsS S a b)).secs) (w : D2.wr = []) (ha : 0 ≤ a) (hb : 0 ≤ b) {k : Nat} (h5 : 5 ≤ k) (h9 : k < 96) : rdB4 D2 (k : Nat) 4 = blkS S (k : Nat) := by
  by_cases hk : k ∈ newL S
  · have oks := stepsS_ok x.at_ x.ok x.dk ha hb (by have := x.gn; have := x.g0; omega)
    rw [← blk_after x.at_ x.ok x.dk x.wr oks hk]
    obtain ⟨_, e2⟩ := stepsS_after (a := a) (b := b) x.wr
    exact rdB4_eq fun j _ => by rw [rdS_flat w, rdS_flat e2, e]
  · have hc : S.cont (k : Nat) = none := by
      cases q : S.cont (k : Nat) with
      | none => rfl
      | some ws => exact absurd (List.mem_filter.mpr ⟨List.mem_range.mpr (by have := x.ln; omega), by rw [q]; rfl⟩) hk
    have eb : blkS S (k : Nat) = rdB4 S.dk (k : Nat) 4 := by unfold blkS; rw [hc]; rfl
    rw [eb]
    exact rdB4_eq fun j hj => x.nrow e w (by omega) (by omega) (by omega) (far_blk hk hj)
theorem OldD.blk {D : DiskS} (x : OldD D D2 S g) {k : Nat} (h5 : 5 ≤ k) (h9 : k < 96) (nk : k ∉ newL S) : rdB4 D2 (k : Nat) 4 = rdB4 D (k : Nat) 4 :=
  rdB4_eq fun j hj => x.row _ (by omega) (by omega) (by omega) (far_blk nk hj)
theorem mark_same {D D' : DiskS} : ∀ i, i ≤ 16 → (∀ j : Nat, j < 16 → rdS D' (4 + (j : Int)) = rdS D (4 + (j : Int))) → markD D' i = markD D i
  | 0, _, _ => rfl
  | i + 1, hi, h => by
    unfold markD
    rw [h i (by omega), mark_same i (by omega) h]
end cutn
theorem Keep.into {C : Ex} {H H' G : Hp} {A : SA} {S : StS} (x : Keep C H G A S) (s : Same H H') : Same G (msk (stF A S) H') := fun b o h => msk_at (s _ _ (x.sm _ _ h)) fun q => by
  rw [x.fr b q] at h
  cases h
theorem WorkS.setTab {B S : StS} {i : Nat} {c : V} (x : WorkS B S i) : WorkS { B with tab := c } { S with tab := c } i :=
  ⟨⟨x.ok.spo, x.ok.sz, x.ok.rs, x.ok.new, x.ok.neg, x.ok.lo5⟩, x.dk, x.gen, x.ht, x.hb, rfl, x.res, x.ln, x.held, x.kl, x.fr, x.l5⟩
theorem LaidS.work {S : StS} {g e : Int} {t : Addr} (x : LaidS S g t e) (ok : StOk S) : WorkS S S 0 := ⟨ok, rfl, rfl, rfl, rfl, rfl, x.res, x.ln, rfl, by rw [x.kv]; exact Nat.le_refl 0, by have := x.fr; omega, x.l5⟩
def useL (ns : List Int) (n : Nat) : List Nat := (List.range n).filter fun i => decide (0 < ns.getD (5 + i) 0)
theorem useL_yes {ns : List Int} {i : Nat} (h : 0 < ns.getD (5 + i) 0) : useL ns (i + 1) = useL ns i ++ [i] := by
  unfold useL
  rw [List.range_succ, List.filter_append]
  congr 1
  exact List.filter_cons_of_pos (decide_eq_true h)
theorem useL_no {ns : List Int} {i : Nat} (h : ¬ 0 < ns.getD (5 + i) 0) : useL ns (i + 1) = useL ns i := by
  unfold useL
  rw [List.range_succ, List.filter_append]
  have z : [i].filter (fun i => decide (0 < ns.getD (5 + i) 0)) = [] := List.filter_cons_of_neg (by rw [decide_eq_false h]; exact Bool.false_ne_true)
  rw [z, List.append_nil]
theorem useL_len (ns : List Int) (n : Nat) : (useL ns n).length ≤ n := Nat.le_trans (List.length_filter_le _ _) (by rw [List.length_range]; exact Nat.le_refl _)
def pairL (f : Nat → List Int) (l : List Nat) : List (Nat × List Int) := l.map fun i => (5 + i, f (5 + i))
theorem WrsAt.take {H : Hp} {vs : List V} {ws : List (Int × List Int)} (x : WrsAt H vs ws) (n : Nat) : WrsAt H (vs.take n) (ws.take n) := by
  refine ⟨by rw [List.length_take, List.length_take, x.1], fun i v h => ?_⟩
  have hi : i < n := by
    have := (List.getElem?_eq_some_iff.mp h).1
    rw [List.length_take] at this
    omega
  rw [List.getElem?_take, if_pos hi] at h
  obtain ⟨s, r, e, y⟩ := x.2 i v h
  exact ⟨s, r, by rw [List.getElem?_take, if_pos hi]; exact e, y⟩
abbrev sp_law (K : PySem.W.Frag) (_ : Ex) : Sp := spLaw K
def t_law (K : PySem.W.Frag) (C : Ex) (E : XK) : TS :=
  tSeq (tAsg (uCall (sp__law_tape K C) (WB E) (tCons (tVar 0) (tNil))) (gName 1))
  (tSeq (tAsg (tOp (uAdd K) (tC (.int 1)) (tOp (uMod) (uCall (sp__law_at K C) (WB E) (tCons (tVar 1) (tCons (tC (.int 0)) (tNil)))) (tC (.int 9)))) (gName 2))
  (tSeq (tAsg (uCall (sp__law_store K C) (WB E) (tCons (tVar 1) (tCons (tVar 2) (tNil)))) (gName 3))
  (tSeq (tAsg (uFld C.Store "disk" (tVar 3)) (gName 4))
  (tSeq (tAsg (tLc (iRng2 (tCons (tC (.int 5)) (tCons (tC (.int 30)) (tNil)))) (gName 19) (tTest (tOp (uGt) (uMeth C.Store "uses" (sp_Store_uses K C) (fun _ _ _ _ => False) (tVar 3) (tCons (tTup (tCons (tVar 19) (tCons (tC (.int 1)) (tNil)))) (tNil))) (tC (.int 0)))) (tTup (tCons (tVar 19) (tCons (uCall (sp__law_block K C) (fun _ _ _ _ => False) (tCons (tVar 19) (tCons (uCall (sp__law_at K C) (fun _ _ _ _ => False) (tCons (tVar 1) (tCons (tC (.int 1)) (tNil)))) (tNil)))) (tNil)))) [19]) (gName 5))
  (tSeq (tAsg (tOp (uMod) (uCall (sp__law_at K C) (WB E) (tCons (tVar 1) (tCons (tC (.int 6)) (tNil)))) (tC (.int 17))) (gName 6))
  (tCut (tIfS (tTest (tOp (uEq K) (tOp (uMod) (tOp (uDiv) (uCall (sp__law_at K C) (WB E) (tCons (tVar 1) (tCons (tC (.int 6)) (tNil)))) (tC (.int 17))) (tC (.int 8))) (tC (.int 7)))) (tAsg (tC (.int 60)) (gName 6)) (tNext))
  (tSeq (tAsg (tOp (uAdd K) (tLst (tCons (uMeth C.Store "make" (sp_Store_make K C) (WB E) (tVar 3) (tCons (uCall (sp__law_block K C) (WB E) (tCons (uCall (sp__law_at K C) (WB E) (tCons (tVar 1) (tCons (tC (.int 5)) (tNil)))) (tCons (tC (.int 1)) (tNil)))) (tNil))) (tNil))) (uCall (sp__law_work K C) (WB E) (tCons (tVar 3) (tCons (tVar 1) (tCons (tC (.int 8)) (tCons (tVar 6) (tNil))))))) (gName 7))
  (tSeq (tDrop (uMeth C.Store "use_table" (sp_Store_use_table K C) (WB E) (tVar 3) (tCons (tOp (uIx K) (tVar 7) (tC (.int 0))) (tNil))))
  (tCut (tIfS (tTest (tOp (uEq K) (uMeth C.Store "uses" (sp_Store_uses K C) (WB E) (tVar 3) (tCons (tOp (uIx K) (tVar 7) (tC (.int 0))) (tNil))) (tC (.int 0)))) (tDrop (uMeth C.Store "use_table" (sp_Store_use_table K C) (WB E) (tVar 3) (tCons (uMeth C.Store "make" (sp_Store_make K C) (WB E) (tVar 3) (tCons (uCall (sp__law_block K C) (WB E) (tCons (tC (.int 3)) (tCons (tC (.int 4)) (tNil)))) (tNil))) (tNil)))) (tNext))
  (tSeq (tAsg (uFld C.Store "table" (tVar 3)) (gName 8))
  (tSeq (tAsg (tLc (iRng2 (tCons (tC (.int 5)) (tCons (tC (.int 96)) (tNil)))) (gName 19) (tTest (tOp (uGt) (uMeth C.Store "uses" (sp_Store_uses K C) (fun _ _ _ _ => False) (tVar 3) (tCons (tTup (tCons (tVar 19) (tCons (tC (.int 1)) (tNil)))) (tNil))) (tC (.int 0)))) (tTup (tCons (tVar 19) (tCons (uMeth C.Store "read" (sp_Store_read K C) (fun _ _ _ _ => False) (tVar 3) (tCons (tTup (tCons (tVar 19) (tCons (tC (.int 1)) (tNil)))) (tNil))) (tNil)))) [19]) (gName 9))
  (tSeq (tAsg (uCall (sp__law_due K C) (WB E) (tCons (tVar 3) (tNil))) (gName 10))
  (tSeq (tAsg (tLst (tCons (tTup (tCons (tOp (uMod) (tCB (uInt) (tCons (tOp (uAdd K) (tVar 2) (tC (.int 1))) (tNil))) (tC (.int 2))) (tCons (tLst (tCons (tOp (uAdd K) (tVar 2) (tC (.int 1))) (tCons (tOp (uIx K) (tVar 8) (tC (.int 0))) (tCons (tOp (uIx K) (tVar 8) (tC (.int 1))) (tCons (tC (.int 4)) (tCons (tC (.int 96)) (tCons (tC (.int 0)) (tCons (tC (.int 0)) (tCons (tOp (uAdd K) (tVar 2) (tC (.int 1))) (tNil)))))))))) (tNil)))) (tNil))) (gName 11))
  (tSeq (tAsg (uCall (sp__law_others K C) (WB E) (tCons (tVar 4) (tCons (tVar 2) (tNil)))) (gName 12))
  (tSeq (tAsg (tOp (uAdd K) (tCB (uLen K) (tCons (tVar 10) (tNil))) (tC (.int 3))) (gName 13))
  (tSeq (tAsg (tOp (uAdd K) (tOp (uMul) (uCall (sp__law_at K C) (WB E) (tCons (tVar 1) (tCons (tC (.int 7)) (tNil)))) (tC (.int 1000))) (uCall (sp__law_at K C) (WB E) (tCons (tVar 1) (tCons (tC (.int 48)) (tNil))))) (gName 14))
  (tSeq (tAsg (tOp (uMod) (tOp (uDiv) (tVar 14) (tC (.int 7))) (tOp (uAdd K) (tVar 13) (tC (.int 2)))) (gName 15))
  (tCut (tIfS (tTest (tOp (uEq K) (tOp (uMod) (tVar 14) (tC (.int 7))) (tC (.int 5)))) (tAsg (tOp (uSub) (tVar 13) (tC (.int 1))) (gName 15)) (tNext))
  (tCut (tIfS (tTest (tOp (uEq K) (tOp (uMod) (tVar 14) (tC (.int 7))) (tC (.int 6)))) (tAsg (tOp (uSub) (tVar 13) (tC (.int 2))) (gName 15)) (tNext))
  (tSeq (tDrop (uMeth C.Disk "fail_after" (sp_Disk_fail_after K C) (WB E) (tVar 4) (tCons (tVar 15) (tNil))))
  (tSeq (tIfS (tTest (tOp (uNe K) (uCall (sp__law_commit K C) (WB E) (tCons (tVar 3) (tNil))) (tOp (uIx K) (tLst (tCons (tC (.str "off")) (tCons (tC (.bl true)) (tNil)))) (tCB (uInt) (tCons (tOp (uGe K) (tVar 15) (tVar 13)) (tNil)))))) (tRet (tC (.bl false))) (tNext))
  (tSeq (tIfS (tTest (tOp (uNe K) (uMeth C.Disk "waiting" (sp_Disk_waiting K C) (WB E) (tVar 4) (tNil)) (tOp (uIx K) (tLst (tCons (tSl (uSl K) (tVar 10) (tNoPart) (tPart (tVar 15))) (tCons (tLst (tNil)) (tCons (tVar 11) (tCons (tLst (tNil)) (tNil)))))) (tCB (uMax K) (tCons (tC (.int 0)) (tCons (tCB (uMin K) (tCons (tC (.int 3)) (tCons (tOp (uSub) (tVar 15) (tCB (uLen K) (tCons (tVar 10) (tNil)))) (tNil)))) (tNil))))))) (tRet (tC (.bl false))) (tNext))
  (tCut (tIfS (tTest (tOp (uLt K) (tVar 15) (tVar 13))) (tFor (iList K (tVar 12)) (gName 16)
  (tIfS (tOr (tTest (tOp (uNe K) (uCall (sp__law_steps K C) (WB E) (tCons (tVar 16) (tNil))) (tC (.str "off")))) (tTest (tOp (uNe K) (uCall (sp__law_commit K C) (WB E) (tCons (tVar 16) (tNil))) (tC (.str "off"))))) (tRet (tC (.bl false))) (tNext))) (tNext))
  (tSeq (tAsg (uCall (sp__law_choices K C) (WB E) (tCons (tVar 1) (tCons (tC (.int 50)) (tCons (tOp (uMod) (tOp (uMul) (uCall (sp__law_at K C) (WB E) (tCons (tVar 1) (tCons (tC (.int 49)) (tNil)))) (tC (.int 7))) (tOp (uAdd K) (tVar 13) (tC (.int 3)))) (tNil))))) (gName 17))
  (tSeq (tDrop (uMeth C.Disk "cut" (sp_Disk_cut K C) (WB E) (tVar 4) (tCons (tCB (uList K) (tCons (tVar 17) (tNil))) (tNil))))
  (tSeq (tAsg (uCall (sp_present_head K C) (WB E) (tCons (tVar 4) (tNil))) (gName 18))
  (tSeq (tIfS (tTest (tOp (uNe K) (uFld C.Head "blocks" (tVar 18)) (tC (.int 96)))) (tRet (tC (.bl false))) (tNext))
  (tSeq (tIfS (tOr (tTest (tOp (uLt K) (tVar 15) (tOp (uSub) (tVar 13) (tC (.int 1))))) (tAnd (tTest (tOp (uEq K) (tVar 15) (tOp (uSub) (tVar 13) (tC (.int 1))))) (tTest (tOp (uNe K) (tSl (uSl K) (tVar 17) (tNoPart) (tPart (tC (.int 1)))) (tLst (tCons (tC (.int 8)) (tNil))))))) (tRet (tAndV (tOp (uEq K) (uFld C.Head "generation" (tVar 18)) (tVar 2)) (tAndV (tOp (uEq K) (uFld C.Head "table" (tVar 18)) (tTup (tCons (tC (.int 5)) (tCons (tC (.int 1)) (tNil))))) (uCall (sp__law_reads K C) (WB E) (tCons (tVar 4) (tCons (tVar 5) (tNil))))))) (tNext))
  (tRet (tAndV (tOp (uEq K) (uFld C.Head "generation" (tVar 18)) (tOp (uAdd K) (tVar 2) (tC (.int 1)))) (tAndV (tOp (uEq K) (uFld C.Head "table" (tVar 18)) (tVar 8)) (uCall (sp__law_reads K C) (WB E) (tCons (tVar 4) (tCons (tVar 9) (tNil)))))))))))))))))))))))))))))))))))
theorem pure_law {K : PySem.W.Frag} {C : Ex} {vs : List V} {H : Hp} {Q : VK} {E : XK} (F : Fa K C) (h : sp_law K C vs H Q E) : t_law K C E { nx := fun _ H' => Q .non H', rt := Q } (start ["_law_script", "_law_tape_here", "_law_generation", "_law_store_here", "_law_disk", "_law_old", "_law_many", "_law_made", "_law_table", "_law_new", "_law_due_here", "_law_top", "_law_others_here", "_law_steps_here", "_law_fuse", "_law_count", "_law_other", "_law_choices_here", "_law_head", "_law_k"] vs) H := by
  obtain ⟨a0, rfl, p, ns0, rfl, hS, hn, kk⟩ := h
  unfold t_law
  walk_at "run1"
  refine w_S1 ⟨p, ns0, rfl, hS, hn, fun B q ts hs hl hq hT => ?_⟩
  have t0 := hT.at 0
  have t1 := hT.at 1
  have t5 := hT.at 5
  have t6 := hT.at 6
  have t7 := hT.at 7
  have t48 := hT.at 48
  have t49 := hT.at 49
  have hlt := hT.2
  walk_at "run1"
  have hG : ∃ g : Int, 1 + ts.getD (Int.toNat 0) 0 % 9 = g ∧ 1 ≤ g ∧ g ≤ 9 := ⟨_, rfl, by show 1 ≤ 1 + ts.getD 0 0 % 9; omega, by show 1 + ts.getD 0 0 % 9 ≤ 9; omega⟩
  obtain ⟨g, eG, g0, g1⟩ := hG
  rw [eG]
  refine w_S2 ⟨q, ts, g, rfl, rfl, hq, hT, g0, by omega, fun H1 G1 A S0 t X1 sG1 ok0 L et => ?_⟩
  have hq1 := X1.sm _ _ (sG1 _ _ hq)
  have ln0 := L.ln
  obtain ⟨dx1, i1⟩ := X1.at_.ins
  unfold stO at i1
  generalize hee : ts.getD 1 0 = e at *
  walk_at "run1"
  refine l_range (fun Dl i H' => Same H1 H' ∧ ∃ us, H' Dl = some (.lst us) ∧ ContAt (msk (Dl :: stF A S0) H') us (pairL (fun k => blkF (k : Nat) e) (useL S0.sp.nums i))) (fun Dl hDl => ⟨same_new hDl, [], upd_same, .nil⟩) ?_ ?_
  · rintro Dl i H2 hDl hi ⟨s2, us, e2, c2⟩
    have hi : i < 25 := hi
    have X2 := X1.same s2
    obtain ⟨dx2, i2⟩ := X2.at_.ins
    unfold stO at i2
    have hq2 := s2 _ _ hq1
    have lu := c2.1
    have ll := useL_len S0.sp.nums i
    unfold pairL at lu
    rw [List.length_map] at lu
    walk_at "run1"
    refine ⟨rfl, ?_⟩
    walk_at "run1"
    rename_i tp htp
    have sx := same_new (o := .tup [.int (5 + (i : Int)), .int 1]) htp
    have s3 := s2.trans sx
    have e3 := upd_old (o := .tup [.int (5 + (i : Int)), .int 1]) e2 htp
    have et3 : upd H2 tp (.tup [.int (5 + (i : Int)), .int 1]) tp = some (.tup [.int (5 + (i : Int)), .int 1]) := upd_same
    generalize upd H2 tp _ = H3 at *
    have X3 := X1.same s3
    have hq3 := s3 _ _ hq1
    refine w_S2 ⟨A, S0, 5 + (i : Int), rfl, ⟨tp, _, rfl, SqT.of et3⟩, X3.at_, ok0, fun h => by unfold outB at h; omega, fun k ek hk => ?_⟩
    obtain rfl : k = 5 + i := by omega
    walk_at "run1"
    · rename_i hu
      have hu : 0 < S0.sp.nums.getD (5 + i) 0 := hu
      rw [show (1 : Int).toNat = 1 from rfl, hee]
      refine w_S2 ⟨_, _, rfl, rfl, by omega, t1, fun lb hlb H4 s4 e4 => ?_⟩
      have X4 := X3.same s4
      walk_at "run1"
      rename_i tq htq
      have mq : msk (Dl :: stF A S0) (upd H4 tq (.tup [.int (5 + (i : Int)), .ref lb])) tq = some (.tup [.int (5 + (i : Int)), .ref lb]) := msk_at upd_same fun h => by
        rcases List.mem_cons.mp h with h | h
        · rw [h, s4 _ _ e3] at htq; cases htq
        · exact X4.at_.fresh htq h
      have s5 := same_new (o := .tup [.int (5 + (i : Int)), .ref lb]) htq
      generalize upd H4 tq _ = H5 at *
      refine ⟨us, s5 _ _ (s4 _ _ e3), lt_line (by omega), same_upd ((s3.trans s4).trans s5) hDl, _, upd_same, ?_⟩
      rw [msk_skip (List.mem_cons_self ..), useL_yes hu]
      unfold pairL
      rw [List.map_append]
      have ek : (5 + (i : Int)) = ((5 + i : Nat) : Int) := by omega
      rw [ek] at mq e4
      exact (c2.same (msk_mono ((sx.trans s4).trans s5))).snoc mq (msk_at (s5 _ _ e4) fun h => by
        rcases List.mem_cons.mp h with h | h
        · rw [h, e3] at hlb; cases hlb
        · exact X3.at_.fresh hlb h) (blkF_blk _ _).1
    · rename_i hu
      walk_at "run1"
      refine ⟨s3, us, e3, ?_⟩
      rw [useL_no hu]
      exact c2.same (msk_mono sx)
  rintro po H2 hpo ⟨s2, vo, eo, co⟩
  have co : ContAt (msk (po :: stF A S0) H2) vo (pairL (fun k => blkF (k : Nat) e) (useL S0.sp.nums 25)) := co
  have X2 := X1.same s2
  have mo := X1.at_.mskNew hpo eo
  have co2 := co.same msk_less
  have sG2 := sG1.trans (X1.into s2)
  have etm := X1.into s2 _ _ et
  have X := X2.all
  clear X1 X2 i1 hq1 co s2 eo hpo
  generalize msk (stF A S0) H2 = G2 at *
  have hq2 := X.sm _ _ (sG2 _ _ hq)
  have W0 := L.work ok0
  walk_at "run1"
  refine w_cut (fun σ H => H = H2 ∧ ∃ m : Int, 0 ≤ m ∧ m ≤ 60 ∧ σ = [some (.ref p), some (.ref q), some (.int g), some (.ref A.st), some (.ref A.d), some (.ref po), some (.int m), none, none, none, none, none, none, none, none, none, none, none, none, none]) ?_ ?_
  · walk_at "run1"
    · exact ⟨rfl, _, by decide, by decide, rfl⟩
    · walk_at "run1"
      exact ⟨rfl, _, by show 0 ≤ ts.getD 6 0 % 17; omega, by show ts.getD 6 0 % 17 ≤ 60; omega, rfl⟩
  rintro σ H ⟨rfl, m, m0, m1, rfl⟩
  obtain ⟨dx2, i2⟩ := X.at_.ins
  unfold stO at i2
  walk_at "run1"
  refine w_S2 ⟨_, _, rfl, rfl, t5, by decide, fun lb hlb H3 s3 e3 => ?_⟩
  walk_at "run1"
  have Y3 := X.same s3
  refine w_S2 ⟨A, S0, some (blkF _ _), rfl, WordsV.good (SqL.of e3) (blkF_blk _ _), Y3.at_, ok0, (fun h => by cases h), fun ws ew => ⟨fun h => absurd h (by have := W0.pos (by decide); omega), fun k1 tf ef hr H4 lm tp1 hS4 st4 htp e4 => ?_⟩⟩
  cases ew
  have W1 := W0.make (l := lm) (ws := blkF (ts.getD (Int.toNat 5) 0) 1) ef
  obtain ⟨hk1, hf1, _⟩ := freeL_head ef
  have k15 : 5 ≤ k1 := by
    rcases Nat.lt_or_ge k1 5 with z | z
    · have := L.l5 k1 z
      unfold isFr at hf1
      have := of_decide_eq_true (Bool.and_eq_true_iff.mp hf1).1
      omega
    · exact z
  have gtp := Y3.free htp
  rw [L.gn] at e4
  have Y4 := (Y3.stp hS4 st4).tup (by rw [W1.ln]; decide) e4
  have sG4 := sG2.trans (same_new (o := .tup [.int (k1 : Nat), .int (g + 1)]) gtp)
  have ss4 := same_new (o := .tup [.int (k1 : Nat), .int (g + 1)]) gtp
  have etp4 : upd G2 tp1 (.tup [.int (k1 : Nat), .int (g + 1)]) tp1 = some (.tup [.int (k1 : Nat), .int (g + 1)]) := upd_same
  obtain ⟨G4, hG4⟩ : ∃ G4, G4 = upd G2 tp1 (.tup [.int (k1 : Nat), .int (g + 1)]) := ⟨_, rfl⟩
  rw [← hG4] at Y4 sG4 ss4 etp4
  clear hG4
  walk_at "run1"
  rename_i l1 hl1
  have Y5 := Y4.new (o := .lst [.ref tp1]) (same_new hl1) hl1 upd_same
  have gl1 := Y4.free hl1
  have sG5 := same_updN (o := .lst [.ref tp1]) sG4 gl1
  have ss5 := same_updN (o := .lst [.ref tp1]) ss4 gl1
  have el15 : upd G4 l1 (.lst [.ref tp1]) l1 = some (.lst [.ref tp1]) := upd_same
  have etp5 := upd_old (o := .lst [.ref tp1]) etp4 gl1
  generalize upd H4 l1 _ = H5 at *
  obtain ⟨G5, hG5⟩ : ∃ G5, G5 = upd G4 l1 (.lst [.ref tp1]) := ⟨_, rfl⟩
  rw [← hG5] at Y5 sG5 ss5 el15 etp5
  clear hG5 Y4 Y3 sG4 ss4 etp4 i2 hS4 st4
  have hq5 := Y5.sm _ _ (sG5 _ _ hq)
  walk_at "run1"
  refine w_S4 ⟨A, _, G5, S0, 1, q, ts, 8, m, rfl, rfl, rfl, rfl, Y5, W1, by decide, sG5 _ _ hq, hT, by decide, ⟨m0, m1⟩, fun H6 G6 S6 l6 vs ks X6 sG6 W6 el6 hp6 hv6 => ?_⟩
  have e16 := X6.sm _ _ (sG6 _ _ el15)
  have e66 := X6.sm _ _ el6
  refine w_cat e16 e66 (by simp only [List.length_cons, List.length_nil]; omega) fun l7 hl7 => ?_
  have X7 := X6.new (o := .lst ([.ref tp1] ++ vs)) (same_new hl7) hl7 upd_same
  have gl7 := X6.free hl7
  have ss7 := (ss5.trans sG6).trans (same_new (o := .lst ([.ref tp1] ++ vs)) gl7)
  have etp7 := upd_old (o := .lst ([.ref tp1] ++ vs)) (sG6 _ _ etp5) gl7
  have e7 : upd H6 l7 (.lst ([.ref tp1] ++ vs)) l7 = some (.lst ([.ref tp1] ++ vs)) := upd_same
  generalize upd H6 l7 _ = H7 at *
  obtain ⟨G7, hG7⟩ : ∃ G7, G7 = upd G6 l7 (.lst ([.ref tp1] ++ vs)) := ⟨_, rfl⟩
  have el7 : G7 l7 = some (.lst ([.ref tp1] ++ vs)) := by rw [hG7]; exact upd_same
  rw [← hG7] at X7 ss7 etp7
  clear hG7 X6 sG6 el6 hp6 e16 e66 Y5 sG5 ss5 el15 etp5 W1 hq5
  obtain ⟨dx7, i7⟩ := X7.at_.ins
  unfold stO at i7
  walk_at "run1"
  refine w_S2 ⟨A, S6, rfl, X7.at_, fun H8 hS8 st8 => ?_⟩
  have hk1 : k1 < 96 := by omega
  have X8 := X7.stp hS8 st8
  have W8 := W6.setTab (c := .ref tp1)
  have e8 := X8.sm _ _ el7
  have etp8 := X8.sm _ _ etp7
  obtain ⟨dx8, i8⟩ := X8.at_.ins
  unfold stO at i8
  clear X7 hS8 st8 e7 i7 W6
  obtain ⟨S8, hS8⟩ : ∃ S8, S8 = { S6 with tab := .ref tp1 } := ⟨_, rfl⟩
  have tab8 : S8.tab = .ref tp1 := by rw [hS8]
  rw [← hS8] at X8 W8
  have ln8 := W8.ln
  walk_at "run1"
  refine w_cut (fun σ H => ∃ S G k0 tpx, σ = [some (.ref p), some (.ref q), some (.int g), some (.ref A.st), some (.ref A.d), some (.ref po), some (.int m), some (.ref l7), none, none, none, none, none, none, none, none, none, none, none, none] ∧ Keep C H G A S ∧ Same G2 G ∧ WorkS { S0 with tab := .ref tpx } S 62 ∧ G tpx = some (.tup [.int (k0 : Nat), .int (g + 1)]) ∧ 5 ≤ k0 ∧ k0 < 96) ?_ ?_
  · walk_at "run1"
    refine w_S2 ⟨A, S8, (k1 : Nat), rfl, ⟨tp1, _, rfl, SqT.of etp8⟩, X8.at_, W8.ok, fun h => by unfold outB at h; omega, fun k' ek' hk' => ?_⟩
    cases ek'
    walk_at "run1"
    · refine w_S2 ⟨3, 4, rfl, rfl, by decide, by decide, fun lb9 hlb9 H9 s9 e9 => ?_⟩
      walk_at "run1"
      have Y9 := X8.same s9
      refine w_S2 ⟨A, S8, some (blkF 3 4), rfl, WordsV.good (SqL.of e9) (blkF_blk _ _), Y9.at_, W8.ok, (fun h => by cases h), fun ws ew => ⟨fun h => absurd h (by have := W8.pos (by omega); omega), fun k2 tf2 ef2 hr2 H10 lm2 tp2 hS10 st10 htp2 e10 => ?_⟩⟩
      cases ew
      have W10 := W8.make (l := lm2) (ws := blkF 3 4) ef2
      obtain ⟨hk2, hf2, _⟩ := freeL_head ef2
      have k25 : 5 ≤ k2 := by
        rcases Nat.lt_or_ge k2 5 with z | z
        · have := W8.l5 k2 z
          unfold isFr at hf2
          have := of_decide_eq_true (Bool.and_eq_true_iff.mp hf2).1
          omega
        · exact z
      have gtp2 := Y9.free htp2
      rw [show S8.gen + 1 = g + 1 by rw [W8.gen]; show S0.gen + 1 = _; rw [L.gn]] at e10
      have Y10 := (Y9.stp hS10 st10).tup (by rw [W10.ln]; decide) e10
      obtain ⟨dx10, i10⟩ := Y10.at_.ins
      unfold stO at i10
      walk_at "run1"
      refine w_S2 ⟨A, _, rfl, Y10.at_, fun H11 hS11 st11 => ?_⟩
      walk_at "run1"
      exact ⟨_, _, k2, tp2, rfl, Y10.stp hS11 st11, ss7.trans (same_new gtp2), W10.setTab, upd_same, k25, by omega⟩
    · walk_at "run1"
      exact ⟨_, _, k1, tp1, rfl, X8, ss7, W8.mono, etp7, k15, hk1⟩
  clear X8 W8 e8 etp8 i8 tab8 hS8 ln8 ef hr el7 etp7 ss7 hlb e3 s3 htp gtp gl1 hl1 gl7 hl7 hv6
  rintro σ H8 ⟨S, G3, k0, tpx, rfl, X8, sG3, W, etp, k05, k09⟩
  have ln := W.ln
  have gn : S.gen = g := by rw [W.gen]; exact L.gn
  have tab : S.tab = .ref tpx := W.tab
  have dkS : S.dk = S0.dk := W.dk
  have dk4 : Dsk S := ⟨by rw [dkS]; exact L.on.ok, by rw [dkS]; exact L.on.r8, by rw [dkS]; exact L.on.pw, by rw [dkS, L.on.bl, ln]; rfl⟩
  have l8 : S.sp.nums.length ≠ 8 := by omega
  have kl : S.kvs.length < 64 := by have := W.kl; omega
  obtain ⟨dx8, i8⟩ := X8.at_.ins
  unfold stO at i8
  rw [tab] at i8
  walk_at "run1"
  refine l_range (fun Dl i H' => Same H8 H' ∧ ∃ us, H' Dl = some (.lst us) ∧ ContAt (msk (Dl :: stF A S) H') us (pairL (fun k => blkS S (k : Nat)) (useL S.sp.nums i))) (fun Dl hDl => ⟨same_new hDl, [], upd_same, .nil⟩) ?_ ?_
  · rintro Dl i H2' hDl hi ⟨s2, us, e2, c2⟩
    have hi : i < 91 := hi
    have X2 := X8.same s2
    obtain ⟨dx2, i2⟩ := X2.at_.ins
    unfold stO at i2
    have lu := c2.1
    have ll := useL_len S.sp.nums i
    unfold pairL at lu
    rw [List.length_map] at lu
    walk_at "run1"
    refine ⟨rfl, ?_⟩
    walk_at "run1"
    rename_i tp htp
    have sx := same_new (o := .tup [.int (5 + (i : Int)), .int 1]) htp
    have s3 := s2.trans sx
    have e3 := upd_old (o := .tup [.int (5 + (i : Int)), .int 1]) e2 htp
    have et3 : upd H2' tp (.tup [.int (5 + (i : Int)), .int 1]) tp = some (.tup [.int (5 + (i : Int)), .int 1]) := upd_same
    generalize upd H2' tp _ = H3' at *
    have X3 := X8.same s3
    refine w_S2 ⟨A, S, 5 + (i : Int), rfl, ⟨tp, _, rfl, SqT.of et3⟩, X3.at_, W.ok, fun h => by unfold outB at h; omega, fun k ek hk => ?_⟩
    obtain rfl : k = 5 + i := by omega
    obtain ⟨dx3, i3⟩ := X3.at_.ins
    unfold stO at i3
    walk_at "run1"
    · rename_i hu tp2 htp2
      have hu : 0 < S.sp.nums.getD (5 + i) 0 := hu
      have s4 := same_new (o := .tup [.int (5 + (i : Int)), .int 1]) htp2
      have e4 := upd_old (o := .tup [.int (5 + (i : Int)), .int 1]) e3 htp2
      have et4 : upd H3' tp2 (.tup [.int (5 + (i : Int)), .int 1]) tp2 = some (.tup [.int (5 + (i : Int)), .int 1]) := upd_same
      generalize upd H3' tp2 _ = H4' at *
      have X4 := X3.same s4
      refine w_S2 ⟨A, S, 5 + (i : Int), rfl, ⟨tp2, _, rfl, SqT.of et4⟩, X4.at_, W.ok, dk4, fun h => by omega, fun _ _ lb H5' s5 hlb e5 => ?_⟩
      have X5 := X4.same s5
      walk_at "run1"
      rename_i tq htq
      have mq : msk (Dl :: stF A S) (upd H5' tq (.tup [.int (5 + (i : Int)), .ref lb])) tq = some (.tup [.int (5 + (i : Int)), .ref lb]) := msk_at upd_same fun h => by
        rcases List.mem_cons.mp h with h | h
        · rw [h, s5 _ _ e4] at htq; cases htq
        · exact X5.at_.fresh htq h
      have s6 := same_new (o := .tup [.int (5 + (i : Int)), .ref lb]) htq
      generalize upd H5' tq _ = H6' at *
      refine ⟨us, s6 _ _ (s5 _ _ e4), lt_line (by omega), same_upd (((s3.trans s4).trans s5).trans s6) hDl, _, upd_same, ?_⟩
      rw [msk_skip (List.mem_cons_self ..), useL_yes hu]
      unfold pairL
      rw [List.map_append]
      have ek : (5 + (i : Int)) = ((5 + i : Nat) : Int) := by omega
      rw [ek] at mq e5
      exact (c2.same (msk_mono (((sx.trans s4).trans s5).trans s6))).snoc mq (msk_at (s6 _ _ e5) fun h => by
        rcases List.mem_cons.mp h with h | h
        · rw [h, e4] at hlb; cases hlb
        · exact X4.at_.fresh hlb h) (blkS_len X8.at_ dk4 (by omega))
    · rename_i hu
      walk_at "run1"
      refine ⟨s3, us, e3, ?_⟩
      rw [useL_no hu]
      exact c2.same (msk_mono sx)
  rintro pn H9 hpn ⟨s9, vn, en, cn⟩
  have cn : ContAt (msk (pn :: stF A S) H9) vn (pairL (fun k => blkS S (k : Nat)) (useL S.sp.nums 91)) := cn
  have X9 := X8.same s9
  have mn9 := X8.at_.mskNew hpn en
  have cn9 := cn.same msk_less
  have sG9 := sG3.trans (X8.into s9)
  have mtp9 := X8.into s9 _ _ etp
  obtain ⟨dx9, i9⟩ := X9.at_.ins
  unfold stO at i9
  clear cn en hpn i8
  walk_at "run1"
  refine w_S1 ⟨A, S, rfl, X9.at_, W.ok, dk4, kl, fun pd H10 vd s10 hpd ed wd => ?_⟩
  have X10 := X9.same s10
  have md10 := X9.at_.mskNew hpd ed
  have wd10 := wd.map (fun v r y => X10.at_.mskRow l8 y) fun tt xs e => X10.at_.mskTup l8 e
  have ms10 := msk_mono (F := stF A S) s10
  have etp10 := X10.sm _ _ etp
  clear i9
  walk_at "run1"
  rename_i pr hpr tt htt pt hpt
  have s11a := same_new (o := .lst [.int (g + 1), .int (k0 : Nat), .int (g + 1), .int 4, .int 96, .int 0, .int 0, .int (g + 1)]) hpr
  have s11b := same_updN (o := .tup [.int ((g + 1) % 2), .ref pr]) s11a htt
  have s11 := same_updN (o := .lst [.ref tt]) s11b hpt
  have er11 := upd_old (o := .lst [.ref tt]) (upd_old (o := .tup [.int ((g + 1) % 2), .ref pr]) (upd_same (H := H10) (a := pr) (o := .lst [.int (g + 1), .int (k0 : Nat), .int (g + 1), .int 4, .int 96, .int 0, .int 0, .int (g + 1)])) htt) hpt
  have ett11 := upd_old (o := .lst [.ref tt]) (upd_same (H := upd H10 pr (.lst [.int (g + 1), .int (k0 : Nat), .int (g + 1), .int 4, .int 96, .int 0, .int 0, .int (g + 1)])) (a := tt) (o := .tup [.int ((g + 1) % 2), .ref pr])) hpt
  have ept11 : upd (upd (upd H10 pr (.lst [.int (g + 1), .int (k0 : Nat), .int (g + 1), .int 4, .int 96, .int 0, .int 0, .int (g + 1)])) tt (.tup [.int ((g + 1) % 2), .ref pr])) pt (.lst [.ref tt]) pt = some (.lst [.ref tt]) := upd_same
  have hpt10 : H10 pt = none := s11b.free hpt
  generalize upd (upd (upd H10 pr _) tt _) pt _ = H11 at *
  have X11 := X10.same s11
  have mt11 := X10.at_.mskNew hpt10 ept11
  have wt11 : WrsAt (msk (stF A S) H11) [.ref tt] [((g + 1) % 2, headW (g + 1) (k0 : Nat) (g + 1) 96)] := ⟨rfl, fun i v h => by
    match i, h with
    | 0, h =>
      cases h
      exact ⟨_, _, rfl, tt, .ref pr, rfl, X11.at_.mskTup l8 ett11, X11.at_.mskRow l8 (RowAt.of (r := headW (g + 1) (k0 : Nat) (g + 1) 96) rfl er11)⟩
    | i + 1, h => simp at h⟩
  have ms11 := msk_mono (F := stF A S) s11
  have X := X11.all
  have hGq := ms11 _ _ (ms10 _ _ (sG9 _ _ (sG2 _ _ hq)))
  have hGo := ms11 _ _ (ms10 _ _ (sG9 _ _ mo))
  have cGo := ((co2.same sG9).same ms10).same ms11
  have hGn := ms11 _ _ (ms10 _ _ mn9)
  have cGn := (cn9.same ms10).same ms11
  have hGd := ms11 _ _ md10
  have wGd := wd10.map (fun _ _ y => y.same ms11) fun _ _ e => ms11 _ _ e
  have hGtp := ms11 _ _ (ms10 _ _ mtp9)
  have hGt := ms11 _ _ (ms10 _ _ (sG9 _ _ etm))
  clear X8 X9 X10 X11 mn9 cn9 sG9 mtp9 md10 wd10 ms10 ms11 s9 s10 s11 s11a s11b er11 ett11 ept11 hpr htt hpt hpt10 wd ed hpd etp10
  generalize msk (stF A S) H11 = G at *
  walk_at "run1"
  refine w_S2 ⟨A, S, G, g, rfl, rfl, X, l8, fun H12 G12 pe o1 o2 X12 sG12 hGe I1 I2 => ?_⟩
  have hGq := sG12 _ _ hGq
  have hGo := sG12 _ _ hGo
  have cGo := cGo.same sG12
  have hGn := sG12 _ _ hGn
  have cGn := cGn.same sG12
  have hGd := sG12 _ _ hGd
  have wGd := wGd.map (fun _ _ y => y.same sG12) fun _ _ e => sG12 _ _ e
  have hGtp := sG12 _ _ hGtp
  have hGt := sG12 _ _ hGt
  have hGp := sG12 _ _ mt11
  have wGp := wt11.map (fun _ _ y => y.same sG12) fun _ _ e => sG12 _ _ e
  have nlk := newL_len X.at_ W.ok
  have lW : (wrsS S).length = 4 * (newL S).length := wrs_len S (newL S)
  have lv := wGd.1
  clear sG12 X mt11 wt11
  have hd12 := X12.sm _ _ hGd
  have hq12 := X12.sm _ _ hGq
  obtain ⟨dd12, d12⟩ := X12.at_.dk.ins
  unfold dkO at d12
  walk_at "run1"
  have hc0 : ∃ c : Nat, (ts.getD (Int.toNat 7) 0 * 1000 + ts.getD (Int.toNat 48) 0) / 7 % ((vd.length : Int) + 3 + 2) = (c : Int) ∧ c ≤ vd.length + 4 := by
    have a := Int.emod_nonneg ((ts.getD (Int.toNat 7) 0 * 1000 + ts.getD (Int.toNat 48) 0) / 7) (show (vd.length : Int) + 3 + 2 ≠ 0 by omega)
    have b := Int.emod_lt_of_pos ((ts.getD (Int.toNat 7) 0 * 1000 + ts.getD (Int.toNat 48) 0) / 7) (show (0 : Int) < (vd.length : Int) + 3 + 2 by omega)
    exact ⟨_, (Int.toNat_of_nonneg a).symm, by omega⟩
  obtain ⟨c0, ec0, hc0⟩ := hc0
  rw [ec0]
  generalize hfu : ts.getD (Int.toNat 7) 0 * 1000 + ts.getD (Int.toNat 48) 0 = fu at *
  refine w_cut (fun σ H => H = H12 ∧ ∃ c : Nat, c ≤ vd.length + 4 ∧ σ = [some (.ref p), some (.ref q), some (.int g), some (.ref A.st), some (.ref A.d), some (.ref po), some (.int m), some (.ref l7), some (.ref tpx), some (.ref pn), some (.ref pd), some (.ref pt), some (.ref pe), some (.int ((vd.length : Int) + 3)), some (.int fu), some (.int (c : Int)), none, none, none, none]) ?_ ?_
  · walk_at "run1"
    · exact ⟨rfl, vd.length + 2, by omega, by rw [show (vd.length : Int) + 3 - 1 = ((vd.length + 2 : Nat) : Int) by omega]; rfl⟩
    · walk_at "run1"
      exact ⟨rfl, c0, hc0, rfl⟩
  rintro σ H ⟨rfl, c1, hc1, rfl⟩
  refine w_cut (fun σ H' => H' = H ∧ ∃ c : Nat, c ≤ vd.length + 4 ∧ σ = [some (.ref p), some (.ref q), some (.int g), some (.ref A.st), some (.ref A.d), some (.ref po), some (.int m), some (.ref l7), some (.ref tpx), some (.ref pn), some (.ref pd), some (.ref pt), some (.ref pe), some (.int ((vd.length : Int) + 3)), some (.int fu), some (.int (c : Int)), none, none, none, none]) ?_ ?_
  · walk_at "run1"
    · exact ⟨rfl, vd.length + 1, by omega, by rw [show (vd.length : Int) + 3 - 2 = ((vd.length + 1 : Nat) : Int) by omega]; rfl⟩
    · walk_at "run1"
      exact ⟨rfl, c1, hc1, rfl⟩
  clear hc1 c1 ec0 hc0 c0
  rintro σ H12 ⟨rfl, c, hc, rfl⟩
  walk_at "run1"
  refine w_S2 ⟨A.d, A.a, A.w, A.n, S.dk, rfl, X12.at_.dk, trivial, fun _ h => (by rw [btw_int (by omega) (by omega)] at h; cases h), fun o eo ho H13 hD13 st13 => ?_⟩
  have eo2 : o = some ((c : Nat) : Int) := by
    cases o with
    | none => cases eo
    | some z => rw [V.int.inj eo]
  subst eo2
  clear eo ho
  obtain ⟨hS13, st13'⟩ := X12.at_.setDk hD13 st13
  have X13 := X12.stp hS13 st13'
  have ok5 : StOk { S with dk := { S.dk with left := some ((c : Nat) : Int) } } := ⟨W.ok.spo, W.ok.sz, W.ok.rs, W.ok.new, W.ok.neg, W.ok.lo5⟩
  have dk5 : Dsk { S with dk := { S.dk with left := some ((c : Nat) : Int) } } := ⟨⟨dk4.ok.bl, dk4.ok.sz, dk4.ok.wk, dk4.ok.wn⟩, dk4.r8, dk4.pw, dk4.bl⟩
  have P : PreC C H13 A { S with dk := { S.dk with left := some ((c : Nat) : Int) } } g := by
    have on := L.on
    rw [← dkS] at on
    refine ⟨X13.at_, ok5, dk5, ⟨⟨on.ok.bl, on.ok.sz, on.ok.wk, on.ok.wn⟩, rfl, rfl, on.bl, on.r8, on.wl⟩, by show S.dk.wr = []; rw [dkS]; exact L.wr, ln, gn, g0, ?_⟩
    show rw8 (rdS S.dk (1 - g % 2)) 7 < g
    rw [dkS]
    exact L.oth
  have df : DskF ({ S with dk := { S.dk with left := some ((c : Nat) : Int) } } : StS).dk ({ S with dk := { S.dk with left := some ((c : Nat) : Int) } } : StS).dk.blocks c := by
    refine ⟨?_, rfl, dk4.pw⟩
    have z := P.on
    rw [show ({ S with dk := { S.dk with left := some ((c : Nat) : Int) } } : StS).dk.blocks = 96 from z.bl]
    exact z
  have eW : wrsS { S with dk := { S.dk with left := some ((c : Nat) : Int) } } = wrsS S := rfl
  have eN : newL { S with dk := { S.dk with left := some ((c : Nat) : Int) } } = newL S := rfl
  have eB : ∀ k : Nat, blkS { S with dk := { S.dk with left := some ((c : Nat) : Int) } } (k : Nat) = blkS S (k : Nat) := fun _ => rfl
  have eR : ∀ u : Int, rdS ({ S with dk := { S.dk with left := some ((c : Nat) : Int) } } : StS).dk u = rdS S0.dk u := fun u => by rw [← dkS]; rfl
  have hgt : ({ S with dk := { S.dk with left := some ((c : Nat) : Int) } } : StS).ht = .ref t := by show S.ht = _; rw [W.ht]; exact L.ht
  have gtab : ({ S with dk := { S.dk with left := some ((c : Nat) : Int) } } : StS).tab = .ref tpx := tab
  have gkl : ({ S with dk := { S.dk with left := some ((c : Nat) : Int) } } : StS).kvs.length < 64 := kl
  have X13 : Keep C H13 G12 A { S with dk := { S.dk with left := some ((c : Nat) : Int) } } := X13
  have gheld : ({ S with dk := { S.dk with left := some ((c : Nat) : Int) } } : StS).sp.held = posL S0.sp.nums := by show S.sp.held = _; rw [W.held]; exact L.held
  generalize ({ S with dk := { S.dk with left := some ((c : Nat) : Int) } } : StS) = S5 at *
  clear X12 d12 hD13 st13 hS13 st13'
  obtain ⟨dx13, i13⟩ := X13.at_.ins
  unfold stO at i13
  walk_at "run1"
  generalize hN : (tSeq (tIfS (tTest (tOp (uNe K) (uMeth C.Disk _ _ _ _ _) _)) _ _) _ : TS) = N
  have sl : (stepsS S5 (k0 : Nat) (g + 1)).length = vd.length + 3 := by rw [stepsS_len, eN, lv, lW]
  have oks := stepsS_ok P.at_ P.ok P.dk (a := (k0 : Nat)) (b := g + 1) (by omega) (by omega) (by rw [P.gn]; omega)
  have fin : ∀ (D0 : Ends) (H14 : Hp) (a7 w7 n7 : Addr) (D7 : DiskS), D0.rt = Q → Same G12 H14 → DiskAt C H14 A.d a7 w7 n7 D7 → (∀ b ∈ dkF A.d a7 w7 n7, G12 b = none) → ((c < vd.length + 3 ∧ D7 = fallD S5.dk (stepsS S5 (k0 : Nat) (g + 1)) c) ∨ (vd.length + 3 ≤ c ∧ ∃ l : Nat, D7 = lefD (applyS S5.dk (stepsS S5 (k0 : Nat) (g + 1))) (some ((l : Nat) : Int)) true)) →
      N D0 [some (.ref p), some (.ref q), some (.int g), some (.ref A.st), some (.ref A.d), some (.ref po), some (.int m), some (.ref l7), some (.ref tpx), some (.ref pn), some (.ref pd), some (.ref pt), some (.ref pe), some (.int ((vd.length : Int) + 3)), some (.int fu), some (.int (c : Int)), none, none, none, none] H14 := by
    intro D0 H14 a7 w7 n7 D7 hrt sG hD hfr hc7
    subst hrt
    rw [← hN]
    clear hN X13 i13
    have on7 : DskOn (lefD D7 none true) 96 1000 := by
      rcases hc7 with ⟨_, rfl⟩ | ⟨_, l, rfl⟩
      · have z := applyS_on ((stepsS S5 (k0 : Nat) (g + 1)).take c) P.on (fun s hs => oks s (List.mem_of_mem_take hs)) (by rw [List.length_take]; omega)
        rw [applyS_lef] at z
        exact z.mono (by rw [List.length_take]; omega)
      · have z := applyS_on (stepsS S5 (k0 : Nat) (g + 1)) P.on oks (by omega)
        rw [applyS_lef] at z
        exact z.mono (by omega)
    have ok7 : DiskOk D7 := ok_lef on7.ok
    have r87 : Rd8 D7 := fun s h0 h1 => on7.r8 s h0 h1
    have wl7 : D7.wr.length ≤ 100000 := ok7.wn
    have hd14 := sG _ _ hGd
    have hp14 := sG _ _ hGp
    obtain ⟨dd14, d14⟩ := hD.ins
    unfold dkO at d14
    walk_at "run1"
    refine w_S1 ⟨A.d, a7, w7, n7, D7, rfl, hD, wl7, fun pw hpw H15 vw s15 e15 r15 => ?_⟩
    have hd15 := s15 _ _ hd14
    walk_at "run1"
    refine w_slL (SqL.of hd15) fun sl1 hsl1 => ?_
    walk_at "run1"
    rename_i ea hea eb heb lz hlz
    rw [cut_take] at *
    have s16 := same_updN (o := .lst [.ref sl1, .ref ea, .ref pt, .ref eb]) (same_updN (o := .lst []) (same_updN (o := .lst []) (same_new (o := .lst (vd.take c)) hsl1) hea) heb) hlz
    have f1 := upd_old (o := .lst [.ref sl1, .ref ea, .ref pt, .ref eb]) (upd_old (o := .lst []) (upd_old (o := .lst []) (upd_same (H := H15) (a := sl1) (o := .lst (vd.take c))) hea) heb) hlz
    have f2 := upd_old (o := .lst [.ref sl1, .ref ea, .ref pt, .ref eb]) (upd_old (o := .lst []) (upd_same (H := upd H15 sl1 (.lst (vd.take c))) (a := ea) (o := .lst [])) heb) hlz
    have f3 := upd_old (o := .lst [.ref sl1, .ref ea, .ref pt, .ref eb]) (upd_same (H := upd (upd H15 sl1 (.lst (vd.take c))) ea (.lst [])) (a := eb) (o := .lst [])) hlz
    have f4 : upd (upd (upd (upd H15 sl1 (.lst (vd.take c))) ea (.lst [])) eb (.lst [])) lz (.lst [.ref sl1, .ref ea, .ref pt, .ref eb]) lz = some (.lst [.ref sl1, .ref ea, .ref pt, .ref eb]) := upd_same
    generalize upd (upd (upd (upd H15 sl1 _) ea _) eb _) lz _ = H16 at *
    have sG16 := (sG.trans s15).trans s16
    have f5 := sG16 _ _ hGp
    have wd16 := wGd.map (fun _ _ y => y.same sG16) fun _ _ e => sG16 _ _ e
    have wp16 := wGp.map (fun _ _ y => y.same sG16) fun _ _ e => sG16 _ _ e
    have ix : ∃ (zn : Nat) (r : Addr) (us : List V), (if (if (c : Int) - (vd.length : Int) < 3 then (c : Int) - (vd.length : Int) else 3) > 0 then if (c : Int) - (vd.length : Int) < 3 then (c : Int) - (vd.length : Int) else 3 else 0) = (zn : Int) ∧ [V.ref sl1, .ref ea, .ref pt, .ref eb][zn]? = some (.ref r) ∧ H16 r = some (.lst us) ∧ WrsAt H16 us D7.wr := by
      rcases hc7 with ⟨h1, rfl⟩ | ⟨h1, l, rfl⟩
      · rcases Nat.lt_or_ge vd.length c with h2 | h2
        · rcases Nat.lt_or_ge (vd.length + 1) c with h3 | h3
          · obtain rfl : c = vd.length + 2 := by omega
            refine ⟨2, pt, _, by split <;> split <;> omega, rfl, f5, ?_⟩
            have z : (fallD S5.dk (stepsS S5 (k0 : Nat) (g + 1)) (vd.length + 2)).wr = [((g + 1) % 2, headW (g + 1) (k0 : Nat) (g + 1) 96)] := by
              show (applyS S5.dk ((stepsS S5 (k0 : Nat) (g + 1)).take (vd.length + 2))).wr = _
              rw [lv, ← eW, P.part2]
            rw [z]
            exact wp16
          · obtain rfl : c = vd.length + 1 := by omega
            refine ⟨1, ea, _, by split <;> split <;> omega, rfl, f2, ?_⟩
            have z : (fallD S5.dk (stepsS S5 (k0 : Nat) (g + 1)) (vd.length + 1)).wr = [] := by
              show (applyS S5.dk ((stepsS S5 (k0 : Nat) (g + 1)).take (vd.length + 1))).wr = _
              rw [lv, ← eW, P.part1]
            rw [z]
            exact .nil
        · refine ⟨0, sl1, _, by split <;> split <;> omega, rfl, f1, ?_⟩
          have z : (fallD S5.dk (stepsS S5 (k0 : Nat) (g + 1)) c).wr = (wrsS S).take c := by
            show (applyS S5.dk ((stepsS S5 (k0 : Nat) (g + 1)).take c)).wr = _
            rw [P.part (by rw [eW, ← lv]; exact h2), eW]
          rw [z]
          exact wd16.take c
      · refine ⟨3, eb, _, by split <;> split <;> omega, rfl, f3, ?_⟩
        have z : (lefD (applyS S5.dk (stepsS S5 (k0 : Nat) (g + 1))) (some ((l : Nat) : Int)) true).wr = [] := by
          show (applyS S5.dk (stepsS S5 (k0 : Nat) (g + 1))).wr = _
          rw [P.part3]
        rw [z]
        exact .nil
    obtain ⟨zn, zr, zu, ez, ev, er, wr⟩ := ix
    refine w_ixL (k := zn) (SqL.of f4) ez ev ?_
    refine w_neD (Dt.list (SqL.of (s16 _ _ e15)) (r15.map (fun _ _ y => y.same s16) fun _ _ e => s16 _ _ e).dt) (Dt.list (SqL.of er) wr.dt) (by decide) ⟨_, rfl⟩ ?_
    rw [decide_eq_true rfl]
    have hD16 := hD.same (s15.trans s16)
    clear f1 f2 f3 f4 f5 wd16 wp16 ez ev er wr hsl1 hea heb hlz hd15 hd14 hp14 s15 e15 r15 hpw s16 hD d14
    walk_at "run1"
    refine w_cut (fun σ H' => Same H16 H' ∧ ∃ v16, σ = [some (.ref p), some (.ref q), some (.int g), some (.ref A.st), some (.ref A.d), some (.ref po), some (.int m), some (.ref l7), some (.ref tpx), some (.ref pn), some (.ref pd), some (.ref pt), some (.ref pe), some (.int ((vd.length : Int) + 3)), some (.int fu), some (.int (c : Int)), v16, none, none, none]) ?_ ?_
    · walk_at "run1"
      · rename_i hlt3
        have he16 := sG16 _ _ hGe
        have pw7 : D7.pw = false := by
          rcases hc7 with ⟨h1, rfl⟩ | ⟨h1, l, rfl⟩
          · rfl
          · omega
        have off : ∀ o, IsSt C G12 o A.d → ∀ H', Same H16 H' → OffAt C H' (.ref o) := fun o ho H' s' => by
          obtain ⟨dx, A1, tab1, res1, eo, ed1⟩ := ho
          refine ⟨dx, { A1 with st := o, a := a7, w := w7, n := n7 }, tab1, res1, D7, rfl, (sG16.trans s') _ _ eo, ?_, ok7, r87, pw7⟩
          show DiskAt C H' A1.d a7 w7 n7 D7
          rw [ed1]
          exact hD16.same s'
        walk_at "run1"
        refine f_list (xs := [.ref o1, .ref o2]) (fun i σ H' => Same H16 H' ∧ ∃ v16, σ = [some (.ref p), some (.ref q), some (.int g), some (.ref A.st), some (.ref A.d), some (.ref po), some (.int m), some (.ref l7), some (.ref tpx), some (.ref pn), some (.ref pd), some (.ref pt), some (.ref pe), some (.int ((vd.length : Int) + 3)), some (.int fu), some (.int (c : Int)), v16, none, none, none])
          ⟨L2.Same.refl _, none, rfl⟩ (fun i σ H' _ h => SqL.of (h.1 _ _ he16)) ?_ ?_
        · rintro i x σ H' hx ⟨s', v16, rfl⟩
          have hI : ∃ o, x = .ref o ∧ IsSt C G12 o A.d := by
            have hm := List.mem_of_getElem? hx
            simp only [List.mem_cons, List.not_mem_nil, or_false] at hm
            rcases hm with h | h
            · exact ⟨o1, h, I1⟩
            · exact ⟨o2, h, I2⟩
          obtain ⟨o, rfl, ho⟩ := hI
          walk_at "run1"
          refine w_S1 ⟨off o ho H' s', ?_⟩
          walk_at "run1"
          refine w_S1 (.inl ⟨off o ho H' s', ?_⟩)
          walk_at "run1"
          exact ⟨s', _, rfl⟩
        · rintro σ H' ⟨s', v16, rfl⟩
          exact ⟨s', _, rfl⟩
      · walk_at "run1"
        exact ⟨L2.Same.refl _, _, rfl⟩
    rintro σ H17 ⟨s17, v16, rfl⟩
    have sG17 := sG16.trans s17
    have hD17 := hD16.same s17
    have hq17 := sG17 _ _ hGq
    clear hD16 sG16 s17
    walk_at "run1"
    have ma := Int.emod_nonneg (ts.getD (Int.toNat 49) 0 * 7) (show (vd.length : Int) + 3 + 3 ≠ 0 by omega)
    have mb := Int.emod_lt_of_pos (ts.getD (Int.toNat 49) 0 * 7) (show (0 : Int) < (vd.length : Int) + 3 + 3 by omega)
    refine w_S3 ⟨q, ts, 50, _, rfl, rfl, rfl, hq17, hT, by decide, ⟨ma, by omega⟩, fun H18 lc cs s18 hlc ec h8 hcl => ?_⟩
    have hD18 := hD17.same s18
    obtain ⟨dd18, d18⟩ := hD18.ins
    unfold dkO at d18
    walk_at "run1"
    refine w_tlist (SqL.of ec) fun lc2 hlc2 => ?_
    have s19 := same_updN (o := .lst (cs.map V.int)) s18 hlc2
    have ec19 := upd_old (o := .lst (cs.map V.int)) ec hlc2
    have ec2 : upd H18 lc2 (.lst (cs.map V.int)) lc2 = some (.lst (cs.map V.int)) := upd_same
    have na : lc2 ≠ a7 := fun e => hD18.fresh hlc2 (by rw [e]; simp [dkF])
    generalize upd H18 lc2 _ = H19 at *
    have hD19 := hD17.same s19
    have sG19 := sG17.trans s19
    walk_at "run1"
    refine w_S2 ⟨A.d, a7, w7, n7, D7, lc2, cs.map V.int, rfl, rfl, hD19, ok7, SqL.of ec2, fun x hx => by
      obtain ⟨i, _, rfl⟩ := List.mem_map.mp hx
      trivial, na, fun h => ?_, fun cs' ecs hcs H20 w8 n8 hD20 st20 => ?_⟩
    · exfalso
      have z : (cs.map V.int).all (btw 0 8) = true := List.all_eq_true.mpr fun y hy => by
        obtain ⟨i, hi, rfl⟩ := List.mem_map.mp hy
        exact btw_int (h8 i hi).1 (h8 i hi).2
      rw [z] at h
      cases h
    obtain rfl : cs = cs' := (List.map_inj_right (fun _ _ h => V.int.inj h)).mp ecs
    have sG20 := (st20.toSame hfr sG19).1
    have ec20 : H20 lc = some (.lst (cs.map V.int)) := (st20.keep ec19 (fun h => by
      have z := hD17.fresh (show H17 lc = none from hlc)
      exact z h)).1
    clear hD19 hD18 hD17 d18 hq17 sG17 s18 s19 ec ec2 ec19 hlc2 na st20 hfr
    walk_at "run1"
    have mk0 : markD S0.dk 16 < g := mark_lt (by omega) 16 L.log
    by_cases hold : c ≤ vd.length + 1 ∨ (c = vd.length + 2 ∧ cs.take 1 ≠ [8])
    · have hlt4 : c < vd.length + 3 := by omega
      have e7 : D7 = fallD S5.dk (stepsS S5 (k0 : Nat) (g + 1)) c := by
        rcases hc7 with ⟨_, h⟩ | ⟨h, _⟩
        · exact h
        · omega
      have O : OldD S5.dk (cutD D7 cs) S5 g := by
        rw [e7]
        exact P.old (by rw [eW, ← lv]; exact hold) h8
      have low : ∀ u : Int, u < 20 → ∀ k ∈ newL S5, u < 4 * (k : Int) ∨ 4 * (k : Int) + 4 ≤ u := fun u hu => P.low hu
      have mk2 : markD (cutD D7 cs) 16 = markD S0.dk 16 := mark_same 16 (Nat.le_refl 16) fun j hj => by rw [O.row _ (by omega) (by omega) (by omega) (low _ (by omega)), eR]
      have pr : presH (fun i => rdS (cutD D7 cs) (i : Nat)) 96 (markD (cutD D7 cs) 16) = some (headW g 5 1 96) := by
        refine pres_is g0 ?_ ?_ (by rw [mk2]; omega) ⟨by decide, by decide⟩ ⟨by decide, g0⟩
        · show rdS (cutD D7 cs) (((g % 2).toNat : Nat) : Int) = _
          rw [show (((g % 2).toNat : Nat) : Int) = g % 2 by omega, O.row _ (by omega) (by omega) (by omega) (low _ (by omega)), eR]
          exact L.hd
        · show rw8 (rdS (cutD D7 cs) ((1 - (g % 2).toNat : Nat) : Int)) 7 < g
          rw [show ((1 - (g % 2).toNat : Nat) : Int) = (g + 1) % 2 by omega]
          exact O.plc
      have bl2 : (cutD D7 cs).blocks = 96 := O.on.bl
      have rds : ∀ x ∈ pairL (fun k => blkF (k : Nat) e) (useL S0.sp.nums 25), 4 * x.1 + 4 ≤ (cutD D7 cs).secs.length ∧ rdB4 (cutD D7 cs) (x.1 : Nat) 4 = x.2 := fun x hx => by
        unfold pairL at hx
        obtain ⟨i, hi, rfl⟩ := List.mem_map.mp hx
        obtain ⟨hi1, hi2⟩ := List.mem_filter.mp hi
        have hi1 := List.mem_range.mp hi1
        have hi2 := of_decide_eq_true hi2
        have sz2 := O.on.ok.sz
        refine ⟨by show 4 * (5 + i) + 4 ≤ _; omega, ?_⟩
        have nk : (5 + i) ∉ newL S5 := fun h => by
          have h2 := (P.ok.new (5 + i)).mp (List.mem_filter.mp h).2
          rw [gheld, posL_get, decide_eq_true hi2] at h2
          cases h2.2.2
        show rdB4 (cutD D7 cs) ((5 + i : Nat) : Int) 4 = blkF ((5 + i : Nat) : Int) e
        rw [O.blk (by omega) (by omega) nk]
        have z : rdB4 S5.dk ((5 + i : Nat) : Int) 4 = rdB4 S0.dk ((5 + i : Nat) : Int) 4 := rdB4_eq fun j _ => eR _
        rw [z]
        exact L.ct _ (by omega) (by omega)
      refine w_S1 ⟨A.d, a7, w8, n8, cutD D7 cs, rfl, hD20, O.on.ok, O.on.r8, O.on.pw, fun H21 s21 => ?_⟩
      rw [bl2, pr]
      dsimp only
      intro ph dh th hph hth hphn
      have sG21 := sG20.trans s21
      have ec21 := s21 _ _ ec20
      have hD21 := hD20.same s21
      unfold hdO at hph
      have ho21 := sG21 _ _ hGo
      have co21 := cGo.same sG21
      walk_at "run1"
      · rename_i hc5 tq htq
        refine w_eqD (Dt.pair (U.Same.sqt (same_new htq) hth) Dt.int Dt.int) (Dt.pair (SqT.of upd_same) Dt.int Dt.int) (by decide) ⟨_, rfl⟩ ?_
        rw [decide_eq_true (show (rw8 (headW g 5 1 96) 1, rw8 (headW g 5 1 96) 2) = ((5 : Int), (1 : Int)) from rfl)]
        walk_at "run1"
        exact w_S2 ⟨A.d, a7, w8, n8, po, cutD D7 cs, vo, _, rfl, rfl, hD21.same (same_new htq), O.on.ok, O.on.r8, O.on.pw, (same_new htq) _ _ ho21, co21.same (same_new htq), rds, fun H' _ => kk H'⟩
      · rename_i hc5
        have hc6 : c = vd.length + 2 ∧ cs.take 1 ≠ [8] := by
          rcases hold with h | h
          · omega
          · exact h
        walk_at "run1"
        · refine w_slL (SqL.of ec21) fun sl2 hsl2 => ?_
          rw [show cutV (cs.map V.int) none (some 1) = (cs.take 1).map V.int by
            have z := cut_take (cs.map V.int) 1
            rw [show (((1 : Nat)) : Int) = 1 from rfl] at z
            rw [z, List.map_take]]
          have s22 := same_new (o := .lst ((cs.take 1).map V.int)) hsl2
          have e22 : upd H21 sl2 (.lst ((cs.take 1).map V.int)) sl2 = some (.lst ((cs.take 1).map V.int)) := upd_same
          have hph22 := upd_old (o := .lst ((cs.take 1).map V.int)) hph hsl2
          generalize upd H21 sl2 _ = H22 at *
          walk_at "run1"
          rename_i l23 hl23
          have s23 := same_updN (o := .lst [.int 8]) s22 hl23
          have hph23 := upd_old (o := .lst [.int 8]) hph22 hl23
          refine w_neD (Dt.list (SqL.of (upd_old e22 hl23)) (DtAll.ints _)) (Dt.list (SqL.of upd_same) (DtAll.ints [8])) (by decide) ⟨_, rfl⟩ ?_
          rw [decide_eq_false hc6.2]
          generalize upd H22 l23 _ = H23 at *
          walk_at "run1"
          rename_i tq htq
          refine w_eqD (Dt.pair (U.Same.sqt (same_updN s23 htq) hth) Dt.int Dt.int) (Dt.pair (SqT.of upd_same) Dt.int Dt.int) (by decide) ⟨_, rfl⟩ ?_
          rw [decide_eq_true (show (rw8 (headW g 5 1 96) 1, rw8 (headW g 5 1 96) 2) = ((5 : Int), (1 : Int)) from rfl)]
          walk_at "run1"
          exact w_S2 ⟨A.d, a7, w8, n8, po, cutD D7 cs, vo, _, rfl, rfl, hD21.same (same_updN s23 htq), O.on.ok, O.on.r8, O.on.pw, (same_updN s23 htq) _ _ ho21, co21.same (same_updN s23 htq), rds, fun H' _ => kk H'⟩
        · rename_i h
          exact absurd (by omega) h
    · have ND : DskOn (cutD D7 cs) 96 0 ∧ (cutD D7 cs).secs = (applyS S5.dk (stepsS S5 (k0 : Nat) (g + 1))).secs := by
        rcases hc7 with ⟨h1, e7⟩ | ⟨h1, l, e7⟩
        · have hc6 : c = (wrsS S5).length + 2 := by rw [eW, ← lv]; omega
          rw [e7, hc6]
          exact P.new2 (Decidable.byContradiction fun h => hold (.inr ⟨by rw [hc6, eW, ← lv], h⟩))
        · rw [e7]
          exact P.new3
      obtain ⟨on2, es2⟩ := ND
      have low : ∀ u : Int, u < 20 → ∀ k ∈ newL S5, u < 4 * (k : Int) ∨ 4 * (k : Int) + 4 ≤ u := fun u hu => P.low hu
      have mk2 : markD (cutD D7 cs) 16 = markD S0.dk 16 := mark_same 16 (Nat.le_refl 16) fun j hj => by rw [P.nrow es2 rfl (by omega) (by omega) (by omega) (low _ (by omega)), eR]
      have pr : presH (fun i => rdS (cutD D7 cs) (i : Nat)) 96 (markD (cutD D7 cs) 16) = some (headW (g + 1) (k0 : Nat) (g + 1) 96) := by
        refine pres_is (by omega) ?_ ?_ (by rw [mk2]; omega) ⟨by omega, by omega⟩ ⟨by omega, by omega⟩
        · show rdS (cutD D7 cs) ((((g + 1) % 2).toNat : Nat) : Int) = _
          rw [show ((((g + 1) % 2).toNat : Nat) : Int) = (g + 1) % 2 by omega]
          exact P.nhead es2 rfl
        · show rw8 (rdS (cutD D7 cs) ((1 - ((g + 1) % 2).toNat : Nat) : Int)) 7 < g + 1
          rw [show ((1 - ((g + 1) % 2).toNat : Nat) : Int) = g % 2 by omega, P.nrow es2 rfl (by omega) (by omega) (by omega) (low _ (by omega)), eR, L.hd]
          show g < g + 1
          omega
      have bl2 : (cutD D7 cs).blocks = 96 := on2.bl
      have rds : ∀ x ∈ pairL (fun k => blkS S (k : Nat)) (useL S.sp.nums 91), 4 * x.1 + 4 ≤ (cutD D7 cs).secs.length ∧ rdB4 (cutD D7 cs) (x.1 : Nat) 4 = x.2 := fun x hx => by
        unfold pairL at hx
        obtain ⟨i, hi, rfl⟩ := List.mem_map.mp hx
        obtain ⟨hi1, hi2⟩ := List.mem_filter.mp hi
        have hi1 := List.mem_range.mp hi1
        have sz2 := on2.ok.sz
        refine ⟨by show 4 * (5 + i) + 4 ≤ _; omega, ?_⟩
        show rdB4 (cutD D7 cs) ((5 + i : Nat) : Int) 4 = blkS S ((5 + i : Nat) : Int)
        rw [P.nblk es2 rfl (by omega) (by omega) (by omega) (by omega)]
        exact eB _
      refine w_S1 ⟨A.d, a7, w8, n8, cutD D7 cs, rfl, hD20, on2.ok, on2.r8, on2.pw, fun H21 s21 => ?_⟩
      rw [bl2, pr]
      dsimp only
      intro ph dh th hph hth hphn
      have sG21 := sG20.trans s21
      have ec21 := s21 _ _ ec20
      have hD21 := hD20.same s21
      unfold hdO at hph
      have hn21 := sG21 _ _ hGn
      have cn21 := cGn.same sG21
      have htp21 := sG21 _ _ hGtp
      clear hD20 ec20 sG20 s21 hphn hGn hGo cGo cGn
      have hh : ¬ c ≤ vd.length + 1 := fun h => hold (.inl h)
      walk_at "run1"
      · exfalso
        omega
      · exfalso
        omega
      walk_at "run1"
      · rename_i hc5 hc6
        have h8c : cs.take 1 = [8] := Decidable.byContradiction fun h => hold (.inr ⟨by omega, h⟩)
        refine w_slL (SqL.of ec21) fun sl2 hsl2 => ?_
        rw [show cutV (cs.map V.int) none (some 1) = (cs.take 1).map V.int by
          have z := cut_take (cs.map V.int) 1
          rw [show (((1 : Nat)) : Int) = 1 from rfl] at z
          rw [z, List.map_take]]
        have s22 := same_new (o := .lst ((cs.take 1).map V.int)) hsl2
        have e22 : upd H21 sl2 (.lst ((cs.take 1).map V.int)) sl2 = some (.lst ((cs.take 1).map V.int)) := upd_same
        have hph22 := upd_old (o := .lst ((cs.take 1).map V.int)) hph hsl2
        generalize upd H21 sl2 _ = H22 at *
        walk_at "run1"
        rename_i l23 hl23
        have s23 := same_updN (o := .lst [.int 8]) s22 hl23
        have hph23 := upd_old (o := .lst [.int 8]) hph22 hl23
        refine w_neD (Dt.list (SqL.of (upd_old e22 hl23)) (DtAll.ints _)) (Dt.list (SqL.of upd_same) (DtAll.ints [8])) (by decide) ⟨_, rfl⟩ ?_
        rw [decide_eq_true h8c]
        generalize upd H22 l23 _ = H23 at *
        walk_at "run1"
        refine w_eqD (Dt.pair (U.Same.sqt s23 hth) Dt.int Dt.int) (Dt.pair (SqT.of (s23 _ _ htp21)) Dt.int Dt.int) (by decide) ⟨_, rfl⟩ ?_
        rw [decide_eq_true (show (rw8 (headW (g + 1) (k0 : Nat) (g + 1) 96) 1, rw8 (headW (g + 1) (k0 : Nat) (g + 1) 96) 2) = (((k0 : Nat) : Int), g + 1) from rfl)]
        walk_at "run1"
        exact w_S2 ⟨A.d, a7, w8, n8, pn, cutD D7 cs, vn, _, rfl, rfl, hD21.same s23, on2.ok, on2.r8, on2.pw, s23 _ _ hn21, cn21.same s23, rds, fun H' _ => kk H'⟩
      · walk_at "run1"
        refine w_eqD (Dt.pair hth Dt.int Dt.int) (Dt.pair (SqT.of htp21) Dt.int Dt.int) (by decide) ⟨_, rfl⟩ ?_
        rw [decide_eq_true (show (rw8 (headW (g + 1) (k0 : Nat) (g + 1) 96) 1, rw8 (headW (g + 1) (k0 : Nat) (g + 1) 96) 2) = (((k0 : Nat) : Int), g + 1) from rfl)]
        walk_at "run1"
        exact w_S2 ⟨A.d, a7, w8, n8, pn, cutD D7 cs, vn, _, rfl, rfl, hD21, on2.ok, on2.r8, on2.pw, hn21, cn21, rds, fun H' _ => kk H'⟩
  refine w_S1 (.inr ⟨A, S5, tpx, t, (k0 : Nat), g + 1, 5, 1, c, rfl, X13.at_, P.ok, P.dk, gkl, ⟨gtab, X13.sm _ _ hGtp, hgt, X13.sm _ _ hGt⟩, df, by omega, by omega, by rw [P.gn]; omega, ?_, fun hlt2 H14 w' n' hS14 st14 => ?_, fun hge2 H14 A' e1 e2 hS14 st14 => ?_⟩)
  · unfold idleS
    rw [decide_eq_false (fun z => by have := congrArg Prod.snd z; have : g + 1 = 1 := this; omega), Bool.false_and]
  · have X14 := X13.stp hS14 st14
    rw [sl] at hlt2
    walk_at "run1"
    rename_i lx hlx
    rw [decide_eq_false (show ¬ ((vd.length : Int) + 3 ≤ (c : Int)) by omega)]
    have s15 := same_new (o := .lst [.str "off", .bl true]) hlx
    have e15 : upd H14 lx (.lst [.str "off", .bl true]) lx = some (.lst [.str "off", .bl true]) := upd_same
    generalize upd H14 lx _ = H15 at *
    have X15 := X14.same s15
    refine w_ixL (k := 0) (SqL.of e15) rfl rfl ?_
    walk_at "run1"
    exact fin _ H15 A.a w' n' _ rfl X15.sm X15.at_.dk (fun b hb => X15.fr b (List.mem_append_left _ (by
      simp only [dkF, List.mem_cons, List.not_mem_nil, or_false] at hb
      rcases hb with rfl | rfl | rfl | rfl <;> simp [SA.all]))) (.inl ⟨hlt2, rfl⟩)
  · have X14 := X13.stp hS14 st14
    rw [sl] at hge2
    walk_at "run1"
    rename_i lx hlx
    rw [decide_eq_true (show ((vd.length : Int) + 3 ≤ (c : Int)) by omega)]
    have s15 := same_new (o := .lst [.str "off", .bl true]) hlx
    have e15 : upd H14 lx (.lst [.str "off", .bl true]) lx = some (.lst [.str "off", .bl true]) := upd_same
    generalize upd H14 lx _ = H15 at *
    have X15 := X14.same s15
    refine w_ixL (k := 1) (SqL.of e15) rfl rfl ?_
    walk_at "run1"
    have d15 := X15.at_.dk
    rw [e2] at d15
    exact fin _ H15 A'.a A'.w A'.n _ rfl X15.sm d15 (fun b hb => X15.fr b (List.mem_append_left _ (by
      rw [← e2] at hb
      simp only [dkF, List.mem_cons, List.not_mem_nil, or_false] at hb
      rcases hb with rfl | rfl | rfl | rfl <;> simp [SA.all]))) (.inr ⟨hge2, _, rfl⟩)
def topS (i : Nat) : Stmt := PySem.Challenge.pw_laminae_k60_whole_commit_cut.main.body.getD i (.Pass ⟨0, 0, 0, 0⟩)
abbrev s_is_between : Stmt := topS 8
theorem sc_is_between : FnScope ["value", "low", "high"] ["value", "low", "high"] (defScope s_is_between) := ⟨rfl, rfl, rfl, by decide +kernel, rfl, by decide +kernel, by decide +kernel⟩
abbrev s_is_word : Stmt := topS 9
theorem sc_is_word : FnScope ["value"] ["value"] (defScope s_is_word) := ⟨rfl, rfl, rfl, by decide +kernel, rfl, by decide +kernel, by decide +kernel⟩
abbrev s_are_words : Stmt := topS 10
theorem sc_are_words : FnScope ["values", "many", "value"] ["values", "many"] (defScope s_are_words) := ⟨rfl, rfl, rfl, by decide +kernel, rfl, by decide +kernel, by decide +kernel⟩
abbrev s_Disk___init__ : Stmt := inClass (topS 18) 0
theorem sc_Disk___init__ : FnScope ["self", "blocks", "sector"] ["self", "blocks"] (defScope s_Disk___init__) := ⟨rfl, rfl, rfl, by decide +kernel, rfl, by decide +kernel, by decide +kernel⟩
abbrev s_Disk_read : Stmt := inClass (topS 18) 1
theorem sc_Disk_read : FnScope ["self", "sector"] ["self", "sector"] (defScope s_Disk_read) := ⟨rfl, rfl, rfl, by decide +kernel, rfl, by decide +kernel, by decide +kernel⟩
abbrev s_Disk_operate : Stmt := inClass (topS 18) 2
theorem sc_Disk_operate : FnScope ["self"] ["self"] (defScope s_Disk_operate) := ⟨rfl, rfl, rfl, by decide +kernel, rfl, by decide +kernel, by decide +kernel⟩
abbrev s_Disk_write : Stmt := inClass (topS 18) 3
theorem sc_Disk_write : FnScope ["self", "sector", "words"] ["self", "sector", "words"] (defScope s_Disk_write) := ⟨rfl, rfl, rfl, by decide +kernel, rfl, by decide +kernel, by decide +kernel⟩
abbrev s_Disk_flush : Stmt := inClass (topS 18) 4
theorem sc_Disk_flush : FnScope ["self", "sector", "words"] ["self"] (defScope s_Disk_flush) := ⟨rfl, rfl, rfl, by decide +kernel, rfl, by decide +kernel, by decide +kernel⟩
abbrev s_Disk_waiting : Stmt := inClass (topS 18) 5
theorem sc_Disk_waiting : FnScope ["self", "sector", "words"] ["self"] (defScope s_Disk_waiting) := ⟨rfl, rfl, rfl, by decide +kernel, rfl, by decide +kernel, by decide +kernel⟩
abbrev s_Disk_fail_after : Stmt := inClass (topS 18) 6
theorem sc_Disk_fail_after : FnScope ["self", "count"] ["self", "count"] (defScope s_Disk_fail_after) := ⟨rfl, rfl, rfl, by decide +kernel, rfl, by decide +kernel, by decide +kernel⟩
abbrev s_Disk_cut : Stmt := inClass (topS 18) 7
theorem sc_Disk_cut : FnScope ["self", "choices", "choice", "index", "sector", "words", "kept"] ["self", "choices"] (defScope s_Disk_cut) := ⟨rfl, rfl, rfl, by decide +kernel, rfl, by decide +kernel, by decide +kernel⟩
abbrev s_Head___init__ : Stmt := inClass (topS 24) 0
theorem sc_Head___init__ : FnScope ["self", "generation", "table", "blocks"] ["self", "generation", "table", "blocks"] (defScope s_Head___init__) := ⟨rfl, rfl, rfl, by decide +kernel, rfl, by decide +kernel, by decide +kernel⟩
abbrev s_Head_sector : Stmt := inClass (topS 24) 1
theorem sc_Head_sector : FnScope ["self", "number", "birth"] ["self"] (defScope s_Head_sector) := ⟨rfl, rfl, rfl, by decide +kernel, rfl, by decide +kernel, by decide +kernel⟩
abbrev s_place : Stmt := topS 25
theorem sc_place : FnScope ["generation"] ["generation"] (defScope s_place) := ⟨rfl, rfl, rfl, by decide +kernel, rfl, by decide +kernel, by decide +kernel⟩
abbrev s_is_valid_head : Stmt := topS 26
theorem sc_is_valid_head : FnScope ["sector", "words"] ["sector", "words"] (defScope s_is_valid_head) := ⟨rfl, rfl, rfl, by decide +kernel, rfl, by decide +kernel, by decide +kernel⟩
abbrev s_log_mark : Stmt := topS 27
theorem sc_log_mark : FnScope ["disk", "mark", "sector"] ["disk"] (defScope s_log_mark) := ⟨rfl, rfl, rfl, by decide +kernel, rfl, by decide +kernel, by decide +kernel⟩
abbrev s_check_head : Stmt := topS 28
theorem sc_check_head : FnScope ["words", "blocks"] ["words", "blocks"] (defScope s_check_head) := ⟨rfl, rfl, rfl, by decide +kernel, rfl, by decide +kernel, by decide +kernel⟩
abbrev s_present_head : Stmt := topS 29
theorem sc_present_head : FnScope ["disk", "rows", "best", "sector", "words"] ["disk"] (defScope s_present_head) := ⟨rfl, rfl, rfl, by decide +kernel, rfl, by decide +kernel, by decide +kernel⟩
abbrev s_next_head : Stmt := topS 31
theorem sc_next_head : FnScope ["store"] ["store"] (defScope s_next_head) := ⟨rfl, rfl, rfl, by decide +kernel, rfl, by decide +kernel, by decide +kernel⟩
abbrev s_commit_steps : Stmt := topS 32
theorem sc_commit_steps : FnScope ["store", "mark", "steps", "number", "words", "part", "start", "head"] ["store"] (defScope s_commit_steps) := ⟨rfl, rfl, rfl, by decide +kernel, rfl, by decide +kernel, by decide +kernel⟩
abbrev s_commit : Stmt := topS 33
theorem sc_commit : FnScope ["store", "steps", "step"] ["store"] (defScope s_commit) := ⟨rfl, rfl, rfl, by decide +kernel, rfl, by decide +kernel, by decide +kernel⟩
abbrev s_Space___init__ : Stmt := inClass (topS 36) 0
theorem sc_Space___init__ : FnScope ["self", "uses", "many"] ["self", "uses"] (defScope s_Space___init__) := ⟨rfl, rfl, rfl, by decide +kernel, rfl, by decide +kernel, by decide +kernel⟩
abbrev s_Space_count_spare : Stmt := inClass (topS 36) 1
theorem sc_Space_count_spare : FnScope ["self", "many", "held"] ["self"] (defScope s_Space_count_spare) := ⟨rfl, rfl, rfl, by decide +kernel, rfl, by decide +kernel, by decide +kernel⟩
abbrev s_Space_check_block : Stmt := inClass (topS 36) 2
theorem sc_Space_check_block : FnScope ["self", "block"] ["self", "block"] (defScope s_Space_check_block) := ⟨rfl, rfl, rfl, by decide +kernel, rfl, by decide +kernel, by decide +kernel⟩
abbrev s_Space_least_free : Stmt := inClass (topS 36) 3
theorem sc_Space_least_free : FnScope ["self"] ["self"] (defScope s_Space_least_free) := ⟨rfl, rfl, rfl, by decide +kernel, rfl, by decide +kernel, by decide +kernel⟩
abbrev s_Space_take : Stmt := inClass (topS 36) 4
theorem sc_Space_take : FnScope ["self", "reserve", "block"] ["self", "reserve"] (defScope s_Space_take) := ⟨rfl, rfl, rfl, by decide +kernel, rfl, by decide +kernel, by decide +kernel⟩
abbrev s_Space_share : Stmt := inClass (topS 36) 5
theorem sc_Space_share : FnScope ["self", "block"] ["self", "block"] (defScope s_Space_share) := ⟨rfl, rfl, rfl, by decide +kernel, rfl, by decide +kernel, by decide +kernel⟩
abbrev s_Space_drop : Stmt := inClass (topS 36) 6
theorem sc_Space_drop : FnScope ["self", "block"] ["self", "block"] (defScope s_Space_drop) := ⟨rfl, rfl, rfl, by decide +kernel, rfl, by decide +kernel, by decide +kernel⟩
abbrev s_Space_uses : Stmt := inClass (topS 36) 7
theorem sc_Space_uses : FnScope ["self", "block"] ["self", "block"] (defScope s_Space_uses) := ⟨rfl, rfl, rfl, by decide +kernel, rfl, by decide +kernel, by decide +kernel⟩
abbrev s_Space_is_new : Stmt := inClass (topS 36) 9
theorem sc_Space_is_new : FnScope ["self", "block"] ["self", "block"] (defScope s_Space_is_new) := ⟨rfl, rfl, rfl, by decide +kernel, rfl, by decide +kernel, by decide +kernel⟩
abbrev s_Space_is_free : Stmt := inClass (topS 36) 10
theorem sc_Space_is_free : FnScope ["self", "block"] ["self", "block"] (defScope s_Space_is_free) := ⟨rfl, rfl, rfl, by decide +kernel, rfl, by decide +kernel, by decide +kernel⟩
abbrev s_Space_settle : Stmt := inClass (topS 36) 13
theorem sc_Space_settle : FnScope ["self", "many"] ["self"] (defScope s_Space_settle) := ⟨rfl, rfl, rfl, by decide +kernel, rfl, by decide +kernel, by decide +kernel⟩
abbrev s_Store___init__ : Stmt := inClass (topS 38) 0
theorem sc_Store___init__ : FnScope ["self", "disk", "head", "space"] ["self", "disk", "head", "space"] (defScope s_Store___init__) := ⟨rfl, rfl, rfl, by decide +kernel, rfl, by decide +kernel, by decide +kernel⟩
abbrev s_Store_generation : Stmt := inClass (topS 38) 1
theorem sc_Store_generation : FnScope ["self"] ["self"] (defScope s_Store_generation) := ⟨rfl, rfl, rfl, by decide +kernel, rfl, by decide +kernel, by decide +kernel⟩
abbrev s_Store_use_table : Stmt := inClass (topS 38) 2
theorem sc_Store_use_table : FnScope ["self", "pointer"] ["self", "pointer"] (defScope s_Store_use_table) := ⟨rfl, rfl, rfl, by decide +kernel, rfl, by decide +kernel, by decide +kernel⟩
abbrev s_Store_use_reserve : Stmt := inClass (topS 38) 3
theorem sc_Store_use_reserve : FnScope ["self", "reserve"] ["self", "reserve"] (defScope s_Store_use_reserve) := ⟨rfl, rfl, rfl, by decide +kernel, rfl, by decide +kernel, by decide +kernel⟩
abbrev s_Store_read : Stmt := inClass (topS 38) 4
theorem sc_Store_read : FnScope ["self", "pointer", "number", "words", "part"] ["self", "pointer"] (defScope s_Store_read) := ⟨rfl, rfl, rfl, by decide +kernel, rfl, by decide +kernel, by decide +kernel⟩
abbrev s_Store_make : Stmt := inClass (topS 38) 6
theorem sc_Store_make : FnScope ["self", "words", "number"] ["self", "words"] (defScope s_Store_make) := ⟨rfl, rfl, rfl, by decide +kernel, rfl, by decide +kernel, by decide +kernel⟩
abbrev s_Store_is_new : Stmt := inClass (topS 38) 7
theorem sc_Store_is_new : FnScope ["self", "pointer", "number"] ["self", "pointer"] (defScope s_Store_is_new) := ⟨rfl, rfl, rfl, by decide +kernel, rfl, by decide +kernel, by decide +kernel⟩
abbrev s_Store_write : Stmt := inClass (topS 38) 8
theorem sc_Store_write : FnScope ["self", "pointer", "words"] ["self", "pointer", "words"] (defScope s_Store_write) := ⟨rfl, rfl, rfl, by decide +kernel, rfl, by decide +kernel, by decide +kernel⟩
abbrev s_Store_share : Stmt := inClass (topS 38) 9
theorem sc_Store_share : FnScope ["self", "pointer"] ["self", "pointer"] (defScope s_Store_share) := ⟨rfl, rfl, rfl, by decide +kernel, rfl, by decide +kernel, by decide +kernel⟩
abbrev s_Store_drop : Stmt := inClass (topS 38) 10
theorem sc_Store_drop : FnScope ["self", "pointer", "number", "left"] ["self", "pointer"] (defScope s_Store_drop) := ⟨rfl, rfl, rfl, by decide +kernel, rfl, by decide +kernel, by decide +kernel⟩
abbrev s_Store_uses : Stmt := inClass (topS 38) 11
theorem sc_Store_uses : FnScope ["self", "pointer"] ["self", "pointer"] (defScope s_Store_uses) := ⟨rfl, rfl, rfl, by decide +kernel, rfl, by decide +kernel, by decide +kernel⟩
abbrev s_Store_new_blocks : Stmt := inClass (topS 38) 14
theorem sc_Store_new_blocks : FnScope ["self"] ["self"] (defScope s_Store_new_blocks) := ⟨rfl, rfl, rfl, by decide +kernel, rfl, by decide +kernel, by decide +kernel⟩
abbrev s__law_tape : Stmt := topS 40
theorem sc__law_tape : FnScope ["_law_script", "_law_tape_here", "_law_k", "_law_value", "_law_step"] ["_law_script"] (defScope s__law_tape) := ⟨rfl, rfl, rfl, by decide +kernel, rfl, by decide +kernel, by decide +kernel⟩
abbrev s__law_at : Stmt := topS 41
theorem sc__law_at : FnScope ["_law_tape_here", "_law_k"] ["_law_tape_here", "_law_k"] (defScope s__law_at) := ⟨rfl, rfl, rfl, by decide +kernel, rfl, by decide +kernel, by decide +kernel⟩
abbrev s__law_block : Stmt := topS 42
theorem sc__law_block : FnScope ["_law_number", "_law_extra", "_law_j"] ["_law_number", "_law_extra"] (defScope s__law_block) := ⟨rfl, rfl, rfl, by decide +kernel, rfl, by decide +kernel, by decide +kernel⟩
abbrev s__law_is_block : Stmt := topS 43
theorem sc__law_is_block : FnScope ["_law_told", "_law_due_here", "_law_j"] ["_law_told", "_law_due_here"] (defScope s__law_is_block) := ⟨rfl, rfl, rfl, by decide +kernel, rfl, by decide +kernel, by decide +kernel⟩
abbrev s__law_put_block : Stmt := topS 44
theorem sc__law_put_block : FnScope ["_law_disk", "_law_number", "_law_words", "_law_part"] ["_law_disk", "_law_number", "_law_words"] (defScope s__law_put_block) := ⟨rfl, rfl, rfl, by decide +kernel, rfl, by decide +kernel, by decide +kernel⟩
abbrev s__law_store : Stmt := topS 45
theorem sc__law_store : FnScope ["_law_tape_here", "_law_generation", "_law_disk", "_law_numbers", "_law_number", "_law_other", "_law_head", "_law_k", "_law_store_here"] ["_law_tape_here", "_law_generation"] (defScope s__law_store) := ⟨rfl, rfl, rfl, by decide +kernel, rfl, by decide +kernel, by decide +kernel⟩
abbrev s__law_work : Stmt := topS 46
theorem sc__law_work : FnScope ["_law_store_here", "_law_tape_here", "_law_start", "_law_many", "_law_recent", "_law_k", "_law_number", "_law_pick", "_law_pointer"] ["_law_store_here", "_law_tape_here", "_law_start", "_law_many"] (defScope s__law_work) := ⟨rfl, rfl, rfl, by decide +kernel, rfl, by decide +kernel, by decide +kernel⟩
abbrev s__law_choices : Stmt := topS 47
theorem sc__law_choices : FnScope ["_law_tape_here", "_law_start", "_law_many", "_law_choices_here", "_law_k", "_law_number"] ["_law_tape_here", "_law_start", "_law_many"] (defScope s__law_choices) := ⟨rfl, rfl, rfl, by decide +kernel, rfl, by decide +kernel, by decide +kernel⟩
abbrev s__law_commit : Stmt := topS 48
theorem sc__law_commit : FnScope ["_law_store_here"] ["_law_store_here"] (defScope s__law_commit) := ⟨rfl, rfl, rfl, by decide +kernel, rfl, by decide +kernel, by decide +kernel⟩
abbrev s__law_steps : Stmt := topS 49
theorem sc__law_steps : FnScope ["_law_store_here"] ["_law_store_here"] (defScope s__law_steps) := ⟨rfl, rfl, rfl, by decide +kernel, rfl, by decide +kernel, by decide +kernel⟩
abbrev s__law_due : Stmt := topS 50
theorem sc__law_due : FnScope ["_law_store_here", "_law_writes", "_law_number", "_law_words", "_law_part"] ["_law_store_here"] (defScope s__law_due) := ⟨rfl, rfl, rfl, by decide +kernel, rfl, by decide +kernel, by decide +kernel⟩
abbrev s__law_others : Stmt := topS 51
theorem sc__law_others : FnScope ["_law_disk", "_law_generation", "_law_idle", "_law_busy"] ["_law_disk", "_law_generation"] (defScope s__law_others) := ⟨rfl, rfl, rfl, by decide +kernel, rfl, by decide +kernel, by decide +kernel⟩
abbrev s__law_reads : Stmt := topS 52
theorem sc__law_reads : FnScope ["_law_disk", "_law_contents", "_law_row", "_law_words", "_law_part"] ["_law_disk", "_law_contents"] (defScope s__law_reads) := ⟨rfl, rfl, rfl, by decide +kernel, rfl, by decide +kernel, by decide +kernel⟩
abbrev s_law : Stmt := topS 53
theorem sc_law : FnScope ["_law_script", "_law_tape_here", "_law_generation", "_law_store_here", "_law_disk", "_law_old", "_law_many", "_law_made", "_law_table", "_law_new", "_law_due_here", "_law_top", "_law_others_here", "_law_steps_here", "_law_fuse", "_law_count", "_law_other", "_law_choices_here", "_law_head", "_law_k"] ["_law_script"] (defScope s_law) := ⟨rfl, rfl, rfl, by decide +kernel, rfl, by decide +kernel, by decide +kernel⟩
structure Adr where
  ex : Ex
  f_is_between : Addr
  d_is_between : FuncData
  f_is_word : Addr
  d_is_word : FuncData
  f_are_words : Addr
  d_are_words : FuncData
  f_Disk___init__ : Addr
  d_Disk___init__ : FuncData
  f_Disk_read : Addr
  d_Disk_read : FuncData
  f_Disk_operate : Addr
  d_Disk_operate : FuncData
  f_Disk_write : Addr
  d_Disk_write : FuncData
  f_Disk_flush : Addr
  d_Disk_flush : FuncData
  f_Disk_waiting : Addr
  d_Disk_waiting : FuncData
  f_Disk_fail_after : Addr
  d_Disk_fail_after : FuncData
  f_Disk_cut : Addr
  d_Disk_cut : FuncData
  f_Head___init__ : Addr
  d_Head___init__ : FuncData
  f_Head_sector : Addr
  d_Head_sector : FuncData
  f_place : Addr
  d_place : FuncData
  f_is_valid_head : Addr
  d_is_valid_head : FuncData
  f_log_mark : Addr
  d_log_mark : FuncData
  f_check_head : Addr
  d_check_head : FuncData
  f_present_head : Addr
  d_present_head : FuncData
  f_next_head : Addr
  d_next_head : FuncData
  f_commit_steps : Addr
  d_commit_steps : FuncData
  f_commit : Addr
  d_commit : FuncData
  f_Space___init__ : Addr
  d_Space___init__ : FuncData
  f_Space_count_spare : Addr
  d_Space_count_spare : FuncData
  f_Space_check_block : Addr
  d_Space_check_block : FuncData
  f_Space_least_free : Addr
  d_Space_least_free : FuncData
  f_Space_take : Addr
  d_Space_take : FuncData
  f_Space_share : Addr
  d_Space_share : FuncData
  f_Space_drop : Addr
  d_Space_drop : FuncData
  f_Space_uses : Addr
  d_Space_uses : FuncData
  f_Space_is_new : Addr
  d_Space_is_new : FuncData
  f_Space_is_free : Addr
  d_Space_is_free : FuncData
  f_Space_settle : Addr
  d_Space_settle : FuncData
  f_Store___init__ : Addr
  d_Store___init__ : FuncData
  f_Store_generation : Addr
  d_Store_generation : FuncData
  f_Store_use_table : Addr
  d_Store_use_table : FuncData
  f_Store_use_reserve : Addr
  d_Store_use_reserve : FuncData
  f_Store_read : Addr
  d_Store_read : FuncData
  f_Store_make : Addr
  d_Store_make : FuncData
  f_Store_is_new : Addr
  d_Store_is_new : FuncData
  f_Store_write : Addr
  d_Store_write : FuncData
  f_Store_share : Addr
  d_Store_share : FuncData
  f_Store_drop : Addr
  d_Store_drop : FuncData
  f_Store_uses : Addr
  d_Store_uses : FuncData
  f_Store_new_blocks : Addr
  d_Store_new_blocks : FuncData
  f__law_tape : Addr
  d__law_tape : FuncData
  f__law_at : Addr
  d__law_at : FuncData
  f__law_block : Addr
  d__law_block : FuncData
  f__law_is_block : Addr
  d__law_is_block : FuncData
  f__law_put_block : Addr
  d__law_put_block : FuncData
  f__law_store : Addr
  d__law_store : FuncData
  f__law_work : Addr
  d__law_work : FuncData
  f__law_choices : Addr
  d__law_choices : FuncData
  f__law_commit : Addr
  d__law_commit : FuncData
  f__law_steps : Addr
  d__law_steps : FuncData
  f__law_due : Addr
  d__law_due : FuncData
  f__law_others : Addr
  d__law_others : FuncData
  f__law_reads : Addr
  d__law_reads : FuncData
  f_law : Addr
  d_law : FuncData
structure Top (K : PySem.W.Frag) (mg : Str → Option Value) (A : Adr) : Prop where
  F_is_between : Fun K "is_between" "is_between" s_is_between A.f_is_between A.d_is_between
  b_is_between : Binds K A.d_is_between ["value", "low", "high"] []
  g_is_between : mg "is_between" = some (.ref A.f_is_between)
  F_is_word : Fun K "is_word" "is_word" s_is_word A.f_is_word A.d_is_word
  b_is_word : Binds K A.d_is_word ["value"] []
  g_is_word : mg "is_word" = some (.ref A.f_is_word)
  F_are_words : Fun K "are_words" "are_words" s_are_words A.f_are_words A.d_are_words
  b_are_words : Binds K A.d_are_words ["values", "many"] []
  g_are_words : mg "are_words" = some (.ref A.f_are_words)
  F_Disk___init__ : Fun K "__init__" "Disk.__init__" s_Disk___init__ A.f_Disk___init__ A.d_Disk___init__
  b_Disk___init__ : Binds K A.d_Disk___init__ ["self", "blocks"] []
  F_Disk_read : Fun K "read" "Disk.read" s_Disk_read A.f_Disk_read A.d_Disk_read
  b_Disk_read : Binds K A.d_Disk_read ["self", "sector"] []
  m_Disk_read : Meth K A.ex.Disk "read" A.f_Disk_read
  F_Disk_operate : Fun K "operate" "Disk.operate" s_Disk_operate A.f_Disk_operate A.d_Disk_operate
  b_Disk_operate : Binds K A.d_Disk_operate ["self"] []
  m_Disk_operate : Meth K A.ex.Disk "operate" A.f_Disk_operate
  F_Disk_write : Fun K "write" "Disk.write" s_Disk_write A.f_Disk_write A.d_Disk_write
  b_Disk_write : Binds K A.d_Disk_write ["self", "sector", "words"] []
  m_Disk_write : Meth K A.ex.Disk "write" A.f_Disk_write
  F_Disk_flush : Fun K "flush" "Disk.flush" s_Disk_flush A.f_Disk_flush A.d_Disk_flush
  b_Disk_flush : Binds K A.d_Disk_flush ["self"] []
  m_Disk_flush : Meth K A.ex.Disk "flush" A.f_Disk_flush
  F_Disk_waiting : Fun K "waiting" "Disk.waiting" s_Disk_waiting A.f_Disk_waiting A.d_Disk_waiting
  b_Disk_waiting : Binds K A.d_Disk_waiting ["self"] []
  m_Disk_waiting : Meth K A.ex.Disk "waiting" A.f_Disk_waiting
  F_Disk_fail_after : Fun K "fail_after" "Disk.fail_after" s_Disk_fail_after A.f_Disk_fail_after A.d_Disk_fail_after
  b_Disk_fail_after : Binds K A.d_Disk_fail_after ["self", "count"] []
  m_Disk_fail_after : Meth K A.ex.Disk "fail_after" A.f_Disk_fail_after
  F_Disk_cut : Fun K "cut" "Disk.cut" s_Disk_cut A.f_Disk_cut A.d_Disk_cut
  b_Disk_cut : Binds K A.d_Disk_cut ["self", "choices"] []
  m_Disk_cut : Meth K A.ex.Disk "cut" A.f_Disk_cut
  F_Head___init__ : Fun K "__init__" "Head.__init__" s_Head___init__ A.f_Head___init__ A.d_Head___init__
  b_Head___init__ : Binds K A.d_Head___init__ ["self", "generation", "table", "blocks"] []
  F_Head_sector : Fun K "sector" "Head.sector" s_Head_sector A.f_Head_sector A.d_Head_sector
  b_Head_sector : Binds K A.d_Head_sector ["self"] []
  m_Head_sector : Meth K A.ex.Head "sector" A.f_Head_sector
  F_place : Fun K "place" "place" s_place A.f_place A.d_place
  b_place : Binds K A.d_place ["generation"] []
  g_place : mg "place" = some (.ref A.f_place)
  F_is_valid_head : Fun K "is_valid_head" "is_valid_head" s_is_valid_head A.f_is_valid_head A.d_is_valid_head
  b_is_valid_head : Binds K A.d_is_valid_head ["sector", "words"] []
  g_is_valid_head : mg "is_valid_head" = some (.ref A.f_is_valid_head)
  F_log_mark : Fun K "log_mark" "log_mark" s_log_mark A.f_log_mark A.d_log_mark
  b_log_mark : Binds K A.d_log_mark ["disk"] []
  g_log_mark : mg "log_mark" = some (.ref A.f_log_mark)
  F_check_head : Fun K "check_head" "check_head" s_check_head A.f_check_head A.d_check_head
  b_check_head : Binds K A.d_check_head ["words", "blocks"] []
  g_check_head : mg "check_head" = some (.ref A.f_check_head)
  F_present_head : Fun K "present_head" "present_head" s_present_head A.f_present_head A.d_present_head
  b_present_head : Binds K A.d_present_head ["disk"] []
  g_present_head : mg "present_head" = some (.ref A.f_present_head)
  F_next_head : Fun K "next_head" "next_head" s_next_head A.f_next_head A.d_next_head
  b_next_head : Binds K A.d_next_head ["store"] []
  g_next_head : mg "next_head" = some (.ref A.f_next_head)
  F_commit_steps : Fun K "commit_steps" "commit_steps" s_commit_steps A.f_commit_steps A.d_commit_steps
  b_commit_steps : Binds K A.d_commit_steps ["store"] []
  g_commit_steps : mg "commit_steps" = some (.ref A.f_commit_steps)
  F_commit : Fun K "commit" "commit" s_commit A.f_commit A.d_commit
  b_commit : Binds K A.d_commit ["store"] []
  g_commit : mg "commit" = some (.ref A.f_commit)
  F_Space___init__ : Fun K "__init__" "Space.__init__" s_Space___init__ A.f_Space___init__ A.d_Space___init__
  b_Space___init__ : Binds K A.d_Space___init__ ["self", "uses"] []
  F_Space_count_spare : Fun K "count_spare" "Space.count_spare" s_Space_count_spare A.f_Space_count_spare A.d_Space_count_spare
  b_Space_count_spare : Binds K A.d_Space_count_spare ["self"] []
  m_Space_count_spare : Meth K A.ex.Space "count_spare" A.f_Space_count_spare
  F_Space_check_block : Fun K "check_block" "Space.check_block" s_Space_check_block A.f_Space_check_block A.d_Space_check_block
  b_Space_check_block : Binds K A.d_Space_check_block ["self", "block"] []
  m_Space_check_block : Meth K A.ex.Space "check_block" A.f_Space_check_block
  F_Space_least_free : Fun K "least_free" "Space.least_free" s_Space_least_free A.f_Space_least_free A.d_Space_least_free
  b_Space_least_free : Binds K A.d_Space_least_free ["self"] []
  m_Space_least_free : Meth K A.ex.Space "least_free" A.f_Space_least_free
  F_Space_take : Fun K "take" "Space.take" s_Space_take A.f_Space_take A.d_Space_take
  b_Space_take : Binds K A.d_Space_take ["self", "reserve"] []
  m_Space_take : Meth K A.ex.Space "take" A.f_Space_take
  F_Space_share : Fun K "share" "Space.share" s_Space_share A.f_Space_share A.d_Space_share
  b_Space_share : Binds K A.d_Space_share ["self", "block"] []
  m_Space_share : Meth K A.ex.Space "share" A.f_Space_share
  F_Space_drop : Fun K "drop" "Space.drop" s_Space_drop A.f_Space_drop A.d_Space_drop
  b_Space_drop : Binds K A.d_Space_drop ["self", "block"] []
  m_Space_drop : Meth K A.ex.Space "drop" A.f_Space_drop
  F_Space_uses : Fun K "uses" "Space.uses" s_Space_uses A.f_Space_uses A.d_Space_uses
  b_Space_uses : Binds K A.d_Space_uses ["self", "block"] []
  m_Space_uses : Meth K A.ex.Space "uses" A.f_Space_uses
  F_Space_is_new : Fun K "is_new" "Space.is_new" s_Space_is_new A.f_Space_is_new A.d_Space_is_new
  b_Space_is_new : Binds K A.d_Space_is_new ["self", "block"] []
  m_Space_is_new : Meth K A.ex.Space "is_new" A.f_Space_is_new
  F_Space_is_free : Fun K "is_free" "Space.is_free" s_Space_is_free A.f_Space_is_free A.d_Space_is_free
  b_Space_is_free : Binds K A.d_Space_is_free ["self", "block"] []
  m_Space_is_free : Meth K A.ex.Space "is_free" A.f_Space_is_free
  F_Space_settle : Fun K "settle" "Space.settle" s_Space_settle A.f_Space_settle A.d_Space_settle
  b_Space_settle : Binds K A.d_Space_settle ["self"] []
  m_Space_settle : Meth K A.ex.Space "settle" A.f_Space_settle
  F_Store___init__ : Fun K "__init__" "Store.__init__" s_Store___init__ A.f_Store___init__ A.d_Store___init__
  b_Store___init__ : Binds K A.d_Store___init__ ["self", "disk", "head", "space"] []
  F_Store_generation : Fun K "generation" "Store.generation" s_Store_generation A.f_Store_generation A.d_Store_generation
  b_Store_generation : Binds K A.d_Store_generation ["self"] []
  m_Store_generation : Meth K A.ex.Store "generation" A.f_Store_generation
  F_Store_use_table : Fun K "use_table" "Store.use_table" s_Store_use_table A.f_Store_use_table A.d_Store_use_table
  b_Store_use_table : Binds K A.d_Store_use_table ["self", "pointer"] []
  m_Store_use_table : Meth K A.ex.Store "use_table" A.f_Store_use_table
  F_Store_use_reserve : Fun K "use_reserve" "Store.use_reserve" s_Store_use_reserve A.f_Store_use_reserve A.d_Store_use_reserve
  b_Store_use_reserve : Binds K A.d_Store_use_reserve ["self", "reserve"] []
  m_Store_use_reserve : Meth K A.ex.Store "use_reserve" A.f_Store_use_reserve
  F_Store_read : Fun K "read" "Store.read" s_Store_read A.f_Store_read A.d_Store_read
  b_Store_read : Binds K A.d_Store_read ["self", "pointer"] []
  m_Store_read : Meth K A.ex.Store "read" A.f_Store_read
  F_Store_make : Fun K "make" "Store.make" s_Store_make A.f_Store_make A.d_Store_make
  b_Store_make : Binds K A.d_Store_make ["self", "words"] []
  m_Store_make : Meth K A.ex.Store "make" A.f_Store_make
  F_Store_is_new : Fun K "is_new" "Store.is_new" s_Store_is_new A.f_Store_is_new A.d_Store_is_new
  b_Store_is_new : Binds K A.d_Store_is_new ["self", "pointer"] []
  m_Store_is_new : Meth K A.ex.Store "is_new" A.f_Store_is_new
  F_Store_write : Fun K "write" "Store.write" s_Store_write A.f_Store_write A.d_Store_write
  b_Store_write : Binds K A.d_Store_write ["self", "pointer", "words"] []
  m_Store_write : Meth K A.ex.Store "write" A.f_Store_write
  F_Store_share : Fun K "share" "Store.share" s_Store_share A.f_Store_share A.d_Store_share
  b_Store_share : Binds K A.d_Store_share ["self", "pointer"] []
  m_Store_share : Meth K A.ex.Store "share" A.f_Store_share
  F_Store_drop : Fun K "drop" "Store.drop" s_Store_drop A.f_Store_drop A.d_Store_drop
  b_Store_drop : Binds K A.d_Store_drop ["self", "pointer"] []
  m_Store_drop : Meth K A.ex.Store "drop" A.f_Store_drop
  F_Store_uses : Fun K "uses" "Store.uses" s_Store_uses A.f_Store_uses A.d_Store_uses
  b_Store_uses : Binds K A.d_Store_uses ["self", "pointer"] []
  m_Store_uses : Meth K A.ex.Store "uses" A.f_Store_uses
  F_Store_new_blocks : Fun K "new_blocks" "Store.new_blocks" s_Store_new_blocks A.f_Store_new_blocks A.d_Store_new_blocks
  b_Store_new_blocks : Binds K A.d_Store_new_blocks ["self"] []
  m_Store_new_blocks : Meth K A.ex.Store "new_blocks" A.f_Store_new_blocks
  F__law_tape : Fun K "_law_tape" "_law_tape" s__law_tape A.f__law_tape A.d__law_tape
  b__law_tape : Binds K A.d__law_tape ["_law_script"] []
  g__law_tape : mg "_law_tape" = some (.ref A.f__law_tape)
  F__law_at : Fun K "_law_at" "_law_at" s__law_at A.f__law_at A.d__law_at
  b__law_at : Binds K A.d__law_at ["_law_tape_here", "_law_k"] []
  g__law_at : mg "_law_at" = some (.ref A.f__law_at)
  F__law_block : Fun K "_law_block" "_law_block" s__law_block A.f__law_block A.d__law_block
  b__law_block : Binds K A.d__law_block ["_law_number", "_law_extra"] []
  g__law_block : mg "_law_block" = some (.ref A.f__law_block)
  F__law_is_block : Fun K "_law_is_block" "_law_is_block" s__law_is_block A.f__law_is_block A.d__law_is_block
  b__law_is_block : Binds K A.d__law_is_block ["_law_told", "_law_due_here"] []
  g__law_is_block : mg "_law_is_block" = some (.ref A.f__law_is_block)
  F__law_put_block : Fun K "_law_put_block" "_law_put_block" s__law_put_block A.f__law_put_block A.d__law_put_block
  b__law_put_block : Binds K A.d__law_put_block ["_law_disk", "_law_number", "_law_words"] []
  g__law_put_block : mg "_law_put_block" = some (.ref A.f__law_put_block)
  F__law_store : Fun K "_law_store" "_law_store" s__law_store A.f__law_store A.d__law_store
  b__law_store : Binds K A.d__law_store ["_law_tape_here", "_law_generation"] []
  g__law_store : mg "_law_store" = some (.ref A.f__law_store)
  F__law_work : Fun K "_law_work" "_law_work" s__law_work A.f__law_work A.d__law_work
  b__law_work : Binds K A.d__law_work ["_law_store_here", "_law_tape_here", "_law_start", "_law_many"] []
  g__law_work : mg "_law_work" = some (.ref A.f__law_work)
  F__law_choices : Fun K "_law_choices" "_law_choices" s__law_choices A.f__law_choices A.d__law_choices
  b__law_choices : Binds K A.d__law_choices ["_law_tape_here", "_law_start", "_law_many"] []
  g__law_choices : mg "_law_choices" = some (.ref A.f__law_choices)
  F__law_commit : Fun K "_law_commit" "_law_commit" s__law_commit A.f__law_commit A.d__law_commit
  b__law_commit : Binds K A.d__law_commit ["_law_store_here"] []
  g__law_commit : mg "_law_commit" = some (.ref A.f__law_commit)
  F__law_steps : Fun K "_law_steps" "_law_steps" s__law_steps A.f__law_steps A.d__law_steps
  b__law_steps : Binds K A.d__law_steps ["_law_store_here"] []
  g__law_steps : mg "_law_steps" = some (.ref A.f__law_steps)
  F__law_due : Fun K "_law_due" "_law_due" s__law_due A.f__law_due A.d__law_due
  b__law_due : Binds K A.d__law_due ["_law_store_here"] []
  g__law_due : mg "_law_due" = some (.ref A.f__law_due)
  F__law_others : Fun K "_law_others" "_law_others" s__law_others A.f__law_others A.d__law_others
  b__law_others : Binds K A.d__law_others ["_law_disk", "_law_generation"] []
  g__law_others : mg "_law_others" = some (.ref A.f__law_others)
  F__law_reads : Fun K "_law_reads" "_law_reads" s__law_reads A.f__law_reads A.d__law_reads
  b__law_reads : Binds K A.d__law_reads ["_law_disk", "_law_contents"] []
  g__law_reads : mg "_law_reads" = some (.ref A.f__law_reads)
  F_law : Fun K "law" "law" s_law A.f_law A.d_law
  b_law : Binds K A.d_law ["_law_script"] []
  g_law : mg "law" = some (.ref A.f_law)
  n_abs : mg "abs" = none
  n_bool : mg "bool" = none
  n_enumerate : mg "enumerate" = none
  n_int : mg "int" = none
  n_isinstance : mg "isinstance" = none
  n_len : mg "len" = none
  n_list : mg "list" = none
  n_max : mg "max" = none
  n_min : mg "min" = none
  n_range : mg "range" = none
  n_sorted : mg "sorted" = none
  n_zip : mg "zip" = none
  k_ADD : ∃ t, mg "ADD" = some (.int 60 t)
  k_BLOCK_SECTORS : ∃ t, mg "BLOCK_SECTORS" = some (.int 4 t)
  k_BLOCK_WORDS : ∃ t, mg "BLOCK_WORDS" = some (.int 32 t)
  k_FIRST_BLOCK : ∃ t, mg "FIRST_BLOCK" = some (.int 5 t)
  k_FIRST_SECTOR : ∃ t, mg "FIRST_SECTOR" = some (.int 4 t)
  k_LOG_BLOCKS : ∃ t, mg "LOG_BLOCKS" = some (.int 4 t)
  k_LOG_SECTORS : ∃ t, mg "LOG_SECTORS" = some (.int 16 t)
  k_MAX_BLOCKS : ∃ t, mg "MAX_BLOCKS" = some (.int 256 t)
  k_MAX_COUNT : ∃ t, mg "MAX_COUNT" = some (.int 100000 t)
  k_MIN_BLOCKS : ∃ t, mg "MIN_BLOCKS" = some (.int 96 t)
  k_SECTOR_WORDS : ∃ t, mg "SECTOR_WORDS" = some (.int 8 t)
  x_BadImage : Exc K mg "BadImage" A.ex.BadImage
  x_NoSpace : Exc K mg "NoSpace" A.ex.NoSpace
  x_NotValid : Exc K mg "NotValid" A.ex.NotValid
  x_PowerOff : Exc K mg "PowerOff" A.ex.PowerOff
  n_Disk_blocks : NoAttr K A.ex.Disk "blocks"
  n_Disk_left : NoAttr K A.ex.Disk "left"
  n_Disk_newest : NoAttr K A.ex.Disk "newest"
  n_Disk_power : NoAttr K A.ex.Disk "power"
  n_Disk_sectors : NoAttr K A.ex.Disk "sectors"
  n_Disk_writes : NoAttr K A.ex.Disk "writes"
  n_Head_blocks : NoAttr K A.ex.Head "blocks"
  n_Head_generation : NoAttr K A.ex.Head "generation"
  n_Head_table : NoAttr K A.ex.Head "table"
  n_Space_blocks : NoAttr K A.ex.Space "blocks"
  n_Space_held : NoAttr K A.ex.Space "held"
  n_Space_low : NoAttr K A.ex.Space "low"
  n_Space_numbers : NoAttr K A.ex.Space "numbers"
  n_Space_spare : NoAttr K A.ex.Space "spare"
  n_Store_disk : NoAttr K A.ex.Store "disk"
  n_Store_head : NoAttr K A.ex.Store "head"
  n_Store_memory : NoAttr K A.ex.Store "memory"
  n_Store_reserve : NoAttr K A.ex.Store "reserve"
  n_Store_space : NoAttr K A.ex.Store "space"
  n_Store_table : NoAttr K A.ex.Store "table"
  c_Disk : Cls K A.ex.Disk
  M_Disk : Mk K A.ex.Disk A.f_Disk___init__
  gC_Disk : mg "Disk" = some (.ref A.ex.Disk)
  c_Head : Cls K A.ex.Head
  M_Head : Mk K A.ex.Head A.f_Head___init__
  gC_Head : mg "Head" = some (.ref A.ex.Head)
  c_Space : Cls K A.ex.Space
  M_Space : Mk K A.ex.Space A.f_Space___init__
  gC_Space : mg "Space" = some (.ref A.ex.Space)
  c_Store : Cls K A.ex.Store
  M_Store : Mk K A.ex.Store A.f_Store___init__
  gC_Store : mg "Store" = some (.ref A.ex.Store)
  fa : Fa K A.ex
section
variable {P : Program} {w : World} {K : PySem.W.Frag} {mg : Str → Option Value} {base : Heap} {A : Adr}
theorem ok_is_between (T : Top K mg A) : FnOk P w K mg base (L2.CX P w) 1 A.f_is_between A.d_is_between ["value", "low", "high"] (sp_is_between K A.ex) := by
  refine T.F_is_between.okX sc_is_between (fun vs H Q E h => len3 h) (fun cdv Ar outer s H vs Q E hr h => ⟨t_is_between K A.ex E, ?_, pure_is_between T.fa h⟩)
  have tk : Takes (cxOf (L2.CX P w) P w K mg base ["value", "low", "high"] "is_between" (defScope s_is_between) A.f_is_between cdv Ar outer s H E) (WB E) := takes_of rfl rfl rfl rfl
  have hu := hu_of hr
  have hl := Nat.lt_of_succ_lt hu
  exact pss_cons (ps_if (PW.pt (pw_or (pt_not (t_tru (pe_callB (c_isi .int) (by rfl) T.n_isinstance (by decide +kernel) (pa_cons (pv 0) (pa_cons (pe_bltn rfl T.n_int (by decide +kernel) rfl) (pa_nil)))))) (pw_or1 (t_tru (pe_callB (c_isi .bool) (by rfl) T.n_isinstance (by decide +kernel) (pa_cons (pv 0) (pa_cons (pe_bltn rfl T.n_bool (by decide +kernel) rfl) (pa_nil)))))))) (pss_one (ps_ret (pe_bl))) (pss_nil))
        (pss_one (ps_ret (pe_chain (o_le hl) (o_le hl) (pv 1) (pv 0) (pv 2))))
theorem ok_is_word (T : Top K mg A) : FnOk P w K mg base (L2.CX P w) 1 A.f_is_word A.d_is_word ["value"] (sp_is_word K A.ex) := by
  refine T.F_is_word.okX sc_is_word (fun vs H Q E h => len1 h) (fun cdv Ar outer s H vs Q E hr h => ⟨t_is_word K A.ex E, ?_, pure_is_word T.fa h⟩)
  have tk : Takes (cxOf (L2.CX P w) P w K mg base ["value"] "is_word" (defScope s_is_word) A.f_is_word cdv Ar outer s H E) (WB E) := takes_of rfl rfl rfl rfl
  have hu := hu_of hr
  have hl := Nat.lt_of_succ_lt hu
  exact pss_cons (ps_if (PW.pt (pw_or (pt_not (t_tru (pe_callB (c_isi .int) (by rfl) T.n_isinstance (by decide +kernel) (pa_cons (pv 0) (pa_cons (pe_bltn rfl T.n_int (by decide +kernel) rfl) (pa_nil)))))) (pw_or1 (t_tru (pe_callB (c_isi .bool) (by rfl) T.n_isinstance (by decide +kernel) (pa_cons (pv 0) (pa_cons (pe_bltn rfl T.n_bool (by decide +kernel) rfl) (pa_nil)))))))) (pss_one (ps_ret (pe_bl))) (pss_nil))
        (pss_one (ps_ret (pe_cmpR (o_ge hl) (pv 0) (pe_int) (nomark _))))
theorem ok_are_words (T : Top K mg A) : FnOk P w K mg base (L2.CX P w) 2 A.f_are_words A.d_are_words ["values", "many"] (sp_are_words K A.ex) := by
  refine T.F_are_words.okX sc_are_words (fun vs H Q E h => len2 h) (fun cdv Ar outer s H vs Q E hr h => ⟨t_are_words K A.ex E, ?_, pure_are_words T.fa h⟩)
  have tk : Takes (cxOf (L2.CX P w) P w K mg base ["values", "many", "value"] "are_words" (defScope s_are_words) A.f_are_words cdv Ar outer s H E) (WB E) := takes_of rfl rfl rfl rfl
  have po : PassesOwn (model P w) (cxOf (L2.CX P w) P w K mg base ["values", "many", "value"] "are_words" (defScope s_are_words) A.f_are_words cdv Ar outer s H E).A (cxOf (L2.CX P w) P w K mg base ["values", "many", "value"] "are_words" (defScope s_are_words) A.f_are_words cdv Ar outer s H E).env (cxOf (L2.CX P w) P w K mg base ["values", "many", "value"] "are_words" (defScope s_are_words) A.f_are_words cdv Ar outer s H E).xe := passes_of rfl
  exact pss_cons (ps_if (PW.pt (pw_or (pt_not (t_tru (pe_callB (c_isi .list) (by rfl) T.n_isinstance (by decide +kernel) (pa_cons (pv 0) (pa_cons (pe_bltn rfl T.n_list (by decide +kernel) rfl) (pa_nil)))))) (pw_or1 (pt_cmpR (o_ne hr.units) (pe_callB (c_len) (by rfl) T.n_len (by decide +kernel) (pa_cons (pv 0) (pa_nil))) (pv 1) (nomark _))))) (pss_one (ps_ret (pe_bl))) (pss_nil))
        (pss_cons (ps_for po rfl (pi_list (pv 0)) (pg_name (i := 2) sc_are_words.nd rfl (Or.inl rfl))
        (pss_one (ps_if (pt_not (t_tru (e_call (ok_is_word T) (hr.mono (by decide)) T.g_is_word T.F_is_word.kp T.b_is_word tk (pa_cons (pv 2) (pa_nil))))) (pss_one (ps_ret (pe_bl))) (pss_nil))))
        (pss_one (ps_ret (pe_bl))))
theorem ok_Disk___init__ (T : Top K mg A) : FnOk P w K mg base (L2.CX P w) 2 A.f_Disk___init__ A.d_Disk___init__ ["self", "blocks"] (sp_Disk___init__ K A.ex) := by
  refine T.F_Disk___init__.okX sc_Disk___init__ (fun vs H Q E h => len2 h) (fun cdv Ar outer s H vs Q E hr h => ⟨t_Disk___init__ K A.ex E, ?_, pure_Disk___init__ T.fa h⟩)
  have tk : Takes (cxOf (L2.CX P w) P w K mg base ["self", "blocks", "sector"] "Disk.__init__" (defScope s_Disk___init__) A.f_Disk___init__ cdv Ar outer s H E) (WB E) := takes_of rfl rfl rfl rfl
  exact pss_cons (ps_if (pt_not (t_tru (e_call (ok_is_between T) (hr.mono (by decide)) T.g_is_between T.F_is_between.kp T.b_is_between tk (pa_cons (pv 1) (pa_cons (pe_glob rfl T.k_MIN_BLOCKS.choose_spec ⟨_, rfl⟩) (pa_cons (pe_glob rfl T.k_MAX_BLOCKS.choose_spec ⟨_, rfl⟩) (pa_nil))))))) (pss_one (s_raise T.x_NotValid tk)) (pss_nil))
        (pss_cons (s_fld T.c_Disk T.n_Disk_blocks (pv 0) (pv 1))
        (pss_cons (s_fld T.c_Disk T.n_Disk_sectors (pv 0) (pe_lc (own := [("sector", 2)]) (by rfl) sc_Disk___init__.nd (pi_range1 (by rfl) T.n_range (pa_cons (pe_op o_mul (pv 1) (pe_glob rfl T.k_BLOCK_SECTORS.choose_spec ⟨_, rfl⟩)) (pa_nil))) (blkOk_by (N := ["self", "blocks", "sector"]) (sc := defScope s_Disk___init__) (by decide +kernel)) (fun _ _ _ _ _ => pg_name (i := 2) sc_Disk___init__.nd rfl (Or.inl rfl)) (fun _ _ _ _ _ => pts_nil) (fun _ _ _ _ _ => pe_op o_mul (pe_lst (pa_cons (pe_int) (pa_nil))) (pe_glob rfl T.k_SECTOR_WORDS.choose_spec ⟨_, rfl⟩))))
        (pss_cons (s_fld T.c_Disk T.n_Disk_writes (pv 0) (pe_lst (pa_nil)))
        (pss_cons (s_fld T.c_Disk T.n_Disk_newest (pv 0) (pe_dnewK))
        (pss_cons (s_fld T.c_Disk T.n_Disk_left (pv 0) (pe_non))
        (pss_one (s_fld T.c_Disk T.n_Disk_power (pv 0) (pe_bl))))))))
theorem ok_Disk_read (T : Top K mg A) : FnOk P w K mg base (L2.CX P w) 2 A.f_Disk_read A.d_Disk_read ["self", "sector"] (sp_Disk_read K A.ex) := by
  refine T.F_Disk_read.okX sc_Disk_read (fun vs H Q E h => len2 h) (fun cdv Ar outer s H vs Q E hr h => ⟨t_Disk_read K A.ex E, ?_, pure_Disk_read T.fa h⟩)
  have tk : Takes (cxOf (L2.CX P w) P w K mg base ["self", "sector"] "Disk.read" (defScope s_Disk_read) A.f_Disk_read cdv Ar outer s H E) (WB E) := takes_of rfl rfl rfl rfl
  have hu := hu_of hr
  exact pss_cons (ps_if (pt_not (t_tru (e_fld T.c_Disk T.n_Disk_power (pv 0)))) (pss_one (s_raise T.x_PowerOff tk)) (pss_nil))
        (pss_cons (ps_if (pt_not (t_tru (e_call (ok_is_between T) (hr.mono (by decide)) T.g_is_between T.F_is_between.kp T.b_is_between tk (pa_cons (pv 1) (pa_cons (pe_int) (pa_cons (pe_op o_sub (pe_callB (c_len) (by rfl) T.n_len (by decide +kernel) (pa_cons (e_fld T.c_Disk T.n_Disk_sectors (pv 0)) (pa_nil))) (pe_int)) (pa_nil))))))) (pss_one (s_raise T.x_NotValid tk)) (pss_nil))
        (pss_cons (ps_if (pt_cmpR (o_in hu) (pv 1) (e_fld T.c_Disk T.n_Disk_newest (pv 0)) (by rfl)) (pss_one (ps_ret (pe_callTy (c_list) (by rfl) T.n_list (by decide +kernel) (pa_cons (e_dg hu (e_fld T.c_Disk T.n_Disk_newest (pv 0)) (pv 1)) (pa_nil))))) (pss_nil))
        (pss_one (ps_ret (pe_callTy (c_list) (by rfl) T.n_list (by decide +kernel) (pa_cons (e_ix (e_fld T.c_Disk T.n_Disk_sectors (pv 0)) (pv 1)) (pa_nil)))))))
theorem ok_Disk_operate (T : Top K mg A) : FnOk P w K mg base (L2.CX P w) 1 A.f_Disk_operate A.d_Disk_operate ["self"] (sp_Disk_operate K A.ex) := by
  refine T.F_Disk_operate.okX sc_Disk_operate (fun vs H Q E h => len1 h) (fun cdv Ar outer s H vs Q E hr h => ⟨t_Disk_operate K A.ex E, ?_, pure_Disk_operate T.fa h⟩)
  have tk : Takes (cxOf (L2.CX P w) P w K mg base ["self"] "Disk.operate" (defScope s_Disk_operate) A.f_Disk_operate cdv Ar outer s H E) (WB E) := takes_of rfl rfl rfl rfl
  exact pss_cut (ps_if (pt_cmpR (o_eq hr.units) (e_fld T.c_Disk T.n_Disk_left (pv 0)) (pe_int) (nomark _)) (pss_one (s_fld T.c_Disk T.n_Disk_power (pv 0) (pe_bl))) (pss_nil))
        (pss_cons (ps_if (pt_not (t_tru (e_fld T.c_Disk T.n_Disk_power (pv 0)))) (pss_one (s_raise T.x_PowerOff tk)) (pss_nil))
        (pss_one (ps_if (pt_cmpR (o_isnt) (e_fld T.c_Disk T.n_Disk_left (pv 0)) (pe_non) (nomark _)) (pss_one (s_augf T.c_Disk T.n_Disk_left (pv 0) (pe_int) in_sub)) (pss_nil))))
theorem ok_Disk_write (T : Top K mg A) : FnOk P w K mg base (L2.CX P w) 3 A.f_Disk_write A.d_Disk_write ["self", "sector", "words"] (sp_Disk_write K A.ex) := by
  refine T.F_Disk_write.okX sc_Disk_write (fun vs H Q E h => len3 h) (fun cdv Ar outer s H vs Q E hr h => ⟨t_Disk_write K A.ex E, ?_, pure_Disk_write T.fa h⟩)
  have tk : Takes (cxOf (L2.CX P w) P w K mg base ["self", "sector", "words"] "Disk.write" (defScope s_Disk_write) A.f_Disk_write cdv Ar outer s H E) (WB E) := takes_of rfl rfl rfl rfl
  have hu := hu_of hr
  exact pss_cons (ps_if (pt_not (t_tru (e_call (ok_is_between T) (hr.mono (by decide)) T.g_is_between T.F_is_between.kp T.b_is_between tk (pa_cons (pv 1) (pa_cons (pe_int) (pa_cons (pe_op o_sub (pe_callB (c_len) (by rfl) T.n_len (by decide +kernel) (pa_cons (e_fld T.c_Disk T.n_Disk_sectors (pv 0)) (pa_nil))) (pe_int)) (pa_nil))))))) (pss_one (s_raise T.x_NotValid tk)) (pss_nil))
        (pss_cons (ps_if (pt_not (t_tru (e_call (ok_are_words T) (hr.mono (by decide)) T.g_are_words T.F_are_words.kp T.b_are_words tk (pa_cons (pv 2) (pa_cons (pe_glob rfl T.k_SECTOR_WORDS.choose_spec ⟨_, rfl⟩) (pa_nil)))))) (pss_one (s_raise T.x_NotValid tk)) (pss_nil))
        (pss_cons (ps_expr (e_meth0 (pv 0) T.c_Disk T.m_Disk_operate (ok_Disk_operate T) (hr.mono (by decide)) T.b_Disk_operate tk))
        (pss_cons (ps_expr (pe_bm PySem.F.plainAttrs_list PySem.F.slot_list_append PySem.F.type_list_append mt_append (e_fld T.c_Disk T.n_Disk_writes (pv 0)) (pa_cons (pe_tup (pa_cons (pv 1) (pa_cons (pe_callTy (c_list) (by rfl) T.n_list (by decide +kernel) (pa_cons (pv 2) (pa_nil))) (pa_nil)))) (pa_nil))))
        (pss_one (ps_dput hu (e_fld T.c_Disk T.n_Disk_newest (pv 0)) (pv 1) (pe_callTy (c_list) (by rfl) T.n_list (by decide +kernel) (pa_cons (pv 2) (pa_nil))) rfl)))))
theorem ok_Disk_flush (T : Top K mg A) : FnOk P w K mg base (L2.CX P w) 2 A.f_Disk_flush A.d_Disk_flush ["self"] (sp_Disk_flush K A.ex) := by
  refine T.F_Disk_flush.okX sc_Disk_flush (fun vs H Q E h => len1 h) (fun cdv Ar outer s H vs Q E hr h => ⟨t_Disk_flush K A.ex E, ?_, pure_Disk_flush T.fa h⟩)
  have tk : Takes (cxOf (L2.CX P w) P w K mg base ["self", "sector", "words"] "Disk.flush" (defScope s_Disk_flush) A.f_Disk_flush cdv Ar outer s H E) (WB E) := takes_of rfl rfl rfl rfl
  have po : PassesOwn (model P w) (cxOf (L2.CX P w) P w K mg base ["self", "sector", "words"] "Disk.flush" (defScope s_Disk_flush) A.f_Disk_flush cdv Ar outer s H E).A (cxOf (L2.CX P w) P w K mg base ["self", "sector", "words"] "Disk.flush" (defScope s_Disk_flush) A.f_Disk_flush cdv Ar outer s H E).env (cxOf (L2.CX P w) P w K mg base ["self", "sector", "words"] "Disk.flush" (defScope s_Disk_flush) A.f_Disk_flush cdv Ar outer s H E).xe := passes_of rfl
  have hu := hu_of hr
  exact pss_cons (ps_expr (e_meth0 (pv 0) T.c_Disk T.m_Disk_operate (ok_Disk_operate T) (hr.mono (by decide)) T.b_Disk_operate tk))
        (pss_cons (ps_for po rfl (pi_list (e_fld T.c_Disk T.n_Disk_writes (pv 0))) (pg_tup rfl (pgs_cons (pg_name (i := 1) sc_Disk_flush.nd rfl (Or.inl rfl)) (pgs_cons (pg_name (i := 2) sc_Disk_flush.nd rfl (Or.inl rfl)) (pgs_nil))))
        (pss_one (ps_asg (pe_callTy (c_list) (by rfl) T.n_list (by decide +kernel) (pa_cons (pv 2) (pa_nil))) (pg_sub (e_fld T.c_Disk T.n_Disk_sectors (pv 0)) (pv 1) (set_u hu)))))
        (pss_cons (s_fld T.c_Disk T.n_Disk_writes (pv 0) (pe_lst (pa_nil)))
        (pss_one (s_fld T.c_Disk T.n_Disk_newest (pv 0) (pe_dnewK)))))
theorem ok_Disk_waiting (T : Top K mg A) : FnOk P w K mg base (L2.CX P w) 1 A.f_Disk_waiting A.d_Disk_waiting ["self"] (sp_Disk_waiting K A.ex) := by
  refine T.F_Disk_waiting.okX sc_Disk_waiting (fun vs H Q E h => len1 h) (fun cdv Ar outer s H vs Q E hr h => ⟨t_Disk_waiting K A.ex E, ?_, pure_Disk_waiting T.fa h⟩)
  have tk : Takes (cxOf (L2.CX P w) P w K mg base ["self", "sector", "words"] "Disk.waiting" (defScope s_Disk_waiting) A.f_Disk_waiting cdv Ar outer s H E) (WB E) := takes_of rfl rfl rfl rfl
  exact pss_one (ps_ret (pe_lc (own := [("sector", 1), ("words", 2)]) (by rfl) sc_Disk_waiting.nd (pi_list (e_fld T.c_Disk T.n_Disk_writes (pv 0))) (blkOk_by (N := ["self", "sector", "words"]) (sc := defScope s_Disk_waiting) (by decide +kernel)) (fun _ _ _ _ _ => pg_tup rfl (pgs_cons (pg_name (i := 1) sc_Disk_waiting.nd rfl (Or.inl rfl)) (pgs_cons (pg_name (i := 2) sc_Disk_waiting.nd rfl (Or.inl rfl)) (pgs_nil)))) (fun _ _ _ _ _ => pts_nil) (fun _ _ _ _ _ => pe_tup (pa_cons (pv 1) (pa_cons (pe_callTy (c_list) (by rfl) T.n_list (by decide +kernel) (pa_cons (pv 2) (pa_nil))) (pa_nil))))))
theorem ok_Disk_fail_after (T : Top K mg A) : FnOk P w K mg base (L2.CX P w) 2 A.f_Disk_fail_after A.d_Disk_fail_after ["self", "count"] (sp_Disk_fail_after K A.ex) := by
  refine T.F_Disk_fail_after.okX sc_Disk_fail_after (fun vs H Q E h => len2 h) (fun cdv Ar outer s H vs Q E hr h => ⟨t_Disk_fail_after K A.ex E, ?_, pure_Disk_fail_after T.fa h⟩)
  have tk : Takes (cxOf (L2.CX P w) P w K mg base ["self", "count"] "Disk.fail_after" (defScope s_Disk_fail_after) A.f_Disk_fail_after cdv Ar outer s H E) (WB E) := takes_of rfl rfl rfl rfl
  exact pss_cons (ps_if (PW.pt (pw_and (pt_cmpR (o_isnt) (pv 1) (pe_non) (nomark _)) (pw_and1 (pt_not (t_tru (e_call (ok_is_between T) (hr.mono (by decide)) T.g_is_between T.F_is_between.kp T.b_is_between tk (pa_cons (pv 1) (pa_cons (pe_int) (pa_cons (pe_glob rfl T.k_MAX_COUNT.choose_spec ⟨_, rfl⟩) (pa_nil)))))))))) (pss_one (s_raise T.x_NotValid tk)) (pss_nil))
        (pss_one (s_fld T.c_Disk T.n_Disk_left (pv 0) (pv 1)))
theorem ok_Disk_cut (T : Top K mg A) : FnOk P w K mg base (L2.CX P w) 2 A.f_Disk_cut A.d_Disk_cut ["self", "choices"] (sp_Disk_cut K A.ex) := by
  refine T.F_Disk_cut.okX sc_Disk_cut (fun vs H Q E h => len2 h) (fun cdv Ar outer s H vs Q E hr h => ⟨t_Disk_cut K A.ex E, ?_, pure_Disk_cut T.fa h⟩)
  have tk : Takes (cxOf (L2.CX P w) P w K mg base ["self", "choices", "choice", "index", "sector", "words", "kept"] "Disk.cut" (defScope s_Disk_cut) A.f_Disk_cut cdv Ar outer s H E) (WB E) := takes_of rfl rfl rfl rfl
  have po : PassesOwn (model P w) (cxOf (L2.CX P w) P w K mg base ["self", "choices", "choice", "index", "sector", "words", "kept"] "Disk.cut" (defScope s_Disk_cut) A.f_Disk_cut cdv Ar outer s H E).A (cxOf (L2.CX P w) P w K mg base ["self", "choices", "choice", "index", "sector", "words", "kept"] "Disk.cut" (defScope s_Disk_cut) A.f_Disk_cut cdv Ar outer s H E).env (cxOf (L2.CX P w) P w K mg base ["self", "choices", "choice", "index", "sector", "words", "kept"] "Disk.cut" (defScope s_Disk_cut) A.f_Disk_cut cdv Ar outer s H E).xe := passes_of rfl
  have hu := hu_of hr
  have hl := Nat.lt_of_succ_lt hu
  exact pss_cons (ps_if (pt_not (t_tru (pe_callB (c_isi .list) (by rfl) T.n_isinstance (by decide +kernel) (pa_cons (pv 1) (pa_cons (pe_bltn rfl T.n_list (by decide +kernel) rfl) (pa_nil)))))) (pss_one (s_raise T.x_NotValid tk)) (pss_nil))
        (pss_cons (ps_for po rfl (pi_list (pv 1)) (pg_name (i := 2) sc_Disk_cut.nd rfl (Or.inl rfl))
        (pss_one (ps_if (pt_not (t_tru (e_call (ok_is_between T) (hr.mono (by decide)) T.g_is_between T.F_is_between.kp T.b_is_between tk (pa_cons (pv 2) (pa_cons (pe_int) (pa_cons (pe_glob rfl T.k_SECTOR_WORDS.choose_spec ⟨_, rfl⟩) (pa_nil))))))) (pss_one (s_raise T.x_NotValid tk)) (pss_nil))))
        (pss_cons (ps_for po rfl (pi_enum (by rfl) T.n_enumerate (pa_cons (e_fld T.c_Disk T.n_Disk_writes (pv 0)) (pa_nil))) (pg_tup rfl (pgs_cons (pg_name (i := 3) sc_Disk_cut.nd rfl (Or.inl rfl)) (pgs_cons (pg_tup rfl (pgs_cons (pg_name (i := 4) sc_Disk_cut.nd rfl (Or.inl rfl)) (pgs_cons (pg_name (i := 5) sc_Disk_cut.nd rfl (Or.inl rfl)) (pgs_nil)))) (pgs_nil))))
        (pss_one (ps_if (pt_cmpR (o_lt hl) (pv 3) (pe_callB (c_len) (by rfl) T.n_len (by decide +kernel) (pa_cons (pv 1) (pa_nil))) (nomark _)) (pss_cons (ps_set (i := 6) sc_Disk_cut.nd rfl (Or.inl rfl) (e_ix (pv 1) (pv 3)))
        (pss_one (ps_asg (pe_op o_add (e_sl (pv 5) (po_none) (po_some (pv 6))) (e_sl (e_ix (e_fld T.c_Disk T.n_Disk_sectors (pv 0)) (pv 4)) (po_some (pv 6)) (po_none))) (pg_sub (e_fld T.c_Disk T.n_Disk_sectors (pv 0)) (pv 4) (set_u hu))))) (pss_nil))))
        (pss_cons (s_fld T.c_Disk T.n_Disk_writes (pv 0) (pe_lst (pa_nil)))
        (pss_cons (s_fld T.c_Disk T.n_Disk_newest (pv 0) (pe_dnewK))
        (pss_cons (s_fld T.c_Disk T.n_Disk_left (pv 0) (pe_non))
        (pss_one (s_fld T.c_Disk T.n_Disk_power (pv 0) (pe_bl))))))))
theorem ok_Head___init__ (T : Top K mg A) : FnOk P w K mg base (L2.CX P w) 1 A.f_Head___init__ A.d_Head___init__ ["self", "generation", "table", "blocks"] (sp_Head___init__ K A.ex) := by
  refine T.F_Head___init__.okX sc_Head___init__ (fun vs H Q E h => len4 h) (fun cdv Ar outer s H vs Q E hr h => ⟨t_Head___init__ K A.ex E, ?_, pure_Head___init__ T.fa h⟩)
  have tk : Takes (cxOf (L2.CX P w) P w K mg base ["self", "generation", "table", "blocks"] "Head.__init__" (defScope s_Head___init__) A.f_Head___init__ cdv Ar outer s H E) (WB E) := takes_of rfl rfl rfl rfl
  exact pss_cons (s_fld T.c_Head T.n_Head_generation (pv 0) (pv 1))
        (pss_cons (s_fld T.c_Head T.n_Head_table (pv 0) (pv 2))
        (pss_one (s_fld T.c_Head T.n_Head_blocks (pv 0) (pv 3))))
theorem ok_Head_sector (T : Top K mg A) : FnOk P w K mg base (L2.CX P w) 1 A.f_Head_sector A.d_Head_sector ["self"] (sp_Head_sector K A.ex) := by
  refine T.F_Head_sector.okX sc_Head_sector (fun vs H Q E h => len1 h) (fun cdv Ar outer s H vs Q E hr h => ⟨t_Head_sector K A.ex E, ?_, pure_Head_sector T.fa h⟩)
  have tk : Takes (cxOf (L2.CX P w) P w K mg base ["self", "number", "birth"] "Head.sector" (defScope s_Head_sector) A.f_Head_sector cdv Ar outer s H E) (WB E) := takes_of rfl rfl rfl rfl
  exact pss_cons (ps_asg (e_fld T.c_Head T.n_Head_table (pv 0)) (pg_tup rfl (pgs_cons (pg_name (i := 1) sc_Head_sector.nd rfl (Or.inl rfl)) (pgs_cons (pg_name (i := 2) sc_Head_sector.nd rfl (Or.inl rfl)) (pgs_nil)))))
        (pss_one (ps_ret (pe_lst (pa_cons (e_fld T.c_Head T.n_Head_generation (pv 0)) (pa_cons (pv 1) (pa_cons (pv 2) (pa_cons (pe_glob rfl T.k_LOG_BLOCKS.choose_spec ⟨_, rfl⟩) (pa_cons (e_fld T.c_Head T.n_Head_blocks (pv 0)) (pa_cons (pe_int) (pa_cons (pe_int) (pa_cons (e_fld T.c_Head T.n_Head_generation (pv 0)) (pa_nil))))))))))))
theorem ok_place (T : Top K mg A) : FnOk P w K mg base (L2.CX P w) 1 A.f_place A.d_place ["generation"] (sp_place K A.ex) := by
  refine T.F_place.okX sc_place (fun vs H Q E h => len1 h) (fun cdv Ar outer s H vs Q E hr h => ⟨t_place K A.ex E, ?_, pure_place T.fa h⟩)
  have tk : Takes (cxOf (L2.CX P w) P w K mg base ["generation"] "place" (defScope s_place) A.f_place cdv Ar outer s H E) (WB E) := takes_of rfl rfl rfl rfl
  exact pss_one (ps_ret (pe_op o_mod (pv 0) (pe_int)))
theorem ok_is_valid_head (T : Top K mg A) : FnOk P w K mg base (L2.CX P w) 2 A.f_is_valid_head A.d_is_valid_head ["sector", "words"] (sp_is_valid_head K A.ex) := by
  refine T.F_is_valid_head.okX sc_is_valid_head (fun vs H Q E h => len2 h) (fun cdv Ar outer s H vs Q E hr h => ⟨t_is_valid_head K A.ex E, ?_, pure_is_valid_head T.fa h⟩)
  have tk : Takes (cxOf (L2.CX P w) P w K mg base ["sector", "words"] "is_valid_head" (defScope s_is_valid_head) A.f_is_valid_head cdv Ar outer s H E) (WB E) := takes_of rfl rfl rfl rfl
  exact pss_one (ps_ret (pe_and (pe_cmpR (o_eq hr.units) (e_ix (pv 1) (pe_int)) (e_ix (pv 1) (pe_int)) (nomark _)) (pe_and (pe_cmpR (o_ne hr.units) (e_ix (pv 1) (pe_int)) (pe_int) (nomark _)) (pe_one (pe_cmpR (o_eq hr.units) (e_call (ok_place T) (hr.mono (by decide)) T.g_place T.F_place.kp T.b_place tk (pa_cons (e_ix (pv 1) (pe_int)) (pa_nil))) (pv 0) (nomark _))))))
theorem ok_log_mark (T : Top K mg A) : FnOk P w K mg base (L2.CX P w) 3 A.f_log_mark A.d_log_mark ["disk"] (sp_log_mark K A.ex) := by
  refine T.F_log_mark.okX sc_log_mark (fun vs H Q E h => len1 h) (fun cdv Ar outer s H vs Q E hr h => ⟨t_log_mark K A.ex E, ?_, pure_log_mark T.fa h⟩)
  have tk : Takes (cxOf (L2.CX P w) P w K mg base ["disk", "mark", "sector"] "log_mark" (defScope s_log_mark) A.f_log_mark cdv Ar outer s H E) (WB E) := takes_of rfl rfl rfl rfl
  have po : PassesOwn (model P w) (cxOf (L2.CX P w) P w K mg base ["disk", "mark", "sector"] "log_mark" (defScope s_log_mark) A.f_log_mark cdv Ar outer s H E).A (cxOf (L2.CX P w) P w K mg base ["disk", "mark", "sector"] "log_mark" (defScope s_log_mark) A.f_log_mark cdv Ar outer s H E).env (cxOf (L2.CX P w) P w K mg base ["disk", "mark", "sector"] "log_mark" (defScope s_log_mark) A.f_log_mark cdv Ar outer s H E).xe := passes_of rfl
  exact pss_cons (ps_set (i := 1) sc_log_mark.nd rfl (Or.inl rfl) (pe_int))
        (pss_cons (ps_for po rfl (pi_range2 (by rfl) T.n_range (pa_cons (pe_glob rfl T.k_FIRST_SECTOR.choose_spec ⟨_, rfl⟩) (pa_cons (pe_op o_add (pe_glob rfl T.k_FIRST_SECTOR.choose_spec ⟨_, rfl⟩) (pe_glob rfl T.k_LOG_SECTORS.choose_spec ⟨_, rfl⟩)) (pa_nil)))) (pg_name (i := 2) sc_log_mark.nd rfl (Or.inl rfl))
        (pss_one (ps_set (i := 1) sc_log_mark.nd rfl (Or.inl rfl) (pe_callB (c_max rfl) (by rfl) T.n_max (by decide +kernel) (pa_cons (pv 1) (pa_cons (e_ix (e_meth (pv 0) T.c_Disk T.m_Disk_read (ok_Disk_read T) (hr.mono (by decide)) T.b_Disk_read tk (pa_cons (pv 2) (pa_nil))) (pe_int)) (pa_nil)))))))
        (pss_one (ps_ret (pv 1))))
theorem ok_check_head (T : Top K mg A) : FnOk P w K mg base (L2.CX P w) 1 A.f_check_head A.d_check_head ["words", "blocks"] (sp_check_head K A.ex) := by
  refine T.F_check_head.okX sc_check_head (fun vs H Q E h => len2 h) (fun cdv Ar outer s H vs Q E hr h => ⟨t_check_head K A.ex E, ?_, pure_check_head T.fa h⟩)
  have tk : Takes (cxOf (L2.CX P w) P w K mg base ["words", "blocks"] "check_head" (defScope s_check_head) A.f_check_head cdv Ar outer s H E) (WB E) := takes_of rfl rfl rfl rfl
  have hu := hu_of hr
  have hl := Nat.lt_of_succ_lt hu
  exact pss_cons (ps_if (pt_cmpR (o_ne hr.units) (e_sl (pv 0) (po_some (pe_int)) (po_some (pe_int))) (pe_lst (pa_cons (pe_glob rfl T.k_LOG_BLOCKS.choose_spec ⟨_, rfl⟩) (pa_cons (pv 1) (pa_cons (pe_int) (pa_cons (pe_int) (pa_nil)))))) (nomark _)) (pss_one (s_raise T.x_BadImage tk)) (pss_nil))
        (pss_one (ps_if (PW.pt (pw_or (pt_not (pt_chain (o_le hl) (o_lt hl) (pe_glob rfl T.k_FIRST_BLOCK.choose_spec ⟨_, rfl⟩) (e_ix (pv 0) (pe_int)) (pv 1))) (pw_or1 (pt_not (pt_chain (o_le hl) (o_le hl) (pe_int) (e_ix (pv 0) (pe_int)) (e_ix (pv 0) (pe_int))))))) (pss_one (s_raise T.x_BadImage tk)) (pss_nil)))
theorem ok_present_head (T : Top K mg A) : FnOk P w K mg base (L2.CX P w) 4 A.f_present_head A.d_present_head ["disk"] (sp_present_head K A.ex) := by
  refine T.F_present_head.okX sc_present_head (fun vs H Q E h => len1 h) (fun cdv Ar outer s H vs Q E hr h => ⟨t_present_head K A.ex E, ?_, pure_present_head T.fa h⟩)
  have tk : Takes (cxOf (L2.CX P w) P w K mg base ["disk", "rows", "best", "sector", "words"] "present_head" (defScope s_present_head) A.f_present_head cdv Ar outer s H E) (WB E) := takes_of rfl rfl rfl rfl
  have po : PassesOwn (model P w) (cxOf (L2.CX P w) P w K mg base ["disk", "rows", "best", "sector", "words"] "present_head" (defScope s_present_head) A.f_present_head cdv Ar outer s H E).A (cxOf (L2.CX P w) P w K mg base ["disk", "rows", "best", "sector", "words"] "present_head" (defScope s_present_head) A.f_present_head cdv Ar outer s H E).env (cxOf (L2.CX P w) P w K mg base ["disk", "rows", "best", "sector", "words"] "present_head" (defScope s_present_head) A.f_present_head cdv Ar outer s H E).xe := passes_of rfl
  have hu := hu_of hr
  have hl := Nat.lt_of_succ_lt hu
  exact pss_cons (ps_set (i := 1) sc_present_head.nd rfl (Or.inl rfl) (pe_lst (pa_cons (e_meth (pv 0) T.c_Disk T.m_Disk_read (ok_Disk_read T) (hr.mono (by decide)) T.b_Disk_read tk (pa_cons (pe_int) (pa_nil))) (pa_cons (e_meth (pv 0) T.c_Disk T.m_Disk_read (ok_Disk_read T) (hr.mono (by decide)) T.b_Disk_read tk (pa_cons (pe_int) (pa_nil))) (pa_nil)))))
        (pss_cons (ps_set (i := 2) sc_present_head.nd rfl (Or.inl rfl) (pe_non))
        (pss_cons (ps_for po rfl (pi_range1 (by rfl) T.n_range (pa_cons (pe_int) (pa_nil))) (pg_name (i := 3) sc_present_head.nd rfl (Or.inl rfl))
        (pss_one (ps_if (t_tru (e_call (ok_is_valid_head T) (hr.mono (by decide)) T.g_is_valid_head T.F_is_valid_head.kp T.b_is_valid_head tk (pa_cons (pv 3) (pa_cons (e_ix (pv 1) (pv 3)) (pa_nil))))) (pss_one (ps_if (PW.pt (pw_or (pt_cmpR (o_is) (pv 2) (pe_non) (nomark _)) (pw_or1 (pt_cmpR (o_gt) (e_ix (e_ix (pv 1) (pv 3)) (pe_int)) (e_ix (e_ix (pv 1) (pv 2)) (pe_int)) (nomark _))))) (pss_one (ps_set (i := 2) sc_present_head.nd rfl (Or.inl rfl) (pv 3))) (pss_nil))) (pss_nil))))
        (pss_cons (ps_if (pt_cmpR (o_is) (pv 2) (pe_non) (nomark _)) (pss_one (s_raise T.x_BadImage tk)) (pss_nil))
        (pss_cons (ps_set (i := 4) sc_present_head.nd rfl (Or.inl rfl) (e_ix (pv 1) (pv 2)))
        (pss_cons (ps_if (pt_cmpR (o_ge hl) (e_ix (e_ix (pv 1) (pe_op o_sub (pe_int) (pv 2))) (pe_int)) (e_ix (pv 4) (pe_int)) (nomark _)) (pss_one (s_raise T.x_BadImage tk)) (pss_nil))
        (pss_cons (ps_expr (e_call (ok_check_head T) (hr.mono (by decide)) T.g_check_head T.F_check_head.kp T.b_check_head tk (pa_cons (pv 4) (pa_cons (e_fld T.c_Disk T.n_Disk_blocks (pv 0)) (pa_nil)))))
        (pss_cons (ps_if (pt_cmpR (o_gt) (e_call (ok_log_mark T) (hr.mono (by decide)) T.g_log_mark T.F_log_mark.kp T.b_log_mark tk (pa_cons (pv 0) (pa_nil))) (e_ix (pv 4) (pe_int)) (nomark _)) (pss_one (s_raise T.x_BadImage tk)) (pss_nil))
        (pss_one (ps_ret (e_mk T.M_Head (ok_Head___init__ T) (hr.mono (by decide)) T.gC_Head T.b_Head___init__ tk (pa_cons (e_ix (pv 4) (pe_int)) (pa_cons (pe_tup (pa_cons (e_ix (pv 4) (pe_int)) (pa_cons (e_ix (pv 4) (pe_int)) (pa_nil)))) (pa_cons (e_fld T.c_Disk T.n_Disk_blocks (pv 0)) (pa_nil))))))))))))))
theorem ok_Store_generation (T : Top K mg A) : FnOk P w K mg base (L2.CX P w) 1 A.f_Store_generation A.d_Store_generation ["self"] (sp_Store_generation K A.ex) := by
  refine T.F_Store_generation.okX sc_Store_generation (fun vs H Q E h => len1 h) (fun cdv Ar outer s H vs Q E hr h => ⟨t_Store_generation K A.ex E, ?_, pure_Store_generation T.fa h⟩)
  have tk : Takes (cxOf (L2.CX P w) P w K mg base ["self"] "Store.generation" (defScope s_Store_generation) A.f_Store_generation cdv Ar outer s H E) (WB E) := takes_of rfl rfl rfl rfl
  exact pss_one (ps_ret (pe_op o_add (e_fld T.c_Head T.n_Head_generation (e_fld T.c_Store T.n_Store_head (pv 0))) (pe_int)))
theorem ok_next_head (T : Top K mg A) : FnOk P w K mg base (L2.CX P w) 3 A.f_next_head A.d_next_head ["store"] (sp_next_head K A.ex) := by
  refine T.F_next_head.okX sc_next_head (fun vs H Q E h => len1 h) (fun cdv Ar outer s H vs Q E hr h => ⟨t_next_head K A.ex E, ?_, pure_next_head T.fa h⟩)
  have tk : Takes (cxOf (L2.CX P w) P w K mg base ["store"] "next_head" (defScope s_next_head) A.f_next_head cdv Ar outer s H E) (WB E) := takes_of rfl rfl rfl rfl
  exact pss_one (ps_ret (e_mk T.M_Head (ok_Head___init__ T) (hr.mono (by decide)) T.gC_Head T.b_Head___init__ tk (pa_cons (e_meth0 (pv 0) T.c_Store T.m_Store_generation (ok_Store_generation T) (hr.mono (by decide)) T.b_Store_generation tk) (pa_cons (e_fld T.c_Store T.n_Store_table (pv 0)) (pa_cons (e_fld T.c_Space T.n_Space_blocks (e_fld T.c_Store T.n_Store_space (pv 0))) (pa_nil))))))
theorem ok_Store_new_blocks (T : Top K mg A) : FnOk P w K mg base (L2.CX P w) 1 A.f_Store_new_blocks A.d_Store_new_blocks ["self"] (sp_Store_new_blocks K A.ex) := by
  refine T.F_Store_new_blocks.okX sc_Store_new_blocks (fun vs H Q E h => len1 h) (fun cdv Ar outer s H vs Q E hr h => ⟨t_Store_new_blocks K A.ex E, ?_, pure_Store_new_blocks T.fa h⟩)
  have tk : Takes (cxOf (L2.CX P w) P w K mg base ["self"] "Store.new_blocks" (defScope s_Store_new_blocks) A.f_Store_new_blocks cdv Ar outer s H E) (WB E) := takes_of rfl rfl rfl rfl
  exact pss_one (ps_ret (pe_callB (c_sortD rfl) (by rfl) T.n_sorted (by decide +kernel) (pa_cons (e_fld T.c_Store T.n_Store_memory (pv 0)) (pa_nil))))
theorem ok_Store_read (T : Top K mg A) : FnOk P w K mg base (L2.CX P w) 3 A.f_Store_read A.d_Store_read ["self", "pointer"] (sp_Store_read K A.ex) := by
  refine T.F_Store_read.okX sc_Store_read (fun vs H Q E h => len2 h) (fun cdv Ar outer s H vs Q E hr h => ⟨t_Store_read K A.ex E, ?_, pure_Store_read T.fa h⟩)
  have tk : Takes (cxOf (L2.CX P w) P w K mg base ["self", "pointer", "number", "words", "part"] "Store.read" (defScope s_Store_read) A.f_Store_read cdv Ar outer s H E) (WB E) := takes_of rfl rfl rfl rfl
  have po : PassesOwn (model P w) (cxOf (L2.CX P w) P w K mg base ["self", "pointer", "number", "words", "part"] "Store.read" (defScope s_Store_read) A.f_Store_read cdv Ar outer s H E).A (cxOf (L2.CX P w) P w K mg base ["self", "pointer", "number", "words", "part"] "Store.read" (defScope s_Store_read) A.f_Store_read cdv Ar outer s H E).env (cxOf (L2.CX P w) P w K mg base ["self", "pointer", "number", "words", "part"] "Store.read" (defScope s_Store_read) A.f_Store_read cdv Ar outer s H E).xe := passes_of rfl
  have hu := hu_of hr
  exact pss_cons (ps_set (i := 2) sc_Store_read.nd rfl (Or.inl rfl) (e_ix (pv 1) (pe_int)))
        (pss_cons (ps_if (pt_not (t_tru (e_call (ok_is_between T) (hr.mono (by decide)) T.g_is_between T.F_is_between.kp T.b_is_between tk (pa_cons (pv 2) (pa_cons (pe_glob rfl T.k_FIRST_BLOCK.choose_spec ⟨_, rfl⟩) (pa_cons (pe_op o_sub (e_fld T.c_Space T.n_Space_blocks (e_fld T.c_Store T.n_Store_space (pv 0))) (pe_int)) (pa_nil))))))) (pss_one (s_raise T.x_NotValid tk)) (pss_nil))
        (pss_cons (ps_if (pt_cmpR (o_in hu) (pv 2) (e_fld T.c_Store T.n_Store_memory (pv 0)) (by rfl)) (pss_one (ps_ret (pe_callTy (c_list) (by rfl) T.n_list (by decide +kernel) (pa_cons (e_dg hu (e_fld T.c_Store T.n_Store_memory (pv 0)) (pv 2)) (pa_nil))))) (pss_nil))
        (pss_cons (ps_set (i := 3) sc_Store_read.nd rfl (Or.inl rfl) (pe_lst (pa_nil)))
        (pss_cons (ps_for po rfl (pi_range1 (by rfl) T.n_range (pa_cons (pe_glob rfl T.k_BLOCK_SECTORS.choose_spec ⟨_, rfl⟩) (pa_nil))) (pg_name (i := 4) sc_Store_read.nd rfl (Or.inl rfl))
        (pss_one (ps_set (i := 3) sc_Store_read.nd rfl (Or.inl rfl) (pe_op o_add (pv 3) (e_meth (e_fld T.c_Store T.n_Store_disk (pv 0)) T.c_Disk T.m_Disk_read (ok_Disk_read T) (hr.mono (by decide)) T.b_Disk_read tk (pa_cons (pe_op o_add (pe_op o_mul (pe_glob rfl T.k_BLOCK_SECTORS.choose_spec ⟨_, rfl⟩) (pv 2)) (pv 4)) (pa_nil)))))))
        (pss_one (ps_ret (pv 3)))))))
theorem ok_commit_steps (T : Top K mg A) : FnOk P w K mg base (L2.CX P w) 4 A.f_commit_steps A.d_commit_steps ["store"] (sp_commit_steps K A.ex) := by
  refine T.F_commit_steps.okX sc_commit_steps (fun vs H Q E h => len1 h) (fun cdv Ar outer s H vs Q E hr h => ⟨t_commit_steps K A.ex E, ?_, pure_commit_steps T.fa h⟩)
  have tk : Takes (cxOf (L2.CX P w) P w K mg base ["store", "mark", "steps", "number", "words", "part", "start", "head"] "commit_steps" (defScope s_commit_steps) A.f_commit_steps cdv Ar outer s H E) (WB E) := takes_of rfl rfl rfl rfl
  have po : PassesOwn (model P w) (cxOf (L2.CX P w) P w K mg base ["store", "mark", "steps", "number", "words", "part", "start", "head"] "commit_steps" (defScope s_commit_steps) A.f_commit_steps cdv Ar outer s H E).A (cxOf (L2.CX P w) P w K mg base ["store", "mark", "steps", "number", "words", "part", "start", "head"] "commit_steps" (defScope s_commit_steps) A.f_commit_steps cdv Ar outer s H E).env (cxOf (L2.CX P w) P w K mg base ["store", "mark", "steps", "number", "words", "part", "start", "head"] "commit_steps" (defScope s_commit_steps) A.f_commit_steps cdv Ar outer s H E).xe := passes_of rfl
  have hu := hu_of hr
  have hl := Nat.lt_of_succ_lt hu
  exact pss_cons (ps_set (i := 1) sc_commit_steps.nd rfl (Or.inl rfl) (e_call (ok_log_mark T) (hr.mono (by decide)) T.g_log_mark T.F_log_mark.kp T.b_log_mark tk (pa_cons (e_fld T.c_Store T.n_Store_disk (pv 0)) (pa_nil))))
        (pss_cons (ps_if (PW.pt (pw_and (pt_cmpR (o_eq hr.units) (e_fld T.c_Store T.n_Store_table (pv 0)) (e_fld T.c_Head T.n_Head_table (e_fld T.c_Store T.n_Store_head (pv 0))) (nomark _)) (pw_and1 (pt_cmpR (o_lt hl) (pv 1) (e_fld T.c_Head T.n_Head_generation (e_fld T.c_Store T.n_Store_head (pv 0))) (nomark _))))) (pss_one (ps_ret (pe_lst (pa_nil)))) (pss_nil))
        (pss_cons (ps_set (i := 2) sc_commit_steps.nd rfl (Or.inl rfl) (pe_lst (pa_nil)))
        (pss_cons (ps_for po rfl (pi_list (e_meth0 (pv 0) T.c_Store T.m_Store_new_blocks (ok_Store_new_blocks T) (hr.mono (by decide)) T.b_Store_new_blocks tk)) (pg_name (i := 3) sc_commit_steps.nd rfl (Or.inl rfl))
        (pss_cons (ps_set (i := 4) sc_commit_steps.nd rfl (Or.inl rfl) (e_meth (pv 0) T.c_Store T.m_Store_read (ok_Store_read T) (hr.mono (by decide)) T.b_Store_read tk (pa_cons (pe_tup (pa_cons (pv 3) (pa_cons (e_meth0 (pv 0) T.c_Store T.m_Store_generation (ok_Store_generation T) (hr.mono (by decide)) T.b_Store_generation tk) (pa_nil)))) (pa_nil))))
        (pss_one (ps_for po rfl (pi_range1 (by rfl) T.n_range (pa_cons (pe_glob rfl T.k_BLOCK_SECTORS.choose_spec ⟨_, rfl⟩) (pa_nil))) (pg_name (i := 5) sc_commit_steps.nd rfl (Or.inl rfl))
        (pss_cons (ps_set (i := 6) sc_commit_steps.nd rfl (Or.inl rfl) (pe_op o_mul (pv 5) (pe_glob rfl T.k_SECTOR_WORDS.choose_spec ⟨_, rfl⟩)))
        (pss_one (ps_expr (pe_bm PySem.F.plainAttrs_list PySem.F.slot_list_append PySem.F.type_list_append mt_append (pv 2) (pa_cons (pe_tup (pa_cons (pe_str) (pa_cons (pe_op o_add (pe_op o_mul (pe_glob rfl T.k_BLOCK_SECTORS.choose_spec ⟨_, rfl⟩) (pv 3)) (pv 5)) (pa_cons (e_sl (pv 4) (po_some (pv 6)) (po_some (pe_op o_add (pv 6) (pe_glob rfl T.k_SECTOR_WORDS.choose_spec ⟨_, rfl⟩)))) (pa_nil))))) (pa_nil))))))))))
        (pss_cons (ps_expr (pe_bm PySem.F.plainAttrs_list PySem.F.slot_list_append PySem.F.type_list_append mt_append (pv 2) (pa_cons (pe_tup (pa_cons (pe_str) (pa_nil))) (pa_nil))))
        (pss_cons (ps_set (i := 7) sc_commit_steps.nd rfl (Or.inl rfl) (e_call (ok_next_head T) (hr.mono (by decide)) T.g_next_head T.F_next_head.kp T.b_next_head tk (pa_cons (pv 0) (pa_nil))))
        (pss_cons (ps_expr (pe_bm PySem.F.plainAttrs_list PySem.F.slot_list_append PySem.F.type_list_append mt_append (pv 2) (pa_cons (pe_tup (pa_cons (pe_str) (pa_cons (e_call (ok_place T) (hr.mono (by decide)) T.g_place T.F_place.kp T.b_place tk (pa_cons (e_fld T.c_Head T.n_Head_generation (pv 7)) (pa_nil))) (pa_cons (e_meth0 (pv 7) T.c_Head T.m_Head_sector (ok_Head_sector T) (hr.mono (by decide)) T.b_Head_sector tk) (pa_nil))))) (pa_nil))))
        (pss_cons (ps_expr (pe_bm PySem.F.plainAttrs_list PySem.F.slot_list_append PySem.F.type_list_append mt_append (pv 2) (pa_cons (pe_tup (pa_cons (pe_str) (pa_nil))) (pa_nil))))
        (pss_one (ps_ret (pv 2))))))))))
theorem ok_Space_count_spare (T : Top K mg A) : FnOk P w K mg base (L2.CX P w) 1 A.f_Space_count_spare A.d_Space_count_spare ["self"] (sp_Space_count_spare K A.ex) := by
  refine T.F_Space_count_spare.okX sc_Space_count_spare (fun vs H Q E h => len1 h) (fun cdv Ar outer s H vs Q E hr h => ⟨t_Space_count_spare K A.ex E, ?_, pure_Space_count_spare T.fa h⟩)
  have tk : Takes (cxOf (L2.CX P w) P w K mg base ["self", "many", "held"] "Space.count_spare" (defScope s_Space_count_spare) A.f_Space_count_spare cdv Ar outer s H E) (WB E) := takes_of rfl rfl rfl rfl
  exact pss_cons (s_fld T.c_Space T.n_Space_spare (pv 0) (pe_callB (c_len) (by rfl) T.n_len (by decide +kernel) (pa_cons (pe_lc (own := [("many", 1), ("held", 2)]) (by rfl) sc_Space_count_spare.nd (pi_zip (by rfl) T.n_zip (pa_cons (e_fld T.c_Space T.n_Space_numbers (pv 0)) (pa_cons (e_fld T.c_Space T.n_Space_held (pv 0)) (pa_nil)))) (blkOk_by (N := ["self", "many", "held"]) (sc := defScope s_Space_count_spare) (by decide +kernel)) (fun _ _ _ _ _ => pg_tup rfl (pgs_cons (pg_name (i := 1) sc_Space_count_spare.nd rfl (Or.inl rfl)) (pgs_cons (pg_name (i := 2) sc_Space_count_spare.nd rfl (Or.inl rfl)) (pgs_nil)))) (fun _ _ _ _ _ => pts_one (PW.pt (pw_and (pt_cmpR (o_eq hr.units) (pv 1) (pe_int) (nomark _)) (pw_and1 (pt_not (t_tru (pv 2))))))) (fun _ _ _ _ _ => pv 1)) (pa_nil))))
        (pss_one (s_fld T.c_Space T.n_Space_low (pv 0) (pe_int)))
theorem ok_Space_settle (T : Top K mg A) : FnOk P w K mg base (L2.CX P w) 2 A.f_Space_settle A.d_Space_settle ["self"] (sp_Space_settle K A.ex) := by
  refine T.F_Space_settle.okX sc_Space_settle (fun vs H Q E h => len1 h) (fun cdv Ar outer s H vs Q E hr h => ⟨t_Space_settle K A.ex E, ?_, pure_Space_settle T.fa h⟩)
  have tk : Takes (cxOf (L2.CX P w) P w K mg base ["self", "many"] "Space.settle" (defScope s_Space_settle) A.f_Space_settle cdv Ar outer s H E) (WB E) := takes_of rfl rfl rfl rfl
  exact pss_cons (s_fld T.c_Space T.n_Space_held (pv 0) (pe_lc (own := [("many", 1)]) (by rfl) sc_Space_settle.nd (pi_list (e_fld T.c_Space T.n_Space_numbers (pv 0))) (blkOk_by (N := ["self", "many"]) (sc := defScope s_Space_settle) (by decide +kernel)) (fun _ _ _ _ _ => pg_name (i := 1) sc_Space_settle.nd rfl (Or.inl rfl)) (fun _ _ _ _ _ => pts_nil) (fun _ _ _ _ _ => pe_cmpR (o_gt) (pv 1) (pe_int) (nomark _))))
        (pss_one (ps_expr (e_meth0 (pv 0) T.c_Space T.m_Space_count_spare (ok_Space_count_spare T) (hr.mono (by decide)) T.b_Space_count_spare tk)))
theorem ok_commit (T : Top K mg A) : FnOk P w K mg base (L2.CX P w) 5 A.f_commit A.d_commit ["store"] (sp_commit K A.ex) := by
  refine T.F_commit.okX sc_commit (fun vs H Q E h => len1 h) (fun cdv Ar outer s H vs Q E hr h => ⟨t_commit K A.ex E, ?_, pure_commit T.fa h⟩)
  have tk : Takes (cxOf (L2.CX P w) P w K mg base ["store", "steps", "step"] "commit" (defScope s_commit) A.f_commit cdv Ar outer s H E) (WB E) := takes_of rfl rfl rfl rfl
  have po : PassesOwn (model P w) (cxOf (L2.CX P w) P w K mg base ["store", "steps", "step"] "commit" (defScope s_commit) A.f_commit cdv Ar outer s H E).A (cxOf (L2.CX P w) P w K mg base ["store", "steps", "step"] "commit" (defScope s_commit) A.f_commit cdv Ar outer s H E).env (cxOf (L2.CX P w) P w K mg base ["store", "steps", "step"] "commit" (defScope s_commit) A.f_commit cdv Ar outer s H E).xe := passes_of rfl
  exact pss_cons (ps_set (i := 1) sc_commit.nd rfl (Or.inl rfl) (e_call (ok_commit_steps T) (hr.mono (by decide)) T.g_commit_steps T.F_commit_steps.kp T.b_commit_steps tk (pa_cons (pv 0) (pa_nil))))
        (pss_cons (ps_if (pt_cmpR (o_eq hr.units) (pv 1) (pe_lst (pa_nil)) (nomark _)) (pss_one (ps_ret (pe_bl))) (pss_nil))
        (pss_cons (ps_for po rfl (pi_list (pv 1)) (pg_name (i := 2) sc_commit.nd rfl (Or.inl rfl))
        (pss_one (ps_if (pt_cmpR (o_eq hr.units) (e_ix (pv 2) (pe_int)) (pe_str) (nomark _)) (pss_one (ps_expr (e_meth (e_fld T.c_Store T.n_Store_disk (pv 0)) T.c_Disk T.m_Disk_write (ok_Disk_write T) (hr.mono (by decide)) T.b_Disk_write tk (pa_cons (e_ix (pv 2) (pe_int)) (pa_cons (e_ix (pv 2) (pe_int)) (pa_nil)))))) (pss_one (ps_expr (e_meth0 (e_fld T.c_Store T.n_Store_disk (pv 0)) T.c_Disk T.m_Disk_flush (ok_Disk_flush T) (hr.mono (by decide)) T.b_Disk_flush tk))))))
        (pss_cons (s_fld T.c_Store T.n_Store_head (pv 0) (e_call (ok_next_head T) (hr.mono (by decide)) T.g_next_head T.F_next_head.kp T.b_next_head tk (pa_cons (pv 0) (pa_nil))))
        (pss_cons (ps_expr (e_meth0 (e_fld T.c_Store T.n_Store_space (pv 0)) T.c_Space T.m_Space_settle (ok_Space_settle T) (hr.mono (by decide)) T.b_Space_settle tk))
        (pss_cons (s_fld T.c_Store T.n_Store_memory (pv 0) (pe_dnewK))
        (pss_one (ps_ret (pe_bl))))))))
theorem ok_Space___init__ (T : Top K mg A) : FnOk P w K mg base (L2.CX P w) 2 A.f_Space___init__ A.d_Space___init__ ["self", "uses"] (sp_Space___init__ K A.ex) := by
  refine T.F_Space___init__.okX sc_Space___init__ (fun vs H Q E h => len2 h) (fun cdv Ar outer s H vs Q E hr h => ⟨t_Space___init__ K A.ex E, ?_, pure_Space___init__ T.fa h⟩)
  have tk : Takes (cxOf (L2.CX P w) P w K mg base ["self", "uses", "many"] "Space.__init__" (defScope s_Space___init__) A.f_Space___init__ cdv Ar outer s H E) (WB E) := takes_of rfl rfl rfl rfl
  exact pss_cons (s_fld T.c_Space T.n_Space_blocks (pv 0) (pe_callB (c_len) (by rfl) T.n_len (by decide +kernel) (pa_cons (pv 1) (pa_nil))))
        (pss_cons (s_fld T.c_Space T.n_Space_numbers (pv 0) (pe_callTy (c_list) (by rfl) T.n_list (by decide +kernel) (pa_cons (pv 1) (pa_nil))))
        (pss_cons (s_fld T.c_Space T.n_Space_held (pv 0) (pe_lc (own := [("many", 2)]) (by rfl) sc_Space___init__.nd (pi_list (pv 1)) (blkOk_by (N := ["self", "uses", "many"]) (sc := defScope s_Space___init__) (by decide +kernel)) (fun _ _ _ _ _ => pg_name (i := 2) sc_Space___init__.nd rfl (Or.inl rfl)) (fun _ _ _ _ _ => pts_nil) (fun _ _ _ _ _ => pe_cmpR (o_gt) (pv 2) (pe_int) (nomark _))))
        (pss_cons (s_fld T.c_Space T.n_Space_spare (pv 0) (pe_int))
        (pss_cons (s_fld T.c_Space T.n_Space_low (pv 0) (pe_int))
        (pss_one (ps_expr (e_meth0 (pv 0) T.c_Space T.m_Space_count_spare (ok_Space_count_spare T) (hr.mono (by decide)) T.b_Space_count_spare tk)))))))
theorem ok_Space_check_block (T : Top K mg A) : FnOk P w K mg base (L2.CX P w) 2 A.f_Space_check_block A.d_Space_check_block ["self", "block"] (sp_Space_check_block K A.ex) := by
  refine T.F_Space_check_block.okX sc_Space_check_block (fun vs H Q E h => len2 h) (fun cdv Ar outer s H vs Q E hr h => ⟨t_Space_check_block K A.ex E, ?_, pure_Space_check_block T.fa h⟩)
  have tk : Takes (cxOf (L2.CX P w) P w K mg base ["self", "block"] "Space.check_block" (defScope s_Space_check_block) A.f_Space_check_block cdv Ar outer s H E) (WB E) := takes_of rfl rfl rfl rfl
  exact pss_one (ps_if (pt_not (t_tru (e_call (ok_is_between T) (hr.mono (by decide)) T.g_is_between T.F_is_between.kp T.b_is_between tk (pa_cons (pv 1) (pa_cons (pe_int) (pa_cons (pe_op o_sub (e_fld T.c_Space T.n_Space_blocks (pv 0)) (pe_int)) (pa_nil))))))) (pss_one (s_raise T.x_NotValid tk)) (pss_nil))
theorem ok_Space_least_free (T : Top K mg A) : FnOk P w K mg base (L2.CX P w) 1 A.f_Space_least_free A.d_Space_least_free ["self"] (sp_Space_least_free K A.ex) := by
  refine T.F_Space_least_free.okX sc_Space_least_free (fun vs H Q E h => len1 h) (fun cdv Ar outer s H vs Q E hr h => ⟨t_Space_least_free K A.ex E, ?_, pure_Space_least_free T.fa h⟩)
  have tk : Takes (cxOf (L2.CX P w) P w K mg base ["self"] "Space.least_free" (defScope s_Space_least_free) A.f_Space_least_free cdv Ar outer s H E) (WB E) := takes_of rfl rfl rfl rfl
  have po : PassesOwn (model P w) (cxOf (L2.CX P w) P w K mg base ["self"] "Space.least_free" (defScope s_Space_least_free) A.f_Space_least_free cdv Ar outer s H E).A (cxOf (L2.CX P w) P w K mg base ["self"] "Space.least_free" (defScope s_Space_least_free) A.f_Space_least_free cdv Ar outer s H E).env (cxOf (L2.CX P w) P w K mg base ["self"] "Space.least_free" (defScope s_Space_least_free) A.f_Space_least_free cdv Ar outer s H E).xe := passes_of rfl
  exact pss_cons (ps_if (pt_cmpR (o_eq hr.units) (e_fld T.c_Space T.n_Space_spare (pv 0)) (pe_int) (nomark _)) (pss_one (ps_ret (pe_non))) (pss_nil))
        (pss_cons (ps_while po (PW.pt (pw_or (pt_cmpR (o_gt) (e_ix (e_fld T.c_Space T.n_Space_numbers (pv 0)) (e_fld T.c_Space T.n_Space_low (pv 0))) (pe_int) (nomark _)) (pw_or1 (t_tru (e_ix (e_fld T.c_Space T.n_Space_held (pv 0)) (e_fld T.c_Space T.n_Space_low (pv 0)))))))
        (pss_one (s_augf T.c_Space T.n_Space_low (pv 0) (pe_int) in_add)))
        (pss_one (ps_ret (e_fld T.c_Space T.n_Space_low (pv 0)))))
theorem ok_Space_take (T : Top K mg A) : FnOk P w K mg base (L2.CX P w) 2 A.f_Space_take A.d_Space_take ["self", "reserve"] (sp_Space_take K A.ex) := by
  refine T.F_Space_take.okX sc_Space_take (fun vs H Q E h => len2 h) (fun cdv Ar outer s H vs Q E hr h => ⟨t_Space_take K A.ex E, ?_, pure_Space_take T.fa h⟩)
  have tk : Takes (cxOf (L2.CX P w) P w K mg base ["self", "reserve", "block"] "Space.take" (defScope s_Space_take) A.f_Space_take cdv Ar outer s H E) (WB E) := takes_of rfl rfl rfl rfl
  have hu := hu_of hr
  have hl := Nat.lt_of_succ_lt hu
  exact pss_cons (ps_if (pt_cmpR (o_le hl) (e_fld T.c_Space T.n_Space_spare (pv 0)) (pv 1) (nomark _)) (pss_one (s_raise T.x_NoSpace tk)) (pss_nil))
        (pss_cons (ps_set (i := 2) sc_Space_take.nd rfl (Or.inl rfl) (e_meth0 (pv 0) T.c_Space T.m_Space_least_free (ok_Space_least_free T) (hr.mono (by decide)) T.b_Space_least_free tk))
        (pss_cons (ps_asg (pe_int) (pg_sub (e_fld T.c_Space T.n_Space_numbers (pv 0)) (pv 2) (set_u hu)))
        (pss_cons (s_augf T.c_Space T.n_Space_spare (pv 0) (pe_int) in_sub)
        (pss_one (ps_ret (pv 2))))))
theorem ok_Space_share (T : Top K mg A) : FnOk P w K mg base (L2.CX P w) 3 A.f_Space_share A.d_Space_share ["self", "block"] (sp_Space_share K A.ex) := by
  refine T.F_Space_share.okX sc_Space_share (fun vs H Q E h => len2 h) (fun cdv Ar outer s H vs Q E hr h => ⟨t_Space_share K A.ex E, ?_, pure_Space_share T.fa h⟩)
  have tk : Takes (cxOf (L2.CX P w) P w K mg base ["self", "block"] "Space.share" (defScope s_Space_share) A.f_Space_share cdv Ar outer s H E) (WB E) := takes_of rfl rfl rfl rfl
  have hu := hu_of hr
  have hl := Nat.lt_of_succ_lt hu
  exact pss_cons (ps_expr (e_meth (pv 0) T.c_Space T.m_Space_check_block (ok_Space_check_block T) (hr.mono (by decide)) T.b_Space_check_block tk (pa_cons (pv 1) (pa_nil))))
        (pss_cons (ps_if (PW.pt (pw_or (pt_cmpR (o_lt hl) (pv 1) (pe_glob rfl T.k_FIRST_BLOCK.choose_spec ⟨_, rfl⟩) (nomark _)) (pw_or1 (pt_cmpR (o_eq hr.units) (e_ix (e_fld T.c_Space T.n_Space_numbers (pv 0)) (pv 1)) (pe_int) (nomark _))))) (pss_one (s_raise T.x_NotValid tk)) (pss_nil))
        (pss_one (ps_augS (e_fld T.c_Space T.n_Space_numbers (pv 0)) (pv 1) (get_u hu) (pe_int) ip_add (set_u hu))))
theorem ok_Space_is_free (T : Top K mg A) : FnOk P w K mg base (L2.CX P w) 3 A.f_Space_is_free A.d_Space_is_free ["self", "block"] (sp_Space_is_free K A.ex) := by
  refine T.F_Space_is_free.okX sc_Space_is_free (fun vs H Q E h => len2 h) (fun cdv Ar outer s H vs Q E hr h => ⟨t_Space_is_free K A.ex E, ?_, pure_Space_is_free T.fa h⟩)
  have tk : Takes (cxOf (L2.CX P w) P w K mg base ["self", "block"] "Space.is_free" (defScope s_Space_is_free) A.f_Space_is_free cdv Ar outer s H E) (WB E) := takes_of rfl rfl rfl rfl
  exact pss_cons (ps_expr (e_meth (pv 0) T.c_Space T.m_Space_check_block (ok_Space_check_block T) (hr.mono (by decide)) T.b_Space_check_block tk (pa_cons (pv 1) (pa_nil))))
        (pss_one (ps_ret (pe_and (pe_cmpR (o_eq hr.units) (e_ix (e_fld T.c_Space T.n_Space_numbers (pv 0)) (pv 1)) (pe_int) (nomark _)) (pe_one (pe_not (e_ix (e_fld T.c_Space T.n_Space_held (pv 0)) (pv 1)))))))
theorem ok_Space_drop (T : Top K mg A) : FnOk P w K mg base (L2.CX P w) 4 A.f_Space_drop A.d_Space_drop ["self", "block"] (sp_Space_drop K A.ex) := by
  refine T.F_Space_drop.okX sc_Space_drop (fun vs H Q E h => len2 h) (fun cdv Ar outer s H vs Q E hr h => ⟨t_Space_drop K A.ex E, ?_, pure_Space_drop T.fa h⟩)
  have tk : Takes (cxOf (L2.CX P w) P w K mg base ["self", "block"] "Space.drop" (defScope s_Space_drop) A.f_Space_drop cdv Ar outer s H E) (WB E) := takes_of rfl rfl rfl rfl
  have hu := hu_of hr
  have hl := Nat.lt_of_succ_lt hu
  exact pss_cons (ps_expr (e_meth (pv 0) T.c_Space T.m_Space_check_block (ok_Space_check_block T) (hr.mono (by decide)) T.b_Space_check_block tk (pa_cons (pv 1) (pa_nil))))
        (pss_cons (ps_if (PW.pt (pw_or (pt_cmpR (o_lt hl) (pv 1) (pe_glob rfl T.k_FIRST_BLOCK.choose_spec ⟨_, rfl⟩) (nomark _)) (pw_or1 (pt_cmpR (o_eq hr.units) (e_ix (e_fld T.c_Space T.n_Space_numbers (pv 0)) (pv 1)) (pe_int) (nomark _))))) (pss_one (s_raise T.x_NotValid tk)) (pss_nil))
        (pss_cons (ps_augS (e_fld T.c_Space T.n_Space_numbers (pv 0)) (pv 1) (get_u hu) (pe_int) ip_sub (set_u hu))
        (pss_cut (ps_if (t_tru (e_meth (pv 0) T.c_Space T.m_Space_is_free (ok_Space_is_free T) (hr.mono (by decide)) T.b_Space_is_free tk (pa_cons (pv 1) (pa_nil)))) (pss_cons (s_augf T.c_Space T.n_Space_spare (pv 0) (pe_int) in_add)
        (pss_one (s_fld T.c_Space T.n_Space_low (pv 0) (pe_callB (c_min rfl) (by rfl) T.n_min (by decide +kernel) (pa_cons (e_fld T.c_Space T.n_Space_low (pv 0)) (pa_cons (pv 1) (pa_nil))))))) (pss_nil))
        (pss_one (ps_ret (e_ix (e_fld T.c_Space T.n_Space_numbers (pv 0)) (pv 1)))))))
theorem ok_Space_uses (T : Top K mg A) : FnOk P w K mg base (L2.CX P w) 3 A.f_Space_uses A.d_Space_uses ["self", "block"] (sp_Space_uses K A.ex) := by
  refine T.F_Space_uses.okX sc_Space_uses (fun vs H Q E h => len2 h) (fun cdv Ar outer s H vs Q E hr h => ⟨t_Space_uses K A.ex E, ?_, pure_Space_uses T.fa h⟩)
  have tk : Takes (cxOf (L2.CX P w) P w K mg base ["self", "block"] "Space.uses" (defScope s_Space_uses) A.f_Space_uses cdv Ar outer s H E) (WB E) := takes_of rfl rfl rfl rfl
  exact pss_cons (ps_expr (e_meth (pv 0) T.c_Space T.m_Space_check_block (ok_Space_check_block T) (hr.mono (by decide)) T.b_Space_check_block tk (pa_cons (pv 1) (pa_nil))))
        (pss_one (ps_ret (e_ix (e_fld T.c_Space T.n_Space_numbers (pv 0)) (pv 1))))
theorem ok_Space_is_new (T : Top K mg A) : FnOk P w K mg base (L2.CX P w) 3 A.f_Space_is_new A.d_Space_is_new ["self", "block"] (sp_Space_is_new K A.ex) := by
  refine T.F_Space_is_new.okX sc_Space_is_new (fun vs H Q E h => len2 h) (fun cdv Ar outer s H vs Q E hr h => ⟨t_Space_is_new K A.ex E, ?_, pure_Space_is_new T.fa h⟩)
  have tk : Takes (cxOf (L2.CX P w) P w K mg base ["self", "block"] "Space.is_new" (defScope s_Space_is_new) A.f_Space_is_new cdv Ar outer s H E) (WB E) := takes_of rfl rfl rfl rfl
  exact pss_cons (ps_expr (e_meth (pv 0) T.c_Space T.m_Space_check_block (ok_Space_check_block T) (hr.mono (by decide)) T.b_Space_check_block tk (pa_cons (pv 1) (pa_nil))))
        (pss_one (ps_ret (pe_and (pe_cmpR (o_gt) (e_ix (e_fld T.c_Space T.n_Space_numbers (pv 0)) (pv 1)) (pe_int) (nomark _)) (pe_one (pe_not (e_ix (e_fld T.c_Space T.n_Space_held (pv 0)) (pv 1)))))))
theorem ok_Store___init__ (T : Top K mg A) : FnOk P w K mg base (L2.CX P w) 1 A.f_Store___init__ A.d_Store___init__ ["self", "disk", "head", "space"] (sp_Store___init__ K A.ex) := by
  refine T.F_Store___init__.okX sc_Store___init__ (fun vs H Q E h => len4 h) (fun cdv Ar outer s H vs Q E hr h => ⟨t_Store___init__ K A.ex E, ?_, pure_Store___init__ T.fa h⟩)
  have tk : Takes (cxOf (L2.CX P w) P w K mg base ["self", "disk", "head", "space"] "Store.__init__" (defScope s_Store___init__) A.f_Store___init__ cdv Ar outer s H E) (WB E) := takes_of rfl rfl rfl rfl
  exact pss_cons (s_fld T.c_Store T.n_Store_disk (pv 0) (pv 1))
        (pss_cons (s_fld T.c_Store T.n_Store_head (pv 0) (pv 2))
        (pss_cons (s_fld T.c_Store T.n_Store_space (pv 0) (pv 3))
        (pss_cons (s_fld T.c_Store T.n_Store_table (pv 0) (e_fld T.c_Head T.n_Head_table (pv 2)))
        (pss_cons (s_fld T.c_Store T.n_Store_reserve (pv 0) (pe_glob rfl T.k_ADD.choose_spec ⟨_, rfl⟩))
        (pss_one (s_fld T.c_Store T.n_Store_memory (pv 0) (pe_dnewK)))))))
theorem ok_Store_use_table (T : Top K mg A) : FnOk P w K mg base (L2.CX P w) 1 A.f_Store_use_table A.d_Store_use_table ["self", "pointer"] (sp_Store_use_table K A.ex) := by
  refine T.F_Store_use_table.okX sc_Store_use_table (fun vs H Q E h => len2 h) (fun cdv Ar outer s H vs Q E hr h => ⟨t_Store_use_table K A.ex E, ?_, pure_Store_use_table T.fa h⟩)
  have tk : Takes (cxOf (L2.CX P w) P w K mg base ["self", "pointer"] "Store.use_table" (defScope s_Store_use_table) A.f_Store_use_table cdv Ar outer s H E) (WB E) := takes_of rfl rfl rfl rfl
  exact pss_one (s_fld T.c_Store T.n_Store_table (pv 0) (pv 1))
theorem ok_Store_use_reserve (T : Top K mg A) : FnOk P w K mg base (L2.CX P w) 1 A.f_Store_use_reserve A.d_Store_use_reserve ["self", "reserve"] (sp_Store_use_reserve K A.ex) := by
  refine T.F_Store_use_reserve.okX sc_Store_use_reserve (fun vs H Q E h => len2 h) (fun cdv Ar outer s H vs Q E hr h => ⟨t_Store_use_reserve K A.ex E, ?_, pure_Store_use_reserve T.fa h⟩)
  have tk : Takes (cxOf (L2.CX P w) P w K mg base ["self", "reserve"] "Store.use_reserve" (defScope s_Store_use_reserve) A.f_Store_use_reserve cdv Ar outer s H E) (WB E) := takes_of rfl rfl rfl rfl
  exact pss_one (s_fld T.c_Store T.n_Store_reserve (pv 0) (pv 1))
theorem ok_Store_make (T : Top K mg A) : FnOk P w K mg base (L2.CX P w) 3 A.f_Store_make A.d_Store_make ["self", "words"] (sp_Store_make K A.ex) := by
  refine T.F_Store_make.okX sc_Store_make (fun vs H Q E h => len2 h) (fun cdv Ar outer s H vs Q E hr h => ⟨t_Store_make K A.ex E, ?_, pure_Store_make T.fa h⟩)
  have tk : Takes (cxOf (L2.CX P w) P w K mg base ["self", "words", "number"] "Store.make" (defScope s_Store_make) A.f_Store_make cdv Ar outer s H E) (WB E) := takes_of rfl rfl rfl rfl
  have hu := hu_of hr
  exact pss_cons (ps_if (pt_not (t_tru (e_call (ok_are_words T) (hr.mono (by decide)) T.g_are_words T.F_are_words.kp T.b_are_words tk (pa_cons (pv 1) (pa_cons (pe_glob rfl T.k_BLOCK_WORDS.choose_spec ⟨_, rfl⟩) (pa_nil)))))) (pss_one (s_raise T.x_NotValid tk)) (pss_nil))
        (pss_cons (ps_set (i := 2) sc_Store_make.nd rfl (Or.inl rfl) (e_meth (e_fld T.c_Store T.n_Store_space (pv 0)) T.c_Space T.m_Space_take (ok_Space_take T) (hr.mono (by decide)) T.b_Space_take tk (pa_cons (e_fld T.c_Store T.n_Store_reserve (pv 0)) (pa_nil))))
        (pss_cons (ps_dput hu (e_fld T.c_Store T.n_Store_memory (pv 0)) (pv 2) (pe_callTy (c_list) (by rfl) T.n_list (by decide +kernel) (pa_cons (pv 1) (pa_nil))) rfl)
        (pss_one (ps_ret (pe_tup (pa_cons (pv 2) (pa_cons (e_meth0 (pv 0) T.c_Store T.m_Store_generation (ok_Store_generation T) (hr.mono (by decide)) T.b_Store_generation tk) (pa_nil))))))))
theorem ok_Store_is_new (T : Top K mg A) : FnOk P w K mg base (L2.CX P w) 4 A.f_Store_is_new A.d_Store_is_new ["self", "pointer"] (sp_Store_is_new K A.ex) := by
  refine T.F_Store_is_new.okX sc_Store_is_new (fun vs H Q E h => len2 h) (fun cdv Ar outer s H vs Q E hr h => ⟨t_Store_is_new K A.ex E, ?_, pure_Store_is_new T.fa h⟩)
  have tk : Takes (cxOf (L2.CX P w) P w K mg base ["self", "pointer", "number"] "Store.is_new" (defScope s_Store_is_new) A.f_Store_is_new cdv Ar outer s H E) (WB E) := takes_of rfl rfl rfl rfl
  exact pss_cons (ps_set (i := 2) sc_Store_is_new.nd rfl (Or.inl rfl) (e_ix (pv 1) (pe_int)))
        (pss_one (ps_ret (pe_and (e_meth (e_fld T.c_Store T.n_Store_space (pv 0)) T.c_Space T.m_Space_is_new (ok_Space_is_new T) (hr.mono (by decide)) T.b_Space_is_new tk (pa_cons (pv 2) (pa_nil))) (pe_one (pe_cmpR (o_eq hr.units) (e_meth (e_fld T.c_Store T.n_Store_space (pv 0)) T.c_Space T.m_Space_uses (ok_Space_uses T) (hr.mono (by decide)) T.b_Space_uses tk (pa_cons (pv 2) (pa_nil))) (pe_int) (nomark _))))))
theorem ok_Store_write (T : Top K mg A) : FnOk P w K mg base (L2.CX P w) 5 A.f_Store_write A.d_Store_write ["self", "pointer", "words"] (sp_Store_write K A.ex) := by
  refine T.F_Store_write.okX sc_Store_write (fun vs H Q E h => len3 h) (fun cdv Ar outer s H vs Q E hr h => ⟨t_Store_write K A.ex E, ?_, pure_Store_write T.fa h⟩)
  have tk : Takes (cxOf (L2.CX P w) P w K mg base ["self", "pointer", "words"] "Store.write" (defScope s_Store_write) A.f_Store_write cdv Ar outer s H E) (WB E) := takes_of rfl rfl rfl rfl
  have hu := hu_of hr
  exact pss_cons (ps_if (PW.pt (pw_or (pt_not (t_tru (e_meth (pv 0) T.c_Store T.m_Store_is_new (ok_Store_is_new T) (hr.mono (by decide)) T.b_Store_is_new tk (pa_cons (pv 1) (pa_nil))))) (pw_or1 (pt_not (t_tru (e_call (ok_are_words T) (hr.mono (by decide)) T.g_are_words T.F_are_words.kp T.b_are_words tk (pa_cons (pv 2) (pa_cons (pe_glob rfl T.k_BLOCK_WORDS.choose_spec ⟨_, rfl⟩) (pa_nil))))))))) (pss_one (s_raise T.x_NotValid tk)) (pss_nil))
        (pss_one (ps_dput hu (e_fld T.c_Store T.n_Store_memory (pv 0)) (e_ix (pv 1) (pe_int)) (pe_callTy (c_list) (by rfl) T.n_list (by decide +kernel) (pa_cons (pv 2) (pa_nil))) rfl))
theorem ok_Store_share (T : Top K mg A) : FnOk P w K mg base (L2.CX P w) 4 A.f_Store_share A.d_Store_share ["self", "pointer"] (sp_Store_share K A.ex) := by
  refine T.F_Store_share.okX sc_Store_share (fun vs H Q E h => len2 h) (fun cdv Ar outer s H vs Q E hr h => ⟨t_Store_share K A.ex E, ?_, pure_Store_share T.fa h⟩)
  have tk : Takes (cxOf (L2.CX P w) P w K mg base ["self", "pointer"] "Store.share" (defScope s_Store_share) A.f_Store_share cdv Ar outer s H E) (WB E) := takes_of rfl rfl rfl rfl
  exact pss_one (ps_expr (e_meth (e_fld T.c_Store T.n_Store_space (pv 0)) T.c_Space T.m_Space_share (ok_Space_share T) (hr.mono (by decide)) T.b_Space_share tk (pa_cons (e_ix (pv 1) (pe_int)) (pa_nil))))
theorem ok_Store_drop (T : Top K mg A) : FnOk P w K mg base (L2.CX P w) 5 A.f_Store_drop A.d_Store_drop ["self", "pointer"] (sp_Store_drop K A.ex) := by
  refine T.F_Store_drop.okX sc_Store_drop (fun vs H Q E h => len2 h) (fun cdv Ar outer s H vs Q E hr h => ⟨t_Store_drop K A.ex E, ?_, pure_Store_drop T.fa h⟩)
  have tk : Takes (cxOf (L2.CX P w) P w K mg base ["self", "pointer", "number", "left"] "Store.drop" (defScope s_Store_drop) A.f_Store_drop cdv Ar outer s H E) (WB E) := takes_of rfl rfl rfl rfl
  have hu := hu_of hr
  exact pss_cons (ps_set (i := 2) sc_Store_drop.nd rfl (Or.inl rfl) (e_ix (pv 1) (pe_int)))
        (pss_cons (ps_set (i := 3) sc_Store_drop.nd rfl (Or.inl rfl) (e_meth (e_fld T.c_Store T.n_Store_space (pv 0)) T.c_Space T.m_Space_drop (ok_Space_drop T) (hr.mono (by decide)) T.b_Space_drop tk (pa_cons (pv 2) (pa_nil))))
        (pss_cut (ps_if (PW.pt (pw_and (pt_cmpR (o_eq hr.units) (pv 3) (pe_int) (nomark _)) (pw_and1 (pt_cmpR (o_in hu) (pv 2) (e_fld T.c_Store T.n_Store_memory (pv 0)) (by rfl))))) (pss_one (ps_ddel (e_fld T.c_Store T.n_Store_memory (pv 0)) (pv 2))) (pss_nil))
        (pss_one (ps_ret (pv 3)))))
theorem ok_Store_uses (T : Top K mg A) : FnOk P w K mg base (L2.CX P w) 4 A.f_Store_uses A.d_Store_uses ["self", "pointer"] (sp_Store_uses K A.ex) := by
  refine T.F_Store_uses.okX sc_Store_uses (fun vs H Q E h => len2 h) (fun cdv Ar outer s H vs Q E hr h => ⟨t_Store_uses K A.ex E, ?_, pure_Store_uses T.fa h⟩)
  have tk : Takes (cxOf (L2.CX P w) P w K mg base ["self", "pointer"] "Store.uses" (defScope s_Store_uses) A.f_Store_uses cdv Ar outer s H E) (WB E) := takes_of rfl rfl rfl rfl
  exact pss_one (ps_ret (e_meth (e_fld T.c_Store T.n_Store_space (pv 0)) T.c_Space T.m_Space_uses (ok_Space_uses T) (hr.mono (by decide)) T.b_Space_uses tk (pa_cons (e_ix (pv 1) (pe_int)) (pa_nil))))
theorem ok__law_tape (T : Top K mg A) : FnOk P w K mg base (L2.CX P w) 1 A.f__law_tape A.d__law_tape ["_law_script"] (sp__law_tape K A.ex) := by
  refine T.F__law_tape.okX sc__law_tape (fun vs H Q E h => len1 h) (fun cdv Ar outer s H vs Q E hr h => ⟨t__law_tape K A.ex E, ?_, pure__law_tape T.fa h⟩)
  have tk : Takes (cxOf (L2.CX P w) P w K mg base ["_law_script", "_law_tape_here", "_law_k", "_law_value", "_law_step"] "_law_tape" (defScope s__law_tape) A.f__law_tape cdv Ar outer s H E) (WB E) := takes_of rfl rfl rfl rfl
  have po : PassesOwn (model P w) (cxOf (L2.CX P w) P w K mg base ["_law_script", "_law_tape_here", "_law_k", "_law_value", "_law_step"] "_law_tape" (defScope s__law_tape) A.f__law_tape cdv Ar outer s H E).A (cxOf (L2.CX P w) P w K mg base ["_law_script", "_law_tape_here", "_law_k", "_law_value", "_law_step"] "_law_tape" (defScope s__law_tape) A.f__law_tape cdv Ar outer s H E).env (cxOf (L2.CX P w) P w K mg base ["_law_script", "_law_tape_here", "_law_k", "_law_value", "_law_step"] "_law_tape" (defScope s__law_tape) A.f__law_tape cdv Ar outer s H E).xe := passes_of rfl
  have hu := hu_of hr
  have hl := Nat.lt_of_succ_lt hu
  exact pss_cons (ps_set (i := 1) sc__law_tape.nd rfl (Or.inl rfl) (pe_lst (pa_nil)))
        (pss_cons (ps_for po rfl (pi_range1 (by rfl) T.n_range (pa_cons (pe_callB (c_len) (by rfl) T.n_len (by decide +kernel) (pa_cons (pv 0) (pa_nil))) (pa_nil))) (pg_name (i := 2) sc__law_tape.nd rfl (Or.inl rfl))
        (pss_cons (ps_set (i := 3) sc__law_tape.nd rfl (Or.inl rfl) (pe_callB (c_abs) (by rfl) T.n_abs (by decide +kernel) (pa_cons (pe_callTy (c_int) (by rfl) T.n_int (by decide +kernel) (pa_cons (e_ix (pv 0) (pv 2)) (pa_nil))) (pa_nil))))
        (pss_one (ps_if (pt_cmpR (o_ge hl) (pv 3) (pe_op o_pow (pe_int) (pe_int)) (nomark _)) (pss_one (ps_for po rfl (pi_range1 (by rfl) T.n_range (pa_cons (pe_int) (pa_nil))) (pg_name (i := 4) sc__law_tape.nd rfl (Or.inl rfl))
        (pss_one (ps_if (pt_cmpR (o_gt) (pv 3) (pe_int) (nomark _)) (pss_cons (ps_expr (pe_bm PySem.F.plainAttrs_list PySem.F.slot_list_append PySem.F.type_list_append mt_append (pv 1) (pa_cons (pe_op o_mod (pv 3) (pe_int)) (pa_nil))))
        (pss_one (ps_set (i := 3) sc__law_tape.nd rfl (Or.inl rfl) (pe_op o_div (pv 3) (pe_int))))) (pss_nil))))) (pss_one (ps_for po rfl (pi_range1 (by rfl) T.n_range (pa_cons (pe_int) (pa_nil))) (pg_name (i := 4) sc__law_tape.nd rfl (Or.inl rfl))
        (pss_cons (ps_set (i := 3) sc__law_tape.nd rfl (Or.inl rfl) (pe_op o_mod (pe_op o_add (pe_op o_add (pe_op o_mul (pv 3) (pe_int)) (pe_op o_mul (pe_int) (pe_op o_add (pv 2) (pe_int)))) (pe_op o_mul (pe_int) (pv 4))) (pe_int)))
        (pss_cons (ps_set (i := 3) sc__law_tape.nd rfl (Or.inl rfl) (pe_op o_mod (pe_op o_mul (pv 3) (pe_int)) (pe_int)))
        (pss_one (ps_expr (pe_bm PySem.F.plainAttrs_list PySem.F.slot_list_append PySem.F.type_list_append mt_append (pv 1) (pa_cons (pe_op o_mod (pe_op o_div (pv 3) (pe_int)) (pe_int)) (pa_nil)))))))))))))
        (pss_one (ps_ret (pv 1))))
theorem ok__law_at (T : Top K mg A) : FnOk P w K mg base (L2.CX P w) 1 A.f__law_at A.d__law_at ["_law_tape_here", "_law_k"] (sp__law_at K A.ex) := by
  refine T.F__law_at.okX sc__law_at (fun vs H Q E h => len2 h) (fun cdv Ar outer s H vs Q E hr h => ⟨t__law_at K A.ex E, ?_, pure__law_at T.fa h⟩)
  have tk : Takes (cxOf (L2.CX P w) P w K mg base ["_law_tape_here", "_law_k"] "_law_at" (defScope s__law_at) A.f__law_at cdv Ar outer s H E) (WB E) := takes_of rfl rfl rfl rfl
  have hu := hu_of hr
  have hl := Nat.lt_of_succ_lt hu
  exact pss_cons (ps_if (pt_cmpR (o_lt hl) (pv 1) (pe_callB (c_len) (by rfl) T.n_len (by decide +kernel) (pa_cons (pv 0) (pa_nil))) (nomark _)) (pss_one (ps_ret (e_ix (pv 0) (pv 1)))) (pss_nil))
        (pss_one (ps_ret (pe_int)))
theorem ok__law_block (T : Top K mg A) : FnOk P w K mg base (L2.CX P w) 1 A.f__law_block A.d__law_block ["_law_number", "_law_extra"] (sp__law_block K A.ex) := by
  refine T.F__law_block.okX sc__law_block (fun vs H Q E h => len2 h) (fun cdv Ar outer s H vs Q E hr h => ⟨t__law_block K A.ex E, ?_, pure__law_block T.fa h⟩)
  have tk : Takes (cxOf (L2.CX P w) P w K mg base ["_law_number", "_law_extra", "_law_j"] "_law_block" (defScope s__law_block) A.f__law_block cdv Ar outer s H E) (WB E) := takes_of rfl rfl rfl rfl
  exact pss_one (ps_ret (pe_lc (own := [("_law_j", 2)]) (by rfl) sc__law_block.nd (pi_range1 (by rfl) T.n_range (pa_cons (pe_int) (pa_nil))) (blkOk_by (N := ["_law_number", "_law_extra", "_law_j"]) (sc := defScope s__law_block) (by decide +kernel)) (fun _ _ _ _ _ => pg_name (i := 2) sc__law_block.nd rfl (Or.inl rfl)) (fun _ _ _ _ _ => pts_nil) (fun _ _ _ _ _ => pe_op o_mod (pe_callTy (c_int) (by rfl) T.n_int (by decide +kernel) (pa_cons (pe_op o_add (pe_op o_add (pe_op o_mul (pv 0) (pe_op o_add (pv 2) (pe_int))) (pe_op o_mul (pe_op o_mul (pv 1) (pv 2)) (pv 2))) (pv 2)) (pa_nil))) (pe_int))))
theorem ok__law_is_block (T : Top K mg A) : FnOk P w K mg base (L2.CX P w) 1 A.f__law_is_block A.d__law_is_block ["_law_told", "_law_due_here"] (sp__law_is_block K A.ex) := by
  refine T.F__law_is_block.okX sc__law_is_block (fun vs H Q E h => len2 h) (fun cdv Ar outer s H vs Q E hr h => ⟨t__law_is_block K A.ex E, ?_, pure__law_is_block T.fa h⟩)
  have tk : Takes (cxOf (L2.CX P w) P w K mg base ["_law_told", "_law_due_here", "_law_j"] "_law_is_block" (defScope s__law_is_block) A.f__law_is_block cdv Ar outer s H E) (WB E) := takes_of rfl rfl rfl rfl
  have po : PassesOwn (model P w) (cxOf (L2.CX P w) P w K mg base ["_law_told", "_law_due_here", "_law_j"] "_law_is_block" (defScope s__law_is_block) A.f__law_is_block cdv Ar outer s H E).A (cxOf (L2.CX P w) P w K mg base ["_law_told", "_law_due_here", "_law_j"] "_law_is_block" (defScope s__law_is_block) A.f__law_is_block cdv Ar outer s H E).env (cxOf (L2.CX P w) P w K mg base ["_law_told", "_law_due_here", "_law_j"] "_law_is_block" (defScope s__law_is_block) A.f__law_is_block cdv Ar outer s H E).xe := passes_of rfl
  exact pss_cons (ps_if (PW.pt (pw_or (pt_not (t_tru (pe_callB (c_isi .list) (by rfl) T.n_isinstance (by decide +kernel) (pa_cons (pv 0) (pa_cons (pe_bltn rfl T.n_list (by decide +kernel) rfl) (pa_nil)))))) (pw_or1 (pt_cmpR (o_ne hr.units) (pe_callB (c_len) (by rfl) T.n_len (by decide +kernel) (pa_cons (pv 0) (pa_nil))) (pe_int) (nomark _))))) (pss_one (ps_ret (pe_bl))) (pss_nil))
        (pss_cons (ps_for po rfl (pi_range1 (by rfl) T.n_range (pa_cons (pe_int) (pa_nil))) (pg_name (i := 2) sc__law_is_block.nd rfl (Or.inl rfl))
        (pss_one (ps_if (PW.pt (pw_or (pt_not (t_tru (pe_callB (c_isi .int) (by rfl) T.n_isinstance (by decide +kernel) (pa_cons (e_ix (pv 0) (pv 2)) (pa_cons (pe_bltn rfl T.n_int (by decide +kernel) rfl) (pa_nil)))))) (pw_or (t_tru (pe_callB (c_isi .bool) (by rfl) T.n_isinstance (by decide +kernel) (pa_cons (e_ix (pv 0) (pv 2)) (pa_cons (pe_bltn rfl T.n_bool (by decide +kernel) rfl) (pa_nil))))) (pw_or1 (pt_cmpR (o_ne hr.units) (e_ix (pv 0) (pv 2)) (e_ix (pv 1) (pv 2)) (nomark _)))))) (pss_one (ps_ret (pe_bl))) (pss_nil))))
        (pss_one (ps_ret (pe_bl))))
theorem ok__law_put_block (T : Top K mg A) : FnOk P w K mg base (L2.CX P w) 4 A.f__law_put_block A.d__law_put_block ["_law_disk", "_law_number", "_law_words"] (sp__law_put_block K A.ex) := by
  refine T.F__law_put_block.okX sc__law_put_block (fun vs H Q E h => len3 h) (fun cdv Ar outer s H vs Q E hr h => ⟨t__law_put_block K A.ex E, ?_, pure__law_put_block T.fa h⟩)
  have tk : Takes (cxOf (L2.CX P w) P w K mg base ["_law_disk", "_law_number", "_law_words", "_law_part"] "_law_put_block" (defScope s__law_put_block) A.f__law_put_block cdv Ar outer s H E) (WB E) := takes_of rfl rfl rfl rfl
  have po : PassesOwn (model P w) (cxOf (L2.CX P w) P w K mg base ["_law_disk", "_law_number", "_law_words", "_law_part"] "_law_put_block" (defScope s__law_put_block) A.f__law_put_block cdv Ar outer s H E).A (cxOf (L2.CX P w) P w K mg base ["_law_disk", "_law_number", "_law_words", "_law_part"] "_law_put_block" (defScope s__law_put_block) A.f__law_put_block cdv Ar outer s H E).env (cxOf (L2.CX P w) P w K mg base ["_law_disk", "_law_number", "_law_words", "_law_part"] "_law_put_block" (defScope s__law_put_block) A.f__law_put_block cdv Ar outer s H E).xe := passes_of rfl
  exact pss_one (ps_for po rfl (pi_range1 (by rfl) T.n_range (pa_cons (pe_int) (pa_nil))) (pg_name (i := 3) sc__law_put_block.nd rfl (Or.inl rfl))
        (pss_one (ps_expr (e_meth (pv 0) T.c_Disk T.m_Disk_write (ok_Disk_write T) (hr.mono (by decide)) T.b_Disk_write tk (pa_cons (pe_op o_add (pe_op o_mul (pe_int) (pv 1)) (pv 3)) (pa_cons (e_sl (pv 2) (po_some (pe_op o_mul (pe_int) (pv 3))) (po_some (pe_op o_add (pe_op o_mul (pe_int) (pv 3)) (pe_int)))) (pa_nil)))))))
theorem ok__law_store (T : Top K mg A) : FnOk P w K mg base (L2.CX P w) 5 A.f__law_store A.d__law_store ["_law_tape_here", "_law_generation"] (sp__law_store K A.ex) := by
  refine T.F__law_store.okX sc__law_store (fun vs H Q E h => len2 h) (fun cdv Ar outer s H vs Q E hr h => ⟨t__law_store K A.ex E, ?_, pure__law_store T.fa h⟩)
  have tk : Takes (cxOf (L2.CX P w) P w K mg base ["_law_tape_here", "_law_generation", "_law_disk", "_law_numbers", "_law_number", "_law_other", "_law_head", "_law_k", "_law_store_here"] "_law_store" (defScope s__law_store) A.f__law_store cdv Ar outer s H E) (WB E) := takes_of rfl rfl rfl rfl
  have po : PassesOwn (model P w) (cxOf (L2.CX P w) P w K mg base ["_law_tape_here", "_law_generation", "_law_disk", "_law_numbers", "_law_number", "_law_other", "_law_head", "_law_k", "_law_store_here"] "_law_store" (defScope s__law_store) A.f__law_store cdv Ar outer s H E).A (cxOf (L2.CX P w) P w K mg base ["_law_tape_here", "_law_generation", "_law_disk", "_law_numbers", "_law_number", "_law_other", "_law_head", "_law_k", "_law_store_here"] "_law_store" (defScope s__law_store) A.f__law_store cdv Ar outer s H E).env (cxOf (L2.CX P w) P w K mg base ["_law_tape_here", "_law_generation", "_law_disk", "_law_numbers", "_law_number", "_law_other", "_law_head", "_law_k", "_law_store_here"] "_law_store" (defScope s__law_store) A.f__law_store cdv Ar outer s H E).xe := passes_of rfl
  have hu := hu_of hr
  exact pss_cons (ps_set (i := 2) sc__law_store.nd rfl (Or.inl rfl) (e_mk T.M_Disk (ok_Disk___init__ T) (hr.mono (by decide)) T.gC_Disk T.b_Disk___init__ tk (pa_cons (pe_int) (pa_nil))))
        (pss_cons (ps_set (i := 3) sc__law_store.nd rfl (Or.inl rfl) (pe_op o_add (pe_op o_mul (pe_lst (pa_cons (pe_int) (pa_nil))) (pe_int)) (pe_op o_mul (pe_lst (pa_cons (pe_int) (pa_nil))) (pe_int))))
        (pss_cons (ps_for po rfl (pi_range2 (by rfl) T.n_range (pa_cons (pe_int) (pa_cons (pe_int) (pa_nil)))) (pg_name (i := 4) sc__law_store.nd rfl (Or.inl rfl))
        (pss_cons (ps_asg (e_ix (pe_lst (pa_cons (pe_int) (pa_cons (pe_int) (pa_cons (pe_int) (pa_cons (pe_int) (pa_nil)))))) (pe_op o_mod (pe_op o_add (e_call (ok__law_at T) (hr.mono (by decide)) T.g__law_at T.F__law_at.kp T.b__law_at tk (pa_cons (pv 0) (pa_cons (pe_op o_add (pe_int) (pe_op o_mod (pv 4) (pe_int))) (pa_nil)))) (pv 4)) (pe_int))) (pg_sub (pv 3) (pv 4) (set_u hu)))
        (pss_one (ps_expr (e_call (ok__law_put_block T) (hr.mono (by decide)) T.g__law_put_block T.F__law_put_block.kp T.b__law_put_block tk (pa_cons (pv 2) (pa_cons (pv 4) (pa_cons (e_call (ok__law_block T) (hr.mono (by decide)) T.g__law_block T.F__law_block.kp T.b__law_block tk (pa_cons (pv 4) (pa_cons (e_call (ok__law_at T) (hr.mono (by decide)) T.g__law_at T.F__law_at.kp T.b__law_at tk (pa_cons (pv 0) (pa_cons (pe_int) (pa_nil)))) (pa_nil)))) (pa_nil)))))))))
        (pss_cons (ps_asg (pe_int) (pg_sub (pv 3) (pe_int) (set_u hu)))
        (pss_cons (ps_set (i := 5) sc__law_store.nd rfl (Or.inl rfl) (pe_op o_mod (e_call (ok__law_at T) (hr.mono (by decide)) T.g__law_at T.F__law_at.kp T.b__law_at tk (pa_cons (pv 0) (pa_cons (pe_int) (pa_nil)))) (pe_int)))
        (pss_cons (ps_set (i := 6) sc__law_store.nd rfl (Or.inl rfl) (pe_lst (pa_cons (pv 1) (pa_cons (pe_int) (pa_cons (pe_int) (pa_cons (pe_int) (pa_cons (pe_int) (pa_cons (pe_int) (pa_cons (pe_int) (pa_cons (pv 1) (pa_nil)))))))))))
        (pss_cons (ps_expr (e_meth (pv 2) T.c_Disk T.m_Disk_write (ok_Disk_write T) (hr.mono (by decide)) T.b_Disk_write tk (pa_cons (pe_op o_mod (pv 1) (pe_int)) (pa_cons (pv 6) (pa_nil)))))
        (pss_cut (ps_if (PW.pt (pw_and (pt_cmpR (o_gt) (pv 5) (pe_int) (nomark _)) (pw_and1 (pt_cmpR (o_gt) (pv 1) (pe_int) (nomark _))))) (pss_one (ps_expr (e_meth (pv 2) T.c_Disk T.m_Disk_write (ok_Disk_write T) (hr.mono (by decide)) T.b_Disk_write tk (pa_cons (pe_op o_sub (pe_int) (pe_op o_mod (pv 1) (pe_int))) (pa_cons (pe_lst (pa_cons (pe_op o_sub (pv 1) (pe_op o_mod (pv 5) (pe_int))) (pa_cons (pe_int) (pa_cons (pe_int) (pa_cons (pe_int) (pa_cons (pe_int) (pa_cons (pe_int) (pa_cons (pe_int) (pa_cons (pe_op o_sub (pe_op o_sub (pv 1) (pe_int)) (pe_op o_div (pv 5) (pe_int))) (pa_nil)))))))))) (pa_nil)))))) (pss_nil))
        (pss_cons (ps_for po rfl (pi_range1 (by rfl) T.n_range (pa_cons (pe_op o_mod (e_call (ok__law_at T) (hr.mono (by decide)) T.g__law_at T.F__law_at.kp T.b__law_at tk (pa_cons (pv 0) (pa_cons (pe_int) (pa_nil)))) (pe_int)) (pa_nil))) (pg_name (i := 7) sc__law_store.nd rfl (Or.inl rfl))
        (pss_one (ps_expr (e_meth (pv 2) T.c_Disk T.m_Disk_write (ok_Disk_write T) (hr.mono (by decide)) T.b_Disk_write tk (pa_cons (pe_op o_add (pe_int) (pe_op o_mul (pv 7) (pe_int))) (pa_cons (pe_lst (pa_cons (pv 7) (pa_cons (pe_int) (pa_cons (pe_int) (pa_cons (pe_int) (pa_cons (pe_int) (pa_cons (pe_int) (pa_cons (pe_int) (pa_cons (pe_callB (c_max rfl) (by rfl) T.n_max (by decide +kernel) (pa_cons (pe_int) (pa_cons (pe_op o_sub (pe_op o_sub (pv 1) (pe_int)) (pv 7)) (pa_nil)))) (pa_nil)))))))))) (pa_nil)))))))
        (pss_cons (ps_expr (e_meth0 (pv 2) T.c_Disk T.m_Disk_flush (ok_Disk_flush T) (hr.mono (by decide)) T.b_Disk_flush tk))
        (pss_cons (ps_set (i := 8) sc__law_store.nd rfl (Or.inl rfl) (e_mk T.M_Store (ok_Store___init__ T) (hr.mono (by decide)) T.gC_Store T.b_Store___init__ tk (pa_cons (pv 2) (pa_cons (e_mk T.M_Head (ok_Head___init__ T) (hr.mono (by decide)) T.gC_Head T.b_Head___init__ tk (pa_cons (pv 1) (pa_cons (pe_tup (pa_cons (pe_int) (pa_cons (pe_int) (pa_nil)))) (pa_cons (pe_int) (pa_nil))))) (pa_cons (e_mk T.M_Space (ok_Space___init__ T) (hr.mono (by decide)) T.gC_Space T.b_Space___init__ tk (pa_cons (pv 3) (pa_nil))) (pa_nil))))))
        (pss_cons (ps_expr (e_meth (pv 8) T.c_Store T.m_Store_use_reserve (ok_Store_use_reserve T) (hr.mono (by decide)) T.b_Store_use_reserve tk (pa_cons (pe_int) (pa_nil))))
        (pss_one (ps_ret (pv 8))))))))))))))
theorem ok__law_work (T : Top K mg A) : FnOk P w K mg base (L2.CX P w) 6 A.f__law_work A.d__law_work ["_law_store_here", "_law_tape_here", "_law_start", "_law_many"] (sp__law_work K A.ex) := by
  refine T.F__law_work.okX sc__law_work (fun vs H Q E h => len4 h) (fun cdv Ar outer s H vs Q E hr h => ⟨t__law_work K A.ex E, ?_, pure__law_work T.fa h⟩)
  have tk : Takes (cxOf (L2.CX P w) P w K mg base ["_law_store_here", "_law_tape_here", "_law_start", "_law_many", "_law_recent", "_law_k", "_law_number", "_law_pick", "_law_pointer"] "_law_work" (defScope s__law_work) A.f__law_work cdv Ar outer s H E) (WB E) := takes_of rfl rfl rfl rfl
  have po : PassesOwn (model P w) (cxOf (L2.CX P w) P w K mg base ["_law_store_here", "_law_tape_here", "_law_start", "_law_many", "_law_recent", "_law_k", "_law_number", "_law_pick", "_law_pointer"] "_law_work" (defScope s__law_work) A.f__law_work cdv Ar outer s H E).A (cxOf (L2.CX P w) P w K mg base ["_law_store_here", "_law_tape_here", "_law_start", "_law_many", "_law_recent", "_law_k", "_law_number", "_law_pick", "_law_pointer"] "_law_work" (defScope s__law_work) A.f__law_work cdv Ar outer s H E).env (cxOf (L2.CX P w) P w K mg base ["_law_store_here", "_law_tape_here", "_law_start", "_law_many", "_law_recent", "_law_k", "_law_number", "_law_pick", "_law_pointer"] "_law_work" (defScope s__law_work) A.f__law_work cdv Ar outer s H E).xe := passes_of rfl
  have hu := hu_of hr
  have hl := Nat.lt_of_succ_lt hu
  exact pss_cons (ps_set (i := 4) sc__law_work.nd rfl (Or.inl rfl) (pe_lst (pa_nil)))
        (pss_cons (ps_for po rfl (pi_range1 (by rfl) T.n_range (pa_cons (pv 3) (pa_nil))) (pg_name (i := 5) sc__law_work.nd rfl (Or.inl rfl))
        (pss_cons (ps_set (i := 6) sc__law_work.nd rfl (Or.inl rfl) (e_call (ok__law_at T) (hr.mono (by decide)) T.g__law_at T.F__law_at.kp T.b__law_at tk (pa_cons (pv 1) (pa_cons (pe_op o_add (pv 2) (pe_op o_mul (pe_int) (pv 5))) (pa_nil)))))
        (pss_cons (ps_set (i := 7) sc__law_work.nd rfl (Or.inl rfl) (e_call (ok__law_at T) (hr.mono (by decide)) T.g__law_at T.F__law_at.kp T.b__law_at tk (pa_cons (pv 1) (pa_cons (pe_op o_add (pe_op o_add (pv 2) (pe_op o_mul (pe_int) (pv 5))) (pe_int)) (pa_nil)))))
        (pss_one (ps_if (PW.pt (pw_or (pt_cmpR (o_lt hl) (pe_op o_mod (pv 6) (pe_int)) (pe_int) (nomark _)) (pw_or1 (pt_cmpR (o_eq hr.units) (pe_callB (c_len) (by rfl) T.n_len (by decide +kernel) (pa_cons (pv 4) (pa_nil))) (pe_int) (nomark _))))) (pss_one (ps_expr (pe_bm PySem.F.plainAttrs_list PySem.F.slot_list_append PySem.F.type_list_append mt_append (pv 4) (pa_cons (e_meth (pv 0) T.c_Store T.m_Store_make (ok_Store_make T) (hr.mono (by decide)) T.b_Store_make tk (pa_cons (e_call (ok__law_block T) (hr.mono (by decide)) T.g__law_block T.F__law_block.kp T.b__law_block tk (pa_cons (pv 6) (pa_cons (pv 7) (pa_nil)))) (pa_nil))) (pa_nil))))) (pss_one (ps_if (pt_cmpR (o_eq hr.units) (pe_op o_mod (pv 6) (pe_int)) (pe_int) (nomark _)) (pss_cons (ps_set (i := 8) sc__law_work.nd rfl (Or.inl rfl) (e_ix (pv 4) (pe_op o_mod (pv 7) (pe_callB (c_len) (by rfl) T.n_len (by decide +kernel) (pa_cons (pv 4) (pa_nil))))))
        (pss_one (ps_if (t_tru (e_meth (pv 0) T.c_Store T.m_Store_is_new (ok_Store_is_new T) (hr.mono (by decide)) T.b_Store_is_new tk (pa_cons (pv 8) (pa_nil)))) (pss_one (ps_expr (e_meth (pv 0) T.c_Store T.m_Store_write (ok_Store_write T) (hr.mono (by decide)) T.b_Store_write tk (pa_cons (pv 8) (pa_cons (e_call (ok__law_block T) (hr.mono (by decide)) T.g__law_block T.F__law_block.kp T.b__law_block tk (pa_cons (pv 6) (pa_cons (pv 7) (pa_nil)))) (pa_nil)))))) (pss_nil)))) (pss_one (ps_if (pt_cmpR (o_eq hr.units) (pe_op o_mod (pv 6) (pe_int)) (pe_int) (nomark _)) (pss_cons (ps_set (i := 8) sc__law_work.nd rfl (Or.inl rfl) (pe_tup (pa_cons (pe_op o_add (pe_int) (pe_op o_mod (pv 7) (pe_int))) (pa_cons (pe_int) (pa_nil)))))
        (pss_one (ps_if (PW.pt (pw_and (pt_cmpR (o_gt) (e_meth (pv 0) T.c_Store T.m_Store_uses (ok_Store_uses T) (hr.mono (by decide)) T.b_Store_uses tk (pa_cons (pv 8) (pa_nil))) (pe_int) (nomark _)) (pw_and1 (pt_cmpR (o_gt) (e_ix (pv 8) (pe_int)) (pe_int) (nomark _))))) (pss_one (ps_expr (e_meth (pv 0) T.c_Store T.m_Store_drop (ok_Store_drop T) (hr.mono (by decide)) T.b_Store_drop tk (pa_cons (pv 8) (pa_nil))))) (pss_nil)))) (pss_cons (ps_set (i := 8) sc__law_work.nd rfl (Or.inl rfl) (e_ix (pv 4) (pe_op o_mod (pv 7) (pe_callB (c_len) (by rfl) T.n_len (by decide +kernel) (pa_cons (pv 4) (pa_nil))))))
        (pss_one (ps_if (PW.pt (pw_or (pt_cmpR (o_gt) (e_meth (pv 0) T.c_Store T.m_Store_uses (ok_Store_uses T) (hr.mono (by decide)) T.b_Store_uses tk (pa_cons (pv 8) (pa_nil))) (pe_int) (nomark _)) (pw_or1 (PW.pt (pw_and (pt_cmpR (o_eq hr.units) (e_meth (pv 0) T.c_Store T.m_Store_uses (ok_Store_uses T) (hr.mono (by decide)) T.b_Store_uses tk (pa_cons (pv 8) (pa_nil))) (pe_int) (nomark _)) (pw_and1 (pt_cmpR (o_eq hr.units) (pe_op o_mod (pv 7) (pe_int)) (pe_int) (nomark _)))))))) (pss_one (ps_expr (e_meth (pv 0) T.c_Store T.m_Store_drop (ok_Store_drop T) (hr.mono (by decide)) T.b_Store_drop tk (pa_cons (pv 8) (pa_nil))))) (pss_one (ps_if (pt_cmpR (o_gt) (e_meth (pv 0) T.c_Store T.m_Store_uses (ok_Store_uses T) (hr.mono (by decide)) T.b_Store_uses tk (pa_cons (pv 8) (pa_nil))) (pe_int) (nomark _)) (pss_one (ps_expr (e_meth (pv 0) T.c_Store T.m_Store_share (ok_Store_share T) (hr.mono (by decide)) T.b_Store_share tk (pa_cons (pv 8) (pa_nil))))) (pss_nil)))))))))))))))
        (pss_one (ps_ret (pv 4))))
theorem ok__law_choices (T : Top K mg A) : FnOk P w K mg base (L2.CX P w) 2 A.f__law_choices A.d__law_choices ["_law_tape_here", "_law_start", "_law_many"] (sp__law_choices K A.ex) := by
  refine T.F__law_choices.okX sc__law_choices (fun vs H Q E h => len3 h) (fun cdv Ar outer s H vs Q E hr h => ⟨t__law_choices K A.ex E, ?_, pure__law_choices T.fa h⟩)
  have tk : Takes (cxOf (L2.CX P w) P w K mg base ["_law_tape_here", "_law_start", "_law_many", "_law_choices_here", "_law_k", "_law_number"] "_law_choices" (defScope s__law_choices) A.f__law_choices cdv Ar outer s H E) (WB E) := takes_of rfl rfl rfl rfl
  have po : PassesOwn (model P w) (cxOf (L2.CX P w) P w K mg base ["_law_tape_here", "_law_start", "_law_many", "_law_choices_here", "_law_k", "_law_number"] "_law_choices" (defScope s__law_choices) A.f__law_choices cdv Ar outer s H E).A (cxOf (L2.CX P w) P w K mg base ["_law_tape_here", "_law_start", "_law_many", "_law_choices_here", "_law_k", "_law_number"] "_law_choices" (defScope s__law_choices) A.f__law_choices cdv Ar outer s H E).env (cxOf (L2.CX P w) P w K mg base ["_law_tape_here", "_law_start", "_law_many", "_law_choices_here", "_law_k", "_law_number"] "_law_choices" (defScope s__law_choices) A.f__law_choices cdv Ar outer s H E).xe := passes_of rfl
  exact pss_cons (ps_set (i := 3) sc__law_choices.nd rfl (Or.inl rfl) (pe_lst (pa_nil)))
        (pss_cons (ps_for po rfl (pi_range1 (by rfl) T.n_range (pa_cons (pv 2) (pa_nil))) (pg_name (i := 4) sc__law_choices.nd rfl (Or.inl rfl))
        (pss_cons (ps_set (i := 5) sc__law_choices.nd rfl (Or.inl rfl) (e_call (ok__law_at T) (hr.mono (by decide)) T.g__law_at T.F__law_at.kp T.b__law_at tk (pa_cons (pv 0) (pa_cons (pe_op o_add (pv 1) (pv 4)) (pa_nil)))))
        (pss_one (ps_expr (pe_bm PySem.F.plainAttrs_list PySem.F.slot_list_append PySem.F.type_list_append mt_append (pv 3) (pa_cons (e_ix (pe_lst (pa_cons (pe_int) (pa_cons (pe_int) (pa_cons (pe_op o_mod (pe_op o_div (pv 5) (pe_int)) (pe_int)) (pa_cons (pe_op o_mul (pe_int) (pe_op o_mod (pe_op o_div (pv 5) (pe_int)) (pe_int))) (pa_nil)))))) (pe_op o_mod (pv 5) (pe_int))) (pa_nil)))))))
        (pss_one (ps_ret (pv 3))))
theorem ok__law_commit (T : Top K mg A) : FnOk P w K mg base (L2.CX P w) 6 A.f__law_commit A.d__law_commit ["_law_store_here"] (sp__law_commit K A.ex) := by
  refine T.F__law_commit.okX sc__law_commit (fun vs H Q E h => len1 h) (fun cdv Ar outer s H vs Q E hr h => ⟨t__law_commit K A.ex E, ?_, pure__law_commit T.fa h⟩)
  have tk : Takes (cxOf (L2.CX P w) P w K mg base ["_law_store_here"] "_law_commit" (defScope s__law_commit) A.f__law_commit cdv Ar outer s H E) (WB E) := takes_of rfl rfl rfl rfl
  exact pss_one (s_try rfl rfl ⟨rfl, by decide, Or.inl T.x_PowerOff.g⟩ tk (fun W pn xe tk po => pss_one (ps_ret (e_call (ok_commit T) (hr.mono (by decide)) T.g_commit T.F_commit.kp T.b_commit tk (pa_cons (pv 0) (pa_nil))))) (fun a oe cls d pn hz hf => pss_one (ps_ret (pe_str))))
theorem ok__law_steps (T : Top K mg A) : FnOk P w K mg base (L2.CX P w) 5 A.f__law_steps A.d__law_steps ["_law_store_here"] (sp__law_steps K A.ex) := by
  refine T.F__law_steps.okX sc__law_steps (fun vs H Q E h => len1 h) (fun cdv Ar outer s H vs Q E hr h => ⟨t__law_steps K A.ex E, ?_, pure__law_steps T.fa h⟩)
  have tk : Takes (cxOf (L2.CX P w) P w K mg base ["_law_store_here"] "_law_steps" (defScope s__law_steps) A.f__law_steps cdv Ar outer s H E) (WB E) := takes_of rfl rfl rfl rfl
  exact pss_one (s_try rfl rfl ⟨rfl, by decide, Or.inl T.x_PowerOff.g⟩ tk (fun W pn xe tk po => pss_one (ps_ret (e_call (ok_commit_steps T) (hr.mono (by decide)) T.g_commit_steps T.F_commit_steps.kp T.b_commit_steps tk (pa_cons (pv 0) (pa_nil))))) (fun a oe cls d pn hz hf => pss_one (ps_ret (pe_str))))
theorem ok__law_due (T : Top K mg A) : FnOk P w K mg base (L2.CX P w) 4 A.f__law_due A.d__law_due ["_law_store_here"] (sp__law_due K A.ex) := by
  refine T.F__law_due.okX sc__law_due (fun vs H Q E h => len1 h) (fun cdv Ar outer s H vs Q E hr h => ⟨t__law_due K A.ex E, ?_, pure__law_due T.fa h⟩)
  have tk : Takes (cxOf (L2.CX P w) P w K mg base ["_law_store_here", "_law_writes", "_law_number", "_law_words", "_law_part"] "_law_due" (defScope s__law_due) A.f__law_due cdv Ar outer s H E) (WB E) := takes_of rfl rfl rfl rfl
  have po : PassesOwn (model P w) (cxOf (L2.CX P w) P w K mg base ["_law_store_here", "_law_writes", "_law_number", "_law_words", "_law_part"] "_law_due" (defScope s__law_due) A.f__law_due cdv Ar outer s H E).A (cxOf (L2.CX P w) P w K mg base ["_law_store_here", "_law_writes", "_law_number", "_law_words", "_law_part"] "_law_due" (defScope s__law_due) A.f__law_due cdv Ar outer s H E).env (cxOf (L2.CX P w) P w K mg base ["_law_store_here", "_law_writes", "_law_number", "_law_words", "_law_part"] "_law_due" (defScope s__law_due) A.f__law_due cdv Ar outer s H E).xe := passes_of rfl
  exact pss_cons (ps_set (i := 1) sc__law_due.nd rfl (Or.inl rfl) (pe_lst (pa_nil)))
        (pss_cons (ps_for po rfl (pi_list (e_meth0 (pv 0) T.c_Store T.m_Store_new_blocks (ok_Store_new_blocks T) (hr.mono (by decide)) T.b_Store_new_blocks tk)) (pg_name (i := 2) sc__law_due.nd rfl (Or.inl rfl))
        (pss_cons (ps_set (i := 3) sc__law_due.nd rfl (Or.inl rfl) (e_meth (pv 0) T.c_Store T.m_Store_read (ok_Store_read T) (hr.mono (by decide)) T.b_Store_read tk (pa_cons (pe_tup (pa_cons (pv 2) (pa_cons (pe_int) (pa_nil)))) (pa_nil))))
        (pss_one (ps_for po rfl (pi_range1 (by rfl) T.n_range (pa_cons (pe_int) (pa_nil))) (pg_name (i := 4) sc__law_due.nd rfl (Or.inl rfl))
        (pss_one (ps_expr (pe_bm PySem.F.plainAttrs_list PySem.F.slot_list_append PySem.F.type_list_append mt_append (pv 1) (pa_cons (pe_tup (pa_cons (pe_op o_add (pe_op o_mul (pe_int) (pv 2)) (pv 4)) (pa_cons (e_sl (pv 3) (po_some (pe_op o_mul (pe_int) (pv 4))) (po_some (pe_op o_add (pe_op o_mul (pe_int) (pv 4)) (pe_int)))) (pa_nil)))) (pa_nil)))))))))
        (pss_one (ps_ret (pv 1))))
theorem ok__law_others (T : Top K mg A) : FnOk P w K mg base (L2.CX P w) 4 A.f__law_others A.d__law_others ["_law_disk", "_law_generation"] (sp__law_others K A.ex) := by
  refine T.F__law_others.okX sc__law_others (fun vs H Q E h => len2 h) (fun cdv Ar outer s H vs Q E hr h => ⟨t__law_others K A.ex E, ?_, pure__law_others T.fa h⟩)
  have tk : Takes (cxOf (L2.CX P w) P w K mg base ["_law_disk", "_law_generation", "_law_idle", "_law_busy"] "_law_others" (defScope s__law_others) A.f__law_others cdv Ar outer s H E) (WB E) := takes_of rfl rfl rfl rfl
  exact pss_cons (ps_set (i := 2) sc__law_others.nd rfl (Or.inl rfl) (e_mk T.M_Store (ok_Store___init__ T) (hr.mono (by decide)) T.gC_Store T.b_Store___init__ tk (pa_cons (pv 0) (pa_cons (e_mk T.M_Head (ok_Head___init__ T) (hr.mono (by decide)) T.gC_Head T.b_Head___init__ tk (pa_cons (pv 1) (pa_cons (pe_tup (pa_cons (pe_int) (pa_cons (pe_int) (pa_nil)))) (pa_cons (pe_int) (pa_nil))))) (pa_cons (e_mk T.M_Space (ok_Space___init__ T) (hr.mono (by decide)) T.gC_Space T.b_Space___init__ tk (pa_cons (pe_op o_add (pe_op o_mul (pe_lst (pa_cons (pe_int) (pa_nil))) (pe_int)) (pe_op o_mul (pe_lst (pa_cons (pe_int) (pa_nil))) (pe_int))) (pa_nil))) (pa_nil))))))
        (pss_cons (ps_set (i := 3) sc__law_others.nd rfl (Or.inl rfl) (e_mk T.M_Store (ok_Store___init__ T) (hr.mono (by decide)) T.gC_Store T.b_Store___init__ tk (pa_cons (pv 0) (pa_cons (e_mk T.M_Head (ok_Head___init__ T) (hr.mono (by decide)) T.gC_Head T.b_Head___init__ tk (pa_cons (pv 1) (pa_cons (pe_tup (pa_cons (pe_int) (pa_cons (pe_int) (pa_nil)))) (pa_cons (pe_int) (pa_nil))))) (pa_cons (e_mk T.M_Space (ok_Space___init__ T) (hr.mono (by decide)) T.gC_Space T.b_Space___init__ tk (pa_cons (pe_op o_add (pe_op o_mul (pe_lst (pa_cons (pe_int) (pa_nil))) (pe_int)) (pe_op o_mul (pe_lst (pa_cons (pe_int) (pa_nil))) (pe_int))) (pa_nil))) (pa_nil))))))
        (pss_cons (ps_expr (e_meth (pv 3) T.c_Store T.m_Store_use_reserve (ok_Store_use_reserve T) (hr.mono (by decide)) T.b_Store_use_reserve tk (pa_cons (pe_int) (pa_nil))))
        (pss_cons (ps_expr (e_meth (pv 3) T.c_Store T.m_Store_use_table (ok_Store_use_table T) (hr.mono (by decide)) T.b_Store_use_table tk (pa_cons (e_meth (pv 3) T.c_Store T.m_Store_make (ok_Store_make T) (hr.mono (by decide)) T.b_Store_make tk (pa_cons (e_call (ok__law_block T) (hr.mono (by decide)) T.g__law_block T.F__law_block.kp T.b__law_block tk (pa_cons (pe_int) (pa_cons (pe_int) (pa_nil)))) (pa_nil))) (pa_nil))))
        (pss_one (ps_ret (pe_lst (pa_cons (pv 2) (pa_cons (pv 3) (pa_nil)))))))))
theorem ok__law_reads (T : Top K mg A) : FnOk P w K mg base (L2.CX P w) 3 A.f__law_reads A.d__law_reads ["_law_disk", "_law_contents"] (sp__law_reads K A.ex) := by
  refine T.F__law_reads.okX sc__law_reads (fun vs H Q E h => len2 h) (fun cdv Ar outer s H vs Q E hr h => ⟨t__law_reads K A.ex E, ?_, pure__law_reads T.fa h⟩)
  have tk : Takes (cxOf (L2.CX P w) P w K mg base ["_law_disk", "_law_contents", "_law_row", "_law_words", "_law_part"] "_law_reads" (defScope s__law_reads) A.f__law_reads cdv Ar outer s H E) (WB E) := takes_of rfl rfl rfl rfl
  have po : PassesOwn (model P w) (cxOf (L2.CX P w) P w K mg base ["_law_disk", "_law_contents", "_law_row", "_law_words", "_law_part"] "_law_reads" (defScope s__law_reads) A.f__law_reads cdv Ar outer s H E).A (cxOf (L2.CX P w) P w K mg base ["_law_disk", "_law_contents", "_law_row", "_law_words", "_law_part"] "_law_reads" (defScope s__law_reads) A.f__law_reads cdv Ar outer s H E).env (cxOf (L2.CX P w) P w K mg base ["_law_disk", "_law_contents", "_law_row", "_law_words", "_law_part"] "_law_reads" (defScope s__law_reads) A.f__law_reads cdv Ar outer s H E).xe := passes_of rfl
  exact pss_cons (ps_for po rfl (pi_list (pv 1)) (pg_name (i := 2) sc__law_reads.nd rfl (Or.inl rfl))
        (pss_cons (ps_set (i := 3) sc__law_reads.nd rfl (Or.inl rfl) (pe_lst (pa_nil)))
        (pss_cons (ps_for po rfl (pi_range1 (by rfl) T.n_range (pa_cons (pe_int) (pa_nil))) (pg_name (i := 4) sc__law_reads.nd rfl (Or.inl rfl))
        (pss_one (ps_set (i := 3) sc__law_reads.nd rfl (Or.inl rfl) (pe_op o_add (pv 3) (e_meth (pv 0) T.c_Disk T.m_Disk_read (ok_Disk_read T) (hr.mono (by decide)) T.b_Disk_read tk (pa_cons (pe_op o_add (pe_op o_mul (pe_int) (e_ix (pv 2) (pe_int))) (pv 4)) (pa_nil)))))))
        (pss_one (ps_if (pt_not (t_tru (e_call (ok__law_is_block T) (hr.mono (by decide)) T.g__law_is_block T.F__law_is_block.kp T.b__law_is_block tk (pa_cons (pv 3) (pa_cons (e_ix (pv 2) (pe_int)) (pa_nil)))))) (pss_one (ps_ret (pe_bl))) (pss_nil))))))
        (pss_one (ps_ret (pe_bl)))
theorem ok_law (T : Top K mg A) : FnOk P w K mg base (L2.CX P w) 7 A.f_law A.d_law ["_law_script"] (sp_law K A.ex) := by
  refine T.F_law.okX sc_law (fun vs H Q E h => len1 (show spLaw K vs H Q E from h)) (fun cdv Ar outer s H vs Q E hr h => ⟨t_law K A.ex E, ?_, pure_law T.fa h⟩)
  have tk : Takes (cxOf (L2.CX P w) P w K mg base ["_law_script", "_law_tape_here", "_law_generation", "_law_store_here", "_law_disk", "_law_old", "_law_many", "_law_made", "_law_table", "_law_new", "_law_due_here", "_law_top", "_law_others_here", "_law_steps_here", "_law_fuse", "_law_count", "_law_other", "_law_choices_here", "_law_head", "_law_k"] "law" (defScope s_law) A.f_law cdv Ar outer s H E) (WB E) := takes_of rfl rfl rfl rfl
  have po : PassesOwn (model P w) (cxOf (L2.CX P w) P w K mg base ["_law_script", "_law_tape_here", "_law_generation", "_law_store_here", "_law_disk", "_law_old", "_law_many", "_law_made", "_law_table", "_law_new", "_law_due_here", "_law_top", "_law_others_here", "_law_steps_here", "_law_fuse", "_law_count", "_law_other", "_law_choices_here", "_law_head", "_law_k"] "law" (defScope s_law) A.f_law cdv Ar outer s H E).A (cxOf (L2.CX P w) P w K mg base ["_law_script", "_law_tape_here", "_law_generation", "_law_store_here", "_law_disk", "_law_old", "_law_many", "_law_made", "_law_table", "_law_new", "_law_due_here", "_law_top", "_law_others_here", "_law_steps_here", "_law_fuse", "_law_count", "_law_other", "_law_choices_here", "_law_head", "_law_k"] "law" (defScope s_law) A.f_law cdv Ar outer s H E).env (cxOf (L2.CX P w) P w K mg base ["_law_script", "_law_tape_here", "_law_generation", "_law_store_here", "_law_disk", "_law_old", "_law_many", "_law_made", "_law_table", "_law_new", "_law_due_here", "_law_top", "_law_others_here", "_law_steps_here", "_law_fuse", "_law_count", "_law_other", "_law_choices_here", "_law_head", "_law_k"] "law" (defScope s_law) A.f_law cdv Ar outer s H E).xe := passes_of rfl
  have hu := hu_of hr
  have hl := Nat.lt_of_succ_lt hu
  exact pss_cons (ps_set (i := 1) sc_law.nd rfl (Or.inr rfl) (e_call (ok__law_tape T) (hr.mono (by decide)) T.g__law_tape T.F__law_tape.kp T.b__law_tape tk (pa_cons (pv 0) (pa_nil))))
        (pss_cons (ps_set (i := 2) sc_law.nd rfl (Or.inl rfl) (pe_op o_add (pe_int) (pe_op o_mod (e_call (ok__law_at T) (hr.mono (by decide)) T.g__law_at T.F__law_at.kp T.b__law_at tk (pa_cons (pv 1) (pa_cons (pe_int) (pa_nil)))) (pe_int))))
        (pss_cons (ps_set (i := 3) sc_law.nd rfl (Or.inr rfl) (e_call (ok__law_store T) (hr.mono (by decide)) T.g__law_store T.F__law_store.kp T.b__law_store tk (pa_cons (pv 1) (pa_cons (pv 2) (pa_nil)))))
        (pss_cons (ps_set (i := 4) sc_law.nd rfl (Or.inl rfl) (e_fld T.c_Store T.n_Store_disk (pv 3)))
        (pss_cons (ps_setLc (i := 5) (own := [("_law_k", 19)]) (by rfl) sc_law.nd rfl rfl (sw_true rfl rfl rfl (by decide +kernel)) (pi_range2 (by rfl) T.n_range (pa_cons (pe_int) (pa_cons (pe_int) (pa_nil)))) (blkOk_by (N := ["_law_script", "_law_tape_here", "_law_generation", "_law_store_here", "_law_disk", "_law_old", "_law_many", "_law_made", "_law_table", "_law_new", "_law_due_here", "_law_top", "_law_others_here", "_law_steps_here", "_law_fuse", "_law_count", "_law_other", "_law_choices_here", "_law_head", "_law_k"]) (sc := defScope s_law) (by decide +kernel)) (fun _ _ _ _ _ => pg_name (i := 19) sc_law.nd rfl (Or.inl rfl)) (fun _ _ _ _ _ => pts_one (pt_cmpR (o_gt) (e_meth (pv 3) T.c_Store T.m_Store_uses (ok_Store_uses T) (hr.mono (by decide)) T.b_Store_uses takes0 (pa_cons (pe_tup (pa_cons (pv 19) (pa_cons (pe_int) (pa_nil)))) (pa_nil))) (pe_int) (nomark _))) (fun _ _ _ _ _ => pe_tup (pa_cons (pv 19) (pa_cons (e_call (ok__law_block T) (hr.mono (by decide)) T.g__law_block T.F__law_block.kp T.b__law_block takes0 (pa_cons (pv 19) (pa_cons (e_call (ok__law_at T) (hr.mono (by decide)) T.g__law_at T.F__law_at.kp T.b__law_at takes0 (pa_cons (pv 1) (pa_cons (pe_int) (pa_nil)))) (pa_nil)))) (pa_nil)))))
        (pss_cons (ps_set (i := 6) sc_law.nd rfl (Or.inl rfl) (pe_op o_mod (e_call (ok__law_at T) (hr.mono (by decide)) T.g__law_at T.F__law_at.kp T.b__law_at tk (pa_cons (pv 1) (pa_cons (pe_int) (pa_nil)))) (pe_int)))
        (pss_cut (ps_if (pt_cmpR (o_eq hr.units) (pe_op o_mod (pe_op o_div (e_call (ok__law_at T) (hr.mono (by decide)) T.g__law_at T.F__law_at.kp T.b__law_at tk (pa_cons (pv 1) (pa_cons (pe_int) (pa_nil)))) (pe_int)) (pe_int)) (pe_int) (nomark _)) (pss_one (ps_set (i := 6) sc_law.nd rfl (Or.inl rfl) (pe_int))) (pss_nil))
        (pss_cons (ps_set (i := 7) sc_law.nd rfl (Or.inl rfl) (pe_op o_add (pe_lst (pa_cons (e_meth (pv 3) T.c_Store T.m_Store_make (ok_Store_make T) (hr.mono (by decide)) T.b_Store_make tk (pa_cons (e_call (ok__law_block T) (hr.mono (by decide)) T.g__law_block T.F__law_block.kp T.b__law_block tk (pa_cons (e_call (ok__law_at T) (hr.mono (by decide)) T.g__law_at T.F__law_at.kp T.b__law_at tk (pa_cons (pv 1) (pa_cons (pe_int) (pa_nil)))) (pa_cons (pe_int) (pa_nil)))) (pa_nil))) (pa_nil))) (e_call (ok__law_work T) (hr.mono (by decide)) T.g__law_work T.F__law_work.kp T.b__law_work tk (pa_cons (pv 3) (pa_cons (pv 1) (pa_cons (pe_int) (pa_cons (pv 6) (pa_nil))))))))
        (pss_cons (ps_expr (e_meth (pv 3) T.c_Store T.m_Store_use_table (ok_Store_use_table T) (hr.mono (by decide)) T.b_Store_use_table tk (pa_cons (e_ix (pv 7) (pe_int)) (pa_nil))))
        (pss_cut (ps_if (pt_cmpR (o_eq hr.units) (e_meth (pv 3) T.c_Store T.m_Store_uses (ok_Store_uses T) (hr.mono (by decide)) T.b_Store_uses tk (pa_cons (e_ix (pv 7) (pe_int)) (pa_nil))) (pe_int) (nomark _)) (pss_one (ps_expr (e_meth (pv 3) T.c_Store T.m_Store_use_table (ok_Store_use_table T) (hr.mono (by decide)) T.b_Store_use_table tk (pa_cons (e_meth (pv 3) T.c_Store T.m_Store_make (ok_Store_make T) (hr.mono (by decide)) T.b_Store_make tk (pa_cons (e_call (ok__law_block T) (hr.mono (by decide)) T.g__law_block T.F__law_block.kp T.b__law_block tk (pa_cons (pe_int) (pa_cons (pe_int) (pa_nil)))) (pa_nil))) (pa_nil))))) (pss_nil))
        (pss_cons (ps_set (i := 8) sc_law.nd rfl (Or.inl rfl) (e_fld T.c_Store T.n_Store_table (pv 3)))
        (pss_cons (ps_setLc (i := 9) (own := [("_law_k", 19)]) (by rfl) sc_law.nd rfl rfl (sw_true rfl rfl rfl (by decide +kernel)) (pi_range2 (by rfl) T.n_range (pa_cons (pe_int) (pa_cons (pe_int) (pa_nil)))) (blkOk_by (N := ["_law_script", "_law_tape_here", "_law_generation", "_law_store_here", "_law_disk", "_law_old", "_law_many", "_law_made", "_law_table", "_law_new", "_law_due_here", "_law_top", "_law_others_here", "_law_steps_here", "_law_fuse", "_law_count", "_law_other", "_law_choices_here", "_law_head", "_law_k"]) (sc := defScope s_law) (by decide +kernel)) (fun _ _ _ _ _ => pg_name (i := 19) sc_law.nd rfl (Or.inl rfl)) (fun _ _ _ _ _ => pts_one (pt_cmpR (o_gt) (e_meth (pv 3) T.c_Store T.m_Store_uses (ok_Store_uses T) (hr.mono (by decide)) T.b_Store_uses takes0 (pa_cons (pe_tup (pa_cons (pv 19) (pa_cons (pe_int) (pa_nil)))) (pa_nil))) (pe_int) (nomark _))) (fun _ _ _ _ _ => pe_tup (pa_cons (pv 19) (pa_cons (e_meth (pv 3) T.c_Store T.m_Store_read (ok_Store_read T) (hr.mono (by decide)) T.b_Store_read takes0 (pa_cons (pe_tup (pa_cons (pv 19) (pa_cons (pe_int) (pa_nil)))) (pa_nil))) (pa_nil)))))
        (pss_cons (ps_set (i := 10) sc_law.nd rfl (Or.inl rfl) (e_call (ok__law_due T) (hr.mono (by decide)) T.g__law_due T.F__law_due.kp T.b__law_due tk (pa_cons (pv 3) (pa_nil))))
        (pss_cons (ps_set (i := 11) sc_law.nd rfl (Or.inl rfl) (pe_lst (pa_cons (pe_tup (pa_cons (pe_op o_mod (pe_callTy (c_int) (by rfl) T.n_int (by decide +kernel) (pa_cons (pe_op o_add (pv 2) (pe_int)) (pa_nil))) (pe_int)) (pa_cons (pe_lst (pa_cons (pe_op o_add (pv 2) (pe_int)) (pa_cons (e_ix (pv 8) (pe_int)) (pa_cons (e_ix (pv 8) (pe_int)) (pa_cons (pe_int) (pa_cons (pe_int) (pa_cons (pe_int) (pa_cons (pe_int) (pa_cons (pe_op o_add (pv 2) (pe_int)) (pa_nil)))))))))) (pa_nil)))) (pa_nil))))
        (pss_cons (ps_set (i := 12) sc_law.nd rfl (Or.inl rfl) (e_call (ok__law_others T) (hr.mono (by decide)) T.g__law_others T.F__law_others.kp T.b__law_others tk (pa_cons (pv 4) (pa_cons (pv 2) (pa_nil)))))
        (pss_cons (ps_set (i := 13) sc_law.nd rfl (Or.inl rfl) (pe_op o_add (pe_callB (c_len) (by rfl) T.n_len (by decide +kernel) (pa_cons (pv 10) (pa_nil))) (pe_int)))
        (pss_cons (ps_set (i := 14) sc_law.nd rfl (Or.inl rfl) (pe_op o_add (pe_op o_mul (e_call (ok__law_at T) (hr.mono (by decide)) T.g__law_at T.F__law_at.kp T.b__law_at tk (pa_cons (pv 1) (pa_cons (pe_int) (pa_nil)))) (pe_int)) (e_call (ok__law_at T) (hr.mono (by decide)) T.g__law_at T.F__law_at.kp T.b__law_at tk (pa_cons (pv 1) (pa_cons (pe_int) (pa_nil))))))
        (pss_cons (ps_set (i := 15) sc_law.nd rfl (Or.inl rfl) (pe_op o_mod (pe_op o_div (pv 14) (pe_int)) (pe_op o_add (pv 13) (pe_int))))
        (pss_cut (ps_if (pt_cmpR (o_eq hr.units) (pe_op o_mod (pv 14) (pe_int)) (pe_int) (nomark _)) (pss_one (ps_set (i := 15) sc_law.nd rfl (Or.inl rfl) (pe_op o_sub (pv 13) (pe_int)))) (pss_nil))
        (pss_cut (ps_if (pt_cmpR (o_eq hr.units) (pe_op o_mod (pv 14) (pe_int)) (pe_int) (nomark _)) (pss_one (ps_set (i := 15) sc_law.nd rfl (Or.inl rfl) (pe_op o_sub (pv 13) (pe_int)))) (pss_nil))
        (pss_cons (ps_expr (e_meth (pv 4) T.c_Disk T.m_Disk_fail_after (ok_Disk_fail_after T) (hr.mono (by decide)) T.b_Disk_fail_after tk (pa_cons (pv 15) (pa_nil))))
        (pss_cons (ps_if (pt_cmpR (o_ne hr.units) (e_call (ok__law_commit T) (hr.mono (by decide)) T.g__law_commit T.F__law_commit.kp T.b__law_commit tk (pa_cons (pv 3) (pa_nil))) (e_ix (pe_lst (pa_cons (pe_str) (pa_cons (pe_bl) (pa_nil)))) (pe_callTy (c_int) (by rfl) T.n_int (by decide +kernel) (pa_cons (pe_cmpR (o_ge hl) (pv 15) (pv 13) (nomark _)) (pa_nil)))) (nomark _)) (pss_one (ps_ret (pe_bl))) (pss_nil))
        (pss_cons (ps_if (pt_cmpR (o_ne hr.units) (e_meth0 (pv 4) T.c_Disk T.m_Disk_waiting (ok_Disk_waiting T) (hr.mono (by decide)) T.b_Disk_waiting tk) (e_ix (pe_lst (pa_cons (e_sl (pv 10) (po_none) (po_some (pv 15))) (pa_cons (pe_lst (pa_nil)) (pa_cons (pv 11) (pa_cons (pe_lst (pa_nil)) (pa_nil)))))) (pe_callB (c_max rfl) (by rfl) T.n_max (by decide +kernel) (pa_cons (pe_int) (pa_cons (pe_callB (c_min rfl) (by rfl) T.n_min (by decide +kernel) (pa_cons (pe_int) (pa_cons (pe_op o_sub (pv 15) (pe_callB (c_len) (by rfl) T.n_len (by decide +kernel) (pa_cons (pv 10) (pa_nil)))) (pa_nil)))) (pa_nil))))) (nomark _)) (pss_one (ps_ret (pe_bl))) (pss_nil))
        (pss_cut (ps_if (pt_cmpR (o_lt hl) (pv 15) (pv 13) (nomark _)) (pss_one (ps_for po rfl (pi_list (pv 12)) (pg_name (i := 16) sc_law.nd rfl (Or.inl rfl))
        (pss_one (ps_if (PW.pt (pw_or (pt_cmpR (o_ne hr.units) (e_call (ok__law_steps T) (hr.mono (by decide)) T.g__law_steps T.F__law_steps.kp T.b__law_steps tk (pa_cons (pv 16) (pa_nil))) (pe_str) (nomark _)) (pw_or1 (pt_cmpR (o_ne hr.units) (e_call (ok__law_commit T) (hr.mono (by decide)) T.g__law_commit T.F__law_commit.kp T.b__law_commit tk (pa_cons (pv 16) (pa_nil))) (pe_str) (nomark _))))) (pss_one (ps_ret (pe_bl))) (pss_nil))))) (pss_nil))
        (pss_cons (ps_set (i := 17) sc_law.nd rfl (Or.inl rfl) (e_call (ok__law_choices T) (hr.mono (by decide)) T.g__law_choices T.F__law_choices.kp T.b__law_choices tk (pa_cons (pv 1) (pa_cons (pe_int) (pa_cons (pe_op o_mod (pe_op o_mul (e_call (ok__law_at T) (hr.mono (by decide)) T.g__law_at T.F__law_at.kp T.b__law_at tk (pa_cons (pv 1) (pa_cons (pe_int) (pa_nil)))) (pe_int)) (pe_op o_add (pv 13) (pe_int))) (pa_nil))))))
        (pss_cons (ps_expr (e_meth (pv 4) T.c_Disk T.m_Disk_cut (ok_Disk_cut T) (hr.mono (by decide)) T.b_Disk_cut tk (pa_cons (pe_callTy (c_list) (by rfl) T.n_list (by decide +kernel) (pa_cons (pv 17) (pa_nil))) (pa_nil))))
        (pss_cons (ps_set (i := 18) sc_law.nd rfl (Or.inl rfl) (e_call (ok_present_head T) (hr.mono (by decide)) T.g_present_head T.F_present_head.kp T.b_present_head tk (pa_cons (pv 4) (pa_nil))))
        (pss_cons (ps_if (pt_cmpR (o_ne hr.units) (e_fld T.c_Head T.n_Head_blocks (pv 18)) (pe_int) (nomark _)) (pss_one (ps_ret (pe_bl))) (pss_nil))
        (pss_cons (ps_if (PW.pt (pw_or (pt_cmpR (o_lt hl) (pv 15) (pe_op o_sub (pv 13) (pe_int)) (nomark _)) (pw_or1 (PW.pt (pw_and (pt_cmpR (o_eq hr.units) (pv 15) (pe_op o_sub (pv 13) (pe_int)) (nomark _)) (pw_and1 (pt_cmpR (o_ne hr.units) (e_sl (pv 17) (po_none) (po_some (pe_int))) (pe_lst (pa_cons (pe_int) (pa_nil))) (nomark _)))))))) (pss_one (ps_ret (pe_and (pe_cmpR (o_eq hr.units) (e_fld T.c_Head T.n_Head_generation (pv 18)) (pv 2) (nomark _)) (pe_and (pe_cmpR (o_eq hr.units) (e_fld T.c_Head T.n_Head_table (pv 18)) (pe_tup (pa_cons (pe_int) (pa_cons (pe_int) (pa_nil)))) (nomark _)) (pe_one (e_call (ok__law_reads T) (hr.mono (by decide)) T.g__law_reads T.F__law_reads.kp T.b__law_reads tk (pa_cons (pv 4) (pa_cons (pv 5) (pa_nil))))))))) (pss_nil))
        (pss_one (ps_ret (pe_and (pe_cmpR (o_eq hr.units) (e_fld T.c_Head T.n_Head_generation (pv 18)) (pe_op o_add (pv 2) (pe_int)) (nomark _)) (pe_and (pe_cmpR (o_eq hr.units) (e_fld T.c_Head T.n_Head_table (pv 18)) (pv 8) (nomark _)) (pe_one (e_call (ok__law_reads T) (hr.mono (by decide)) T.g__law_reads T.F__law_reads.kp T.b__law_reads tk (pa_cons (pv 4) (pa_cons (pv 9) (pa_nil)))))))))))))))))))))))))))))))))))))
end
theorem all_mk {P : Program} {w : World} {K : PySem.W.Frag} {h : Heap} {mg : Str → Option Value} {fa : Addr} (X : K.In h) (G : h.Ns mainGlobals mg) (hfa : mg "law" = some (.ref fa))
    {f_is_between f_is_word f_are_words f_Disk___init__ f_Disk_read f_Disk_operate f_Disk_write f_Disk_flush f_Disk_waiting f_Disk_fail_after f_Disk_cut f_Head___init__ f_Head_sector f_place f_is_valid_head f_log_mark f_check_head f_present_head f_next_head f_commit_steps f_commit f_Space___init__ f_Space_count_spare f_Space_check_block f_Space_least_free f_Space_take f_Space_share f_Space_drop f_Space_uses f_Space_is_new f_Space_is_free f_Space_settle f_Store___init__ f_Store_generation f_Store_use_table f_Store_use_reserve f_Store_read f_Store_make f_Store_is_new f_Store_write f_Store_share f_Store_drop f_Store_uses f_Store_new_blocks f__law_tape f__law_at f__law_block f__law_is_block f__law_put_block f__law_store f__law_work f__law_choices f__law_commit f__law_steps f__law_due f__law_others f__law_reads f_law : Addr}
    {C_Disk C_Head C_Space C_Store C_NotValid C_PowerOff C_NoSpace C_BadImage : Addr}
    {od_is_between an_is_between : Option Addr} {sl_is_between : Array (Option Value)} {oc_is_between kV_is_between dc_is_between pm_is_between cd_is_between ct_is_between : Value}
    {od_is_word an_is_word : Option Addr} {sl_is_word : Array (Option Value)} {oc_is_word kV_is_word dc_is_word pm_is_word cd_is_word ct_is_word : Value}
    {od_are_words an_are_words : Option Addr} {sl_are_words : Array (Option Value)} {oc_are_words kV_are_words dc_are_words pm_are_words cd_are_words ct_are_words : Value}
    {od_Disk___init__ an_Disk___init__ : Option Addr} {sl_Disk___init__ : Array (Option Value)} {oc_Disk___init__ kV_Disk___init__ dc_Disk___init__ pm_Disk___init__ cd_Disk___init__ ct_Disk___init__ : Value}
    {od_Disk_read an_Disk_read : Option Addr} {sl_Disk_read : Array (Option Value)} {oc_Disk_read kV_Disk_read dc_Disk_read pm_Disk_read cd_Disk_read ct_Disk_read : Value}
    {od_Disk_operate an_Disk_operate : Option Addr} {sl_Disk_operate : Array (Option Value)} {oc_Disk_operate kV_Disk_operate dc_Disk_operate pm_Disk_operate cd_Disk_operate ct_Disk_operate : Value}
    {od_Disk_write an_Disk_write : Option Addr} {sl_Disk_write : Array (Option Value)} {oc_Disk_write kV_Disk_write dc_Disk_write pm_Disk_write cd_Disk_write ct_Disk_write : Value}
    {od_Disk_flush an_Disk_flush : Option Addr} {sl_Disk_flush : Array (Option Value)} {oc_Disk_flush kV_Disk_flush dc_Disk_flush pm_Disk_flush cd_Disk_flush ct_Disk_flush : Value}
    {od_Disk_waiting an_Disk_waiting : Option Addr} {sl_Disk_waiting : Array (Option Value)} {oc_Disk_waiting kV_Disk_waiting dc_Disk_waiting pm_Disk_waiting cd_Disk_waiting ct_Disk_waiting : Value}
    {od_Disk_fail_after an_Disk_fail_after : Option Addr} {sl_Disk_fail_after : Array (Option Value)} {oc_Disk_fail_after kV_Disk_fail_after dc_Disk_fail_after pm_Disk_fail_after cd_Disk_fail_after ct_Disk_fail_after : Value}
    {od_Disk_cut an_Disk_cut : Option Addr} {sl_Disk_cut : Array (Option Value)} {oc_Disk_cut kV_Disk_cut dc_Disk_cut pm_Disk_cut cd_Disk_cut ct_Disk_cut : Value}
    {od_Head___init__ an_Head___init__ : Option Addr} {sl_Head___init__ : Array (Option Value)} {oc_Head___init__ kV_Head___init__ dc_Head___init__ pm_Head___init__ cd_Head___init__ ct_Head___init__ : Value}
    {od_Head_sector an_Head_sector : Option Addr} {sl_Head_sector : Array (Option Value)} {oc_Head_sector kV_Head_sector dc_Head_sector pm_Head_sector cd_Head_sector ct_Head_sector : Value}
    {od_place an_place : Option Addr} {sl_place : Array (Option Value)} {oc_place kV_place dc_place pm_place cd_place ct_place : Value}
    {od_is_valid_head an_is_valid_head : Option Addr} {sl_is_valid_head : Array (Option Value)} {oc_is_valid_head kV_is_valid_head dc_is_valid_head pm_is_valid_head cd_is_valid_head ct_is_valid_head : Value}
    {od_log_mark an_log_mark : Option Addr} {sl_log_mark : Array (Option Value)} {oc_log_mark kV_log_mark dc_log_mark pm_log_mark cd_log_mark ct_log_mark : Value}
    {od_check_head an_check_head : Option Addr} {sl_check_head : Array (Option Value)} {oc_check_head kV_check_head dc_check_head pm_check_head cd_check_head ct_check_head : Value}
    {od_present_head an_present_head : Option Addr} {sl_present_head : Array (Option Value)} {oc_present_head kV_present_head dc_present_head pm_present_head cd_present_head ct_present_head : Value}
    {od_next_head an_next_head : Option Addr} {sl_next_head : Array (Option Value)} {oc_next_head kV_next_head dc_next_head pm_next_head cd_next_head ct_next_head : Value}
    {od_commit_steps an_commit_steps : Option Addr} {sl_commit_steps : Array (Option Value)} {oc_commit_steps kV_commit_steps dc_commit_steps pm_commit_steps cd_commit_steps ct_commit_steps : Value}
    {od_commit an_commit : Option Addr} {sl_commit : Array (Option Value)} {oc_commit kV_commit dc_commit pm_commit cd_commit ct_commit : Value}
    {od_Space___init__ an_Space___init__ : Option Addr} {sl_Space___init__ : Array (Option Value)} {oc_Space___init__ kV_Space___init__ dc_Space___init__ pm_Space___init__ cd_Space___init__ ct_Space___init__ : Value}
    {od_Space_count_spare an_Space_count_spare : Option Addr} {sl_Space_count_spare : Array (Option Value)} {oc_Space_count_spare kV_Space_count_spare dc_Space_count_spare pm_Space_count_spare cd_Space_count_spare ct_Space_count_spare : Value}
    {od_Space_check_block an_Space_check_block : Option Addr} {sl_Space_check_block : Array (Option Value)} {oc_Space_check_block kV_Space_check_block dc_Space_check_block pm_Space_check_block cd_Space_check_block ct_Space_check_block : Value}
    {od_Space_least_free an_Space_least_free : Option Addr} {sl_Space_least_free : Array (Option Value)} {oc_Space_least_free kV_Space_least_free dc_Space_least_free pm_Space_least_free cd_Space_least_free ct_Space_least_free : Value}
    {od_Space_take an_Space_take : Option Addr} {sl_Space_take : Array (Option Value)} {oc_Space_take kV_Space_take dc_Space_take pm_Space_take cd_Space_take ct_Space_take : Value}
    {od_Space_share an_Space_share : Option Addr} {sl_Space_share : Array (Option Value)} {oc_Space_share kV_Space_share dc_Space_share pm_Space_share cd_Space_share ct_Space_share : Value}
    {od_Space_drop an_Space_drop : Option Addr} {sl_Space_drop : Array (Option Value)} {oc_Space_drop kV_Space_drop dc_Space_drop pm_Space_drop cd_Space_drop ct_Space_drop : Value}
    {od_Space_uses an_Space_uses : Option Addr} {sl_Space_uses : Array (Option Value)} {oc_Space_uses kV_Space_uses dc_Space_uses pm_Space_uses cd_Space_uses ct_Space_uses : Value}
    {od_Space_is_new an_Space_is_new : Option Addr} {sl_Space_is_new : Array (Option Value)} {oc_Space_is_new kV_Space_is_new dc_Space_is_new pm_Space_is_new cd_Space_is_new ct_Space_is_new : Value}
    {od_Space_is_free an_Space_is_free : Option Addr} {sl_Space_is_free : Array (Option Value)} {oc_Space_is_free kV_Space_is_free dc_Space_is_free pm_Space_is_free cd_Space_is_free ct_Space_is_free : Value}
    {od_Space_settle an_Space_settle : Option Addr} {sl_Space_settle : Array (Option Value)} {oc_Space_settle kV_Space_settle dc_Space_settle pm_Space_settle cd_Space_settle ct_Space_settle : Value}
    {od_Store___init__ an_Store___init__ : Option Addr} {sl_Store___init__ : Array (Option Value)} {oc_Store___init__ kV_Store___init__ dc_Store___init__ pm_Store___init__ cd_Store___init__ ct_Store___init__ : Value}
    {od_Store_generation an_Store_generation : Option Addr} {sl_Store_generation : Array (Option Value)} {oc_Store_generation kV_Store_generation dc_Store_generation pm_Store_generation cd_Store_generation ct_Store_generation : Value}
    {od_Store_use_table an_Store_use_table : Option Addr} {sl_Store_use_table : Array (Option Value)} {oc_Store_use_table kV_Store_use_table dc_Store_use_table pm_Store_use_table cd_Store_use_table ct_Store_use_table : Value}
    {od_Store_use_reserve an_Store_use_reserve : Option Addr} {sl_Store_use_reserve : Array (Option Value)} {oc_Store_use_reserve kV_Store_use_reserve dc_Store_use_reserve pm_Store_use_reserve cd_Store_use_reserve ct_Store_use_reserve : Value}
    {od_Store_read an_Store_read : Option Addr} {sl_Store_read : Array (Option Value)} {oc_Store_read kV_Store_read dc_Store_read pm_Store_read cd_Store_read ct_Store_read : Value}
    {od_Store_make an_Store_make : Option Addr} {sl_Store_make : Array (Option Value)} {oc_Store_make kV_Store_make dc_Store_make pm_Store_make cd_Store_make ct_Store_make : Value}
    {od_Store_is_new an_Store_is_new : Option Addr} {sl_Store_is_new : Array (Option Value)} {oc_Store_is_new kV_Store_is_new dc_Store_is_new pm_Store_is_new cd_Store_is_new ct_Store_is_new : Value}
    {od_Store_write an_Store_write : Option Addr} {sl_Store_write : Array (Option Value)} {oc_Store_write kV_Store_write dc_Store_write pm_Store_write cd_Store_write ct_Store_write : Value}
    {od_Store_share an_Store_share : Option Addr} {sl_Store_share : Array (Option Value)} {oc_Store_share kV_Store_share dc_Store_share pm_Store_share cd_Store_share ct_Store_share : Value}
    {od_Store_drop an_Store_drop : Option Addr} {sl_Store_drop : Array (Option Value)} {oc_Store_drop kV_Store_drop dc_Store_drop pm_Store_drop cd_Store_drop ct_Store_drop : Value}
    {od_Store_uses an_Store_uses : Option Addr} {sl_Store_uses : Array (Option Value)} {oc_Store_uses kV_Store_uses dc_Store_uses pm_Store_uses cd_Store_uses ct_Store_uses : Value}
    {od_Store_new_blocks an_Store_new_blocks : Option Addr} {sl_Store_new_blocks : Array (Option Value)} {oc_Store_new_blocks kV_Store_new_blocks dc_Store_new_blocks pm_Store_new_blocks cd_Store_new_blocks ct_Store_new_blocks : Value}
    {od__law_tape an__law_tape : Option Addr} {sl__law_tape : Array (Option Value)} {oc__law_tape kV__law_tape dc__law_tape pm__law_tape cd__law_tape ct__law_tape : Value}
    {od__law_at an__law_at : Option Addr} {sl__law_at : Array (Option Value)} {oc__law_at kV__law_at dc__law_at pm__law_at cd__law_at ct__law_at : Value}
    {od__law_block an__law_block : Option Addr} {sl__law_block : Array (Option Value)} {oc__law_block kV__law_block dc__law_block pm__law_block cd__law_block ct__law_block : Value}
    {od__law_is_block an__law_is_block : Option Addr} {sl__law_is_block : Array (Option Value)} {oc__law_is_block kV__law_is_block dc__law_is_block pm__law_is_block cd__law_is_block ct__law_is_block : Value}
    {od__law_put_block an__law_put_block : Option Addr} {sl__law_put_block : Array (Option Value)} {oc__law_put_block kV__law_put_block dc__law_put_block pm__law_put_block cd__law_put_block ct__law_put_block : Value}
    {od__law_store an__law_store : Option Addr} {sl__law_store : Array (Option Value)} {oc__law_store kV__law_store dc__law_store pm__law_store cd__law_store ct__law_store : Value}
    {od__law_work an__law_work : Option Addr} {sl__law_work : Array (Option Value)} {oc__law_work kV__law_work dc__law_work pm__law_work cd__law_work ct__law_work : Value}
    {od__law_choices an__law_choices : Option Addr} {sl__law_choices : Array (Option Value)} {oc__law_choices kV__law_choices dc__law_choices pm__law_choices cd__law_choices ct__law_choices : Value}
    {od__law_commit an__law_commit : Option Addr} {sl__law_commit : Array (Option Value)} {oc__law_commit kV__law_commit dc__law_commit pm__law_commit cd__law_commit ct__law_commit : Value}
    {od__law_steps an__law_steps : Option Addr} {sl__law_steps : Array (Option Value)} {oc__law_steps kV__law_steps dc__law_steps pm__law_steps cd__law_steps ct__law_steps : Value}
    {od__law_due an__law_due : Option Addr} {sl__law_due : Array (Option Value)} {oc__law_due kV__law_due dc__law_due pm__law_due cd__law_due ct__law_due : Value}
    {od__law_others an__law_others : Option Addr} {sl__law_others : Array (Option Value)} {oc__law_others kV__law_others dc__law_others pm__law_others cd__law_others ct__law_others : Value}
    {od__law_reads an__law_reads : Option Addr} {sl__law_reads : Array (Option Value)} {oc__law_reads kV__law_reads dc__law_reads pm__law_reads cd__law_reads ct__law_reads : Value}
    {od_law an_law : Option Addr} {sl_law : Array (Option Value)} {oc_law kV_law dc_law pm_law cd_law ct_law : Value}
    {t_ADD : Tok}
    {t_BLOCK_SECTORS : Tok}
    {t_BLOCK_WORDS : Tok}
    {t_FIRST_BLOCK : Tok}
    {t_FIRST_SECTOR : Tok}
    {t_LOG_BLOCKS : Tok}
    {t_LOG_SECTORS : Tok}
    {t_MAX_BLOCKS : Tok}
    {t_MAX_COUNT : Tok}
    {t_MIN_BLOCKS : Tok}
    {t_SECTOR_WORDS : Tok}
    (aC_Disk : PySem.W.nsIn K mainGlobals "Disk" = some (some (.ref C_Disk)))
    (aC_Head : PySem.W.nsIn K mainGlobals "Head" = some (some (.ref C_Head)))
    (aC_Space : PySem.W.nsIn K mainGlobals "Space" = some (some (.ref C_Space)))
    (aC_Store : PySem.W.nsIn K mainGlobals "Store" = some (some (.ref C_Store)))
    (aC_BadImage : PySem.W.nsIn K mainGlobals "BadImage" = some (some (.ref C_BadImage)))
    (aC_NoSpace : PySem.W.nsIn K mainGlobals "NoSpace" = some (some (.ref C_NoSpace)))
    (aC_NotValid : PySem.W.nsIn K mainGlobals "NotValid" = some (some (.ref C_NotValid)))
    (aC_PowerOff : PySem.W.nsIn K mainGlobals "PowerOff" = some (some (.ref C_PowerOff)))
    (a_is_between : PySem.W.nsIn K mainGlobals "is_between" = some (some (.ref f_is_between)))
    (l_is_between : K.lookup f_is_between = some ⟨oc_is_between, od_is_between, .func (PySem.W.fnOf "is_between" "is_between" (defArgs s_is_between) (defBody s_is_between) (defScope s_is_between) .none kV_is_between dc_is_between pm_is_between an_is_between cd_is_between ct_is_between), sl_is_between⟩)
    (c_is_between : PySem.W.codeIn K cd_is_between "is_between" = true)
    (k_is_between : PySem.W.keepIn K (.ref f_is_between) = true)
    (a_is_word : PySem.W.nsIn K mainGlobals "is_word" = some (some (.ref f_is_word)))
    (l_is_word : K.lookup f_is_word = some ⟨oc_is_word, od_is_word, .func (PySem.W.fnOf "is_word" "is_word" (defArgs s_is_word) (defBody s_is_word) (defScope s_is_word) .none kV_is_word dc_is_word pm_is_word an_is_word cd_is_word ct_is_word), sl_is_word⟩)
    (c_is_word : PySem.W.codeIn K cd_is_word "is_word" = true)
    (k_is_word : PySem.W.keepIn K (.ref f_is_word) = true)
    (a_are_words : PySem.W.nsIn K mainGlobals "are_words" = some (some (.ref f_are_words)))
    (l_are_words : K.lookup f_are_words = some ⟨oc_are_words, od_are_words, .func (PySem.W.fnOf "are_words" "are_words" (defArgs s_are_words) (defBody s_are_words) (defScope s_are_words) .none kV_are_words dc_are_words pm_are_words an_are_words cd_are_words ct_are_words), sl_are_words⟩)
    (c_are_words : PySem.W.codeIn K cd_are_words "are_words" = true)
    (k_are_words : PySem.W.keepIn K (.ref f_are_words) = true)
    (a_Disk___init__ : PySem.W.findIn K (.ref C_Disk) "__init__" = some (some (.ref f_Disk___init__)))
    (i_Disk___init__ : PySem.W.isFn K (.ref f_Disk___init__) = true)
    (l_Disk___init__ : K.lookup f_Disk___init__ = some ⟨oc_Disk___init__, od_Disk___init__, .func (PySem.W.fnOf "__init__" "Disk.__init__" (defArgs s_Disk___init__) (defBody s_Disk___init__) (defScope s_Disk___init__) .none kV_Disk___init__ dc_Disk___init__ pm_Disk___init__ an_Disk___init__ cd_Disk___init__ ct_Disk___init__), sl_Disk___init__⟩)
    (c_Disk___init__ : PySem.W.codeIn K cd_Disk___init__ "Disk.__init__" = true)
    (k_Disk___init__ : PySem.W.keepIn K (.ref f_Disk___init__) = true)
    (a_Disk_read : PySem.W.findIn K (.ref C_Disk) "read" = some (some (.ref f_Disk_read)))
    (i_Disk_read : PySem.W.isFn K (.ref f_Disk_read) = true)
    (l_Disk_read : K.lookup f_Disk_read = some ⟨oc_Disk_read, od_Disk_read, .func (PySem.W.fnOf "read" "Disk.read" (defArgs s_Disk_read) (defBody s_Disk_read) (defScope s_Disk_read) .none kV_Disk_read dc_Disk_read pm_Disk_read an_Disk_read cd_Disk_read ct_Disk_read), sl_Disk_read⟩)
    (c_Disk_read : PySem.W.codeIn K cd_Disk_read "Disk.read" = true)
    (k_Disk_read : PySem.W.keepIn K (.ref f_Disk_read) = true)
    (a_Disk_operate : PySem.W.findIn K (.ref C_Disk) "operate" = some (some (.ref f_Disk_operate)))
    (i_Disk_operate : PySem.W.isFn K (.ref f_Disk_operate) = true)
    (l_Disk_operate : K.lookup f_Disk_operate = some ⟨oc_Disk_operate, od_Disk_operate, .func (PySem.W.fnOf "operate" "Disk.operate" (defArgs s_Disk_operate) (defBody s_Disk_operate) (defScope s_Disk_operate) .none kV_Disk_operate dc_Disk_operate pm_Disk_operate an_Disk_operate cd_Disk_operate ct_Disk_operate), sl_Disk_operate⟩)
    (c_Disk_operate : PySem.W.codeIn K cd_Disk_operate "Disk.operate" = true)
    (k_Disk_operate : PySem.W.keepIn K (.ref f_Disk_operate) = true)
    (a_Disk_write : PySem.W.findIn K (.ref C_Disk) "write" = some (some (.ref f_Disk_write)))
    (i_Disk_write : PySem.W.isFn K (.ref f_Disk_write) = true)
    (l_Disk_write : K.lookup f_Disk_write = some ⟨oc_Disk_write, od_Disk_write, .func (PySem.W.fnOf "write" "Disk.write" (defArgs s_Disk_write) (defBody s_Disk_write) (defScope s_Disk_write) .none kV_Disk_write dc_Disk_write pm_Disk_write an_Disk_write cd_Disk_write ct_Disk_write), sl_Disk_write⟩)
    (c_Disk_write : PySem.W.codeIn K cd_Disk_write "Disk.write" = true)
    (k_Disk_write : PySem.W.keepIn K (.ref f_Disk_write) = true)
    (a_Disk_flush : PySem.W.findIn K (.ref C_Disk) "flush" = some (some (.ref f_Disk_flush)))
    (i_Disk_flush : PySem.W.isFn K (.ref f_Disk_flush) = true)
    (l_Disk_flush : K.lookup f_Disk_flush = some ⟨oc_Disk_flush, od_Disk_flush, .func (PySem.W.fnOf "flush" "Disk.flush" (defArgs s_Disk_flush) (defBody s_Disk_flush) (defScope s_Disk_flush) .none kV_Disk_flush dc_Disk_flush pm_Disk_flush an_Disk_flush cd_Disk_flush ct_Disk_flush), sl_Disk_flush⟩)
    (c_Disk_flush : PySem.W.codeIn K cd_Disk_flush "Disk.flush" = true)
    (k_Disk_flush : PySem.W.keepIn K (.ref f_Disk_flush) = true)
    (a_Disk_waiting : PySem.W.findIn K (.ref C_Disk) "waiting" = some (some (.ref f_Disk_waiting)))
    (i_Disk_waiting : PySem.W.isFn K (.ref f_Disk_waiting) = true)
    (l_Disk_waiting : K.lookup f_Disk_waiting = some ⟨oc_Disk_waiting, od_Disk_waiting, .func (PySem.W.fnOf "waiting" "Disk.waiting" (defArgs s_Disk_waiting) (defBody s_Disk_waiting) (defScope s_Disk_waiting) .none kV_Disk_waiting dc_Disk_waiting pm_Disk_waiting an_Disk_waiting cd_Disk_waiting ct_Disk_waiting), sl_Disk_waiting⟩)
    (c_Disk_waiting : PySem.W.codeIn K cd_Disk_waiting "Disk.waiting" = true)
    (k_Disk_waiting : PySem.W.keepIn K (.ref f_Disk_waiting) = true)
    (a_Disk_fail_after : PySem.W.findIn K (.ref C_Disk) "fail_after" = some (some (.ref f_Disk_fail_after)))
    (i_Disk_fail_after : PySem.W.isFn K (.ref f_Disk_fail_after) = true)
    (l_Disk_fail_after : K.lookup f_Disk_fail_after = some ⟨oc_Disk_fail_after, od_Disk_fail_after, .func (PySem.W.fnOf "fail_after" "Disk.fail_after" (defArgs s_Disk_fail_after) (defBody s_Disk_fail_after) (defScope s_Disk_fail_after) .none kV_Disk_fail_after dc_Disk_fail_after pm_Disk_fail_after an_Disk_fail_after cd_Disk_fail_after ct_Disk_fail_after), sl_Disk_fail_after⟩)
    (c_Disk_fail_after : PySem.W.codeIn K cd_Disk_fail_after "Disk.fail_after" = true)
    (k_Disk_fail_after : PySem.W.keepIn K (.ref f_Disk_fail_after) = true)
    (a_Disk_cut : PySem.W.findIn K (.ref C_Disk) "cut" = some (some (.ref f_Disk_cut)))
    (i_Disk_cut : PySem.W.isFn K (.ref f_Disk_cut) = true)
    (l_Disk_cut : K.lookup f_Disk_cut = some ⟨oc_Disk_cut, od_Disk_cut, .func (PySem.W.fnOf "cut" "Disk.cut" (defArgs s_Disk_cut) (defBody s_Disk_cut) (defScope s_Disk_cut) .none kV_Disk_cut dc_Disk_cut pm_Disk_cut an_Disk_cut cd_Disk_cut ct_Disk_cut), sl_Disk_cut⟩)
    (c_Disk_cut : PySem.W.codeIn K cd_Disk_cut "Disk.cut" = true)
    (k_Disk_cut : PySem.W.keepIn K (.ref f_Disk_cut) = true)
    (a_Head___init__ : PySem.W.findIn K (.ref C_Head) "__init__" = some (some (.ref f_Head___init__)))
    (i_Head___init__ : PySem.W.isFn K (.ref f_Head___init__) = true)
    (l_Head___init__ : K.lookup f_Head___init__ = some ⟨oc_Head___init__, od_Head___init__, .func (PySem.W.fnOf "__init__" "Head.__init__" (defArgs s_Head___init__) (defBody s_Head___init__) (defScope s_Head___init__) .none kV_Head___init__ dc_Head___init__ pm_Head___init__ an_Head___init__ cd_Head___init__ ct_Head___init__), sl_Head___init__⟩)
    (c_Head___init__ : PySem.W.codeIn K cd_Head___init__ "Head.__init__" = true)
    (k_Head___init__ : PySem.W.keepIn K (.ref f_Head___init__) = true)
    (a_Head_sector : PySem.W.findIn K (.ref C_Head) "sector" = some (some (.ref f_Head_sector)))
    (i_Head_sector : PySem.W.isFn K (.ref f_Head_sector) = true)
    (l_Head_sector : K.lookup f_Head_sector = some ⟨oc_Head_sector, od_Head_sector, .func (PySem.W.fnOf "sector" "Head.sector" (defArgs s_Head_sector) (defBody s_Head_sector) (defScope s_Head_sector) .none kV_Head_sector dc_Head_sector pm_Head_sector an_Head_sector cd_Head_sector ct_Head_sector), sl_Head_sector⟩)
    (c_Head_sector : PySem.W.codeIn K cd_Head_sector "Head.sector" = true)
    (k_Head_sector : PySem.W.keepIn K (.ref f_Head_sector) = true)
    (a_place : PySem.W.nsIn K mainGlobals "place" = some (some (.ref f_place)))
    (l_place : K.lookup f_place = some ⟨oc_place, od_place, .func (PySem.W.fnOf "place" "place" (defArgs s_place) (defBody s_place) (defScope s_place) .none kV_place dc_place pm_place an_place cd_place ct_place), sl_place⟩)
    (c_place : PySem.W.codeIn K cd_place "place" = true)
    (k_place : PySem.W.keepIn K (.ref f_place) = true)
    (a_is_valid_head : PySem.W.nsIn K mainGlobals "is_valid_head" = some (some (.ref f_is_valid_head)))
    (l_is_valid_head : K.lookup f_is_valid_head = some ⟨oc_is_valid_head, od_is_valid_head, .func (PySem.W.fnOf "is_valid_head" "is_valid_head" (defArgs s_is_valid_head) (defBody s_is_valid_head) (defScope s_is_valid_head) .none kV_is_valid_head dc_is_valid_head pm_is_valid_head an_is_valid_head cd_is_valid_head ct_is_valid_head), sl_is_valid_head⟩)
    (c_is_valid_head : PySem.W.codeIn K cd_is_valid_head "is_valid_head" = true)
    (k_is_valid_head : PySem.W.keepIn K (.ref f_is_valid_head) = true)
    (a_log_mark : PySem.W.nsIn K mainGlobals "log_mark" = some (some (.ref f_log_mark)))
    (l_log_mark : K.lookup f_log_mark = some ⟨oc_log_mark, od_log_mark, .func (PySem.W.fnOf "log_mark" "log_mark" (defArgs s_log_mark) (defBody s_log_mark) (defScope s_log_mark) .none kV_log_mark dc_log_mark pm_log_mark an_log_mark cd_log_mark ct_log_mark), sl_log_mark⟩)
    (c_log_mark : PySem.W.codeIn K cd_log_mark "log_mark" = true)
    (k_log_mark : PySem.W.keepIn K (.ref f_log_mark) = true)
    (a_check_head : PySem.W.nsIn K mainGlobals "check_head" = some (some (.ref f_check_head)))
    (l_check_head : K.lookup f_check_head = some ⟨oc_check_head, od_check_head, .func (PySem.W.fnOf "check_head" "check_head" (defArgs s_check_head) (defBody s_check_head) (defScope s_check_head) .none kV_check_head dc_check_head pm_check_head an_check_head cd_check_head ct_check_head), sl_check_head⟩)
    (c_check_head : PySem.W.codeIn K cd_check_head "check_head" = true)
    (k_check_head : PySem.W.keepIn K (.ref f_check_head) = true)
    (a_present_head : PySem.W.nsIn K mainGlobals "present_head" = some (some (.ref f_present_head)))
    (l_present_head : K.lookup f_present_head = some ⟨oc_present_head, od_present_head, .func (PySem.W.fnOf "present_head" "present_head" (defArgs s_present_head) (defBody s_present_head) (defScope s_present_head) .none kV_present_head dc_present_head pm_present_head an_present_head cd_present_head ct_present_head), sl_present_head⟩)
    (c_present_head : PySem.W.codeIn K cd_present_head "present_head" = true)
    (k_present_head : PySem.W.keepIn K (.ref f_present_head) = true)
    (a_next_head : PySem.W.nsIn K mainGlobals "next_head" = some (some (.ref f_next_head)))
    (l_next_head : K.lookup f_next_head = some ⟨oc_next_head, od_next_head, .func (PySem.W.fnOf "next_head" "next_head" (defArgs s_next_head) (defBody s_next_head) (defScope s_next_head) .none kV_next_head dc_next_head pm_next_head an_next_head cd_next_head ct_next_head), sl_next_head⟩)
    (c_next_head : PySem.W.codeIn K cd_next_head "next_head" = true)
    (k_next_head : PySem.W.keepIn K (.ref f_next_head) = true)
    (a_commit_steps : PySem.W.nsIn K mainGlobals "commit_steps" = some (some (.ref f_commit_steps)))
    (l_commit_steps : K.lookup f_commit_steps = some ⟨oc_commit_steps, od_commit_steps, .func (PySem.W.fnOf "commit_steps" "commit_steps" (defArgs s_commit_steps) (defBody s_commit_steps) (defScope s_commit_steps) .none kV_commit_steps dc_commit_steps pm_commit_steps an_commit_steps cd_commit_steps ct_commit_steps), sl_commit_steps⟩)
    (c_commit_steps : PySem.W.codeIn K cd_commit_steps "commit_steps" = true)
    (k_commit_steps : PySem.W.keepIn K (.ref f_commit_steps) = true)
    (a_commit : PySem.W.nsIn K mainGlobals "commit" = some (some (.ref f_commit)))
    (l_commit : K.lookup f_commit = some ⟨oc_commit, od_commit, .func (PySem.W.fnOf "commit" "commit" (defArgs s_commit) (defBody s_commit) (defScope s_commit) .none kV_commit dc_commit pm_commit an_commit cd_commit ct_commit), sl_commit⟩)
    (c_commit : PySem.W.codeIn K cd_commit "commit" = true)
    (k_commit : PySem.W.keepIn K (.ref f_commit) = true)
    (a_Space___init__ : PySem.W.findIn K (.ref C_Space) "__init__" = some (some (.ref f_Space___init__)))
    (i_Space___init__ : PySem.W.isFn K (.ref f_Space___init__) = true)
    (l_Space___init__ : K.lookup f_Space___init__ = some ⟨oc_Space___init__, od_Space___init__, .func (PySem.W.fnOf "__init__" "Space.__init__" (defArgs s_Space___init__) (defBody s_Space___init__) (defScope s_Space___init__) .none kV_Space___init__ dc_Space___init__ pm_Space___init__ an_Space___init__ cd_Space___init__ ct_Space___init__), sl_Space___init__⟩)
    (c_Space___init__ : PySem.W.codeIn K cd_Space___init__ "Space.__init__" = true)
    (k_Space___init__ : PySem.W.keepIn K (.ref f_Space___init__) = true)
    (a_Space_count_spare : PySem.W.findIn K (.ref C_Space) "count_spare" = some (some (.ref f_Space_count_spare)))
    (i_Space_count_spare : PySem.W.isFn K (.ref f_Space_count_spare) = true)
    (l_Space_count_spare : K.lookup f_Space_count_spare = some ⟨oc_Space_count_spare, od_Space_count_spare, .func (PySem.W.fnOf "count_spare" "Space.count_spare" (defArgs s_Space_count_spare) (defBody s_Space_count_spare) (defScope s_Space_count_spare) .none kV_Space_count_spare dc_Space_count_spare pm_Space_count_spare an_Space_count_spare cd_Space_count_spare ct_Space_count_spare), sl_Space_count_spare⟩)
    (c_Space_count_spare : PySem.W.codeIn K cd_Space_count_spare "Space.count_spare" = true)
    (k_Space_count_spare : PySem.W.keepIn K (.ref f_Space_count_spare) = true)
    (a_Space_check_block : PySem.W.findIn K (.ref C_Space) "check_block" = some (some (.ref f_Space_check_block)))
    (i_Space_check_block : PySem.W.isFn K (.ref f_Space_check_block) = true)
    (l_Space_check_block : K.lookup f_Space_check_block = some ⟨oc_Space_check_block, od_Space_check_block, .func (PySem.W.fnOf "check_block" "Space.check_block" (defArgs s_Space_check_block) (defBody s_Space_check_block) (defScope s_Space_check_block) .none kV_Space_check_block dc_Space_check_block pm_Space_check_block an_Space_check_block cd_Space_check_block ct_Space_check_block), sl_Space_check_block⟩)
    (c_Space_check_block : PySem.W.codeIn K cd_Space_check_block "Space.check_block" = true)
    (k_Space_check_block : PySem.W.keepIn K (.ref f_Space_check_block) = true)
    (a_Space_least_free : PySem.W.findIn K (.ref C_Space) "least_free" = some (some (.ref f_Space_least_free)))
    (i_Space_least_free : PySem.W.isFn K (.ref f_Space_least_free) = true)
    (l_Space_least_free : K.lookup f_Space_least_free = some ⟨oc_Space_least_free, od_Space_least_free, .func (PySem.W.fnOf "least_free" "Space.least_free" (defArgs s_Space_least_free) (defBody s_Space_least_free) (defScope s_Space_least_free) .none kV_Space_least_free dc_Space_least_free pm_Space_least_free an_Space_least_free cd_Space_least_free ct_Space_least_free), sl_Space_least_free⟩)
    (c_Space_least_free : PySem.W.codeIn K cd_Space_least_free "Space.least_free" = true)
    (k_Space_least_free : PySem.W.keepIn K (.ref f_Space_least_free) = true)
    (a_Space_take : PySem.W.findIn K (.ref C_Space) "take" = some (some (.ref f_Space_take)))
    (i_Space_take : PySem.W.isFn K (.ref f_Space_take) = true)
    (l_Space_take : K.lookup f_Space_take = some ⟨oc_Space_take, od_Space_take, .func (PySem.W.fnOf "take" "Space.take" (defArgs s_Space_take) (defBody s_Space_take) (defScope s_Space_take) .none kV_Space_take dc_Space_take pm_Space_take an_Space_take cd_Space_take ct_Space_take), sl_Space_take⟩)
    (c_Space_take : PySem.W.codeIn K cd_Space_take "Space.take" = true)
    (k_Space_take : PySem.W.keepIn K (.ref f_Space_take) = true)
    (a_Space_share : PySem.W.findIn K (.ref C_Space) "share" = some (some (.ref f_Space_share)))
    (i_Space_share : PySem.W.isFn K (.ref f_Space_share) = true)
    (l_Space_share : K.lookup f_Space_share = some ⟨oc_Space_share, od_Space_share, .func (PySem.W.fnOf "share" "Space.share" (defArgs s_Space_share) (defBody s_Space_share) (defScope s_Space_share) .none kV_Space_share dc_Space_share pm_Space_share an_Space_share cd_Space_share ct_Space_share), sl_Space_share⟩)
    (c_Space_share : PySem.W.codeIn K cd_Space_share "Space.share" = true)
    (k_Space_share : PySem.W.keepIn K (.ref f_Space_share) = true)
    (a_Space_drop : PySem.W.findIn K (.ref C_Space) "drop" = some (some (.ref f_Space_drop)))
    (i_Space_drop : PySem.W.isFn K (.ref f_Space_drop) = true)
    (l_Space_drop : K.lookup f_Space_drop = some ⟨oc_Space_drop, od_Space_drop, .func (PySem.W.fnOf "drop" "Space.drop" (defArgs s_Space_drop) (defBody s_Space_drop) (defScope s_Space_drop) .none kV_Space_drop dc_Space_drop pm_Space_drop an_Space_drop cd_Space_drop ct_Space_drop), sl_Space_drop⟩)
    (c_Space_drop : PySem.W.codeIn K cd_Space_drop "Space.drop" = true)
    (k_Space_drop : PySem.W.keepIn K (.ref f_Space_drop) = true)
    (a_Space_uses : PySem.W.findIn K (.ref C_Space) "uses" = some (some (.ref f_Space_uses)))
    (i_Space_uses : PySem.W.isFn K (.ref f_Space_uses) = true)
    (l_Space_uses : K.lookup f_Space_uses = some ⟨oc_Space_uses, od_Space_uses, .func (PySem.W.fnOf "uses" "Space.uses" (defArgs s_Space_uses) (defBody s_Space_uses) (defScope s_Space_uses) .none kV_Space_uses dc_Space_uses pm_Space_uses an_Space_uses cd_Space_uses ct_Space_uses), sl_Space_uses⟩)
    (c_Space_uses : PySem.W.codeIn K cd_Space_uses "Space.uses" = true)
    (k_Space_uses : PySem.W.keepIn K (.ref f_Space_uses) = true)
    (a_Space_is_new : PySem.W.findIn K (.ref C_Space) "is_new" = some (some (.ref f_Space_is_new)))
    (i_Space_is_new : PySem.W.isFn K (.ref f_Space_is_new) = true)
    (l_Space_is_new : K.lookup f_Space_is_new = some ⟨oc_Space_is_new, od_Space_is_new, .func (PySem.W.fnOf "is_new" "Space.is_new" (defArgs s_Space_is_new) (defBody s_Space_is_new) (defScope s_Space_is_new) .none kV_Space_is_new dc_Space_is_new pm_Space_is_new an_Space_is_new cd_Space_is_new ct_Space_is_new), sl_Space_is_new⟩)
    (c_Space_is_new : PySem.W.codeIn K cd_Space_is_new "Space.is_new" = true)
    (k_Space_is_new : PySem.W.keepIn K (.ref f_Space_is_new) = true)
    (a_Space_is_free : PySem.W.findIn K (.ref C_Space) "is_free" = some (some (.ref f_Space_is_free)))
    (i_Space_is_free : PySem.W.isFn K (.ref f_Space_is_free) = true)
    (l_Space_is_free : K.lookup f_Space_is_free = some ⟨oc_Space_is_free, od_Space_is_free, .func (PySem.W.fnOf "is_free" "Space.is_free" (defArgs s_Space_is_free) (defBody s_Space_is_free) (defScope s_Space_is_free) .none kV_Space_is_free dc_Space_is_free pm_Space_is_free an_Space_is_free cd_Space_is_free ct_Space_is_free), sl_Space_is_free⟩)
    (c_Space_is_free : PySem.W.codeIn K cd_Space_is_free "Space.is_free" = true)
    (k_Space_is_free : PySem.W.keepIn K (.ref f_Space_is_free) = true)
    (a_Space_settle : PySem.W.findIn K (.ref C_Space) "settle" = some (some (.ref f_Space_settle)))
    (i_Space_settle : PySem.W.isFn K (.ref f_Space_settle) = true)
    (l_Space_settle : K.lookup f_Space_settle = some ⟨oc_Space_settle, od_Space_settle, .func (PySem.W.fnOf "settle" "Space.settle" (defArgs s_Space_settle) (defBody s_Space_settle) (defScope s_Space_settle) .none kV_Space_settle dc_Space_settle pm_Space_settle an_Space_settle cd_Space_settle ct_Space_settle), sl_Space_settle⟩)
    (c_Space_settle : PySem.W.codeIn K cd_Space_settle "Space.settle" = true)
    (k_Space_settle : PySem.W.keepIn K (.ref f_Space_settle) = true)
    (a_Store___init__ : PySem.W.findIn K (.ref C_Store) "__init__" = some (some (.ref f_Store___init__)))
    (i_Store___init__ : PySem.W.isFn K (.ref f_Store___init__) = true)
    (l_Store___init__ : K.lookup f_Store___init__ = some ⟨oc_Store___init__, od_Store___init__, .func (PySem.W.fnOf "__init__" "Store.__init__" (defArgs s_Store___init__) (defBody s_Store___init__) (defScope s_Store___init__) .none kV_Store___init__ dc_Store___init__ pm_Store___init__ an_Store___init__ cd_Store___init__ ct_Store___init__), sl_Store___init__⟩)
    (c_Store___init__ : PySem.W.codeIn K cd_Store___init__ "Store.__init__" = true)
    (k_Store___init__ : PySem.W.keepIn K (.ref f_Store___init__) = true)
    (a_Store_generation : PySem.W.findIn K (.ref C_Store) "generation" = some (some (.ref f_Store_generation)))
    (i_Store_generation : PySem.W.isFn K (.ref f_Store_generation) = true)
    (l_Store_generation : K.lookup f_Store_generation = some ⟨oc_Store_generation, od_Store_generation, .func (PySem.W.fnOf "generation" "Store.generation" (defArgs s_Store_generation) (defBody s_Store_generation) (defScope s_Store_generation) .none kV_Store_generation dc_Store_generation pm_Store_generation an_Store_generation cd_Store_generation ct_Store_generation), sl_Store_generation⟩)
    (c_Store_generation : PySem.W.codeIn K cd_Store_generation "Store.generation" = true)
    (k_Store_generation : PySem.W.keepIn K (.ref f_Store_generation) = true)
    (a_Store_use_table : PySem.W.findIn K (.ref C_Store) "use_table" = some (some (.ref f_Store_use_table)))
    (i_Store_use_table : PySem.W.isFn K (.ref f_Store_use_table) = true)
    (l_Store_use_table : K.lookup f_Store_use_table = some ⟨oc_Store_use_table, od_Store_use_table, .func (PySem.W.fnOf "use_table" "Store.use_table" (defArgs s_Store_use_table) (defBody s_Store_use_table) (defScope s_Store_use_table) .none kV_Store_use_table dc_Store_use_table pm_Store_use_table an_Store_use_table cd_Store_use_table ct_Store_use_table), sl_Store_use_table⟩)
    (c_Store_use_table : PySem.W.codeIn K cd_Store_use_table "Store.use_table" = true)
    (k_Store_use_table : PySem.W.keepIn K (.ref f_Store_use_table) = true)
    (a_Store_use_reserve : PySem.W.findIn K (.ref C_Store) "use_reserve" = some (some (.ref f_Store_use_reserve)))
    (i_Store_use_reserve : PySem.W.isFn K (.ref f_Store_use_reserve) = true)
    (l_Store_use_reserve : K.lookup f_Store_use_reserve = some ⟨oc_Store_use_reserve, od_Store_use_reserve, .func (PySem.W.fnOf "use_reserve" "Store.use_reserve" (defArgs s_Store_use_reserve) (defBody s_Store_use_reserve) (defScope s_Store_use_reserve) .none kV_Store_use_reserve dc_Store_use_reserve pm_Store_use_reserve an_Store_use_reserve cd_Store_use_reserve ct_Store_use_reserve), sl_Store_use_reserve⟩)
    (c_Store_use_reserve : PySem.W.codeIn K cd_Store_use_reserve "Store.use_reserve" = true)
    (k_Store_use_reserve : PySem.W.keepIn K (.ref f_Store_use_reserve) = true)
    (a_Store_read : PySem.W.findIn K (.ref C_Store) "read" = some (some (.ref f_Store_read)))
    (i_Store_read : PySem.W.isFn K (.ref f_Store_read) = true)
    (l_Store_read : K.lookup f_Store_read = some ⟨oc_Store_read, od_Store_read, .func (PySem.W.fnOf "read" "Store.read" (defArgs s_Store_read) (defBody s_Store_read) (defScope s_Store_read) .none kV_Store_read dc_Store_read pm_Store_read an_Store_read cd_Store_read ct_Store_read), sl_Store_read⟩)
    (c_Store_read : PySem.W.codeIn K cd_Store_read "Store.read" = true)
    (k_Store_read : PySem.W.keepIn K (.ref f_Store_read) = true)
    (a_Store_make : PySem.W.findIn K (.ref C_Store) "make" = some (some (.ref f_Store_make)))
    (i_Store_make : PySem.W.isFn K (.ref f_Store_make) = true)
    (l_Store_make : K.lookup f_Store_make = some ⟨oc_Store_make, od_Store_make, .func (PySem.W.fnOf "make" "Store.make" (defArgs s_Store_make) (defBody s_Store_make) (defScope s_Store_make) .none kV_Store_make dc_Store_make pm_Store_make an_Store_make cd_Store_make ct_Store_make), sl_Store_make⟩)
    (c_Store_make : PySem.W.codeIn K cd_Store_make "Store.make" = true)
    (k_Store_make : PySem.W.keepIn K (.ref f_Store_make) = true)
    (a_Store_is_new : PySem.W.findIn K (.ref C_Store) "is_new" = some (some (.ref f_Store_is_new)))
    (i_Store_is_new : PySem.W.isFn K (.ref f_Store_is_new) = true)
    (l_Store_is_new : K.lookup f_Store_is_new = some ⟨oc_Store_is_new, od_Store_is_new, .func (PySem.W.fnOf "is_new" "Store.is_new" (defArgs s_Store_is_new) (defBody s_Store_is_new) (defScope s_Store_is_new) .none kV_Store_is_new dc_Store_is_new pm_Store_is_new an_Store_is_new cd_Store_is_new ct_Store_is_new), sl_Store_is_new⟩)
    (c_Store_is_new : PySem.W.codeIn K cd_Store_is_new "Store.is_new" = true)
    (k_Store_is_new : PySem.W.keepIn K (.ref f_Store_is_new) = true)
    (a_Store_write : PySem.W.findIn K (.ref C_Store) "write" = some (some (.ref f_Store_write)))
    (i_Store_write : PySem.W.isFn K (.ref f_Store_write) = true)
    (l_Store_write : K.lookup f_Store_write = some ⟨oc_Store_write, od_Store_write, .func (PySem.W.fnOf "write" "Store.write" (defArgs s_Store_write) (defBody s_Store_write) (defScope s_Store_write) .none kV_Store_write dc_Store_write pm_Store_write an_Store_write cd_Store_write ct_Store_write), sl_Store_write⟩)
    (c_Store_write : PySem.W.codeIn K cd_Store_write "Store.write" = true)
    (k_Store_write : PySem.W.keepIn K (.ref f_Store_write) = true)
    (a_Store_share : PySem.W.findIn K (.ref C_Store) "share" = some (some (.ref f_Store_share)))
    (i_Store_share : PySem.W.isFn K (.ref f_Store_share) = true)
    (l_Store_share : K.lookup f_Store_share = some ⟨oc_Store_share, od_Store_share, .func (PySem.W.fnOf "share" "Store.share" (defArgs s_Store_share) (defBody s_Store_share) (defScope s_Store_share) .none kV_Store_share dc_Store_share pm_Store_share an_Store_share cd_Store_share ct_Store_share), sl_Store_share⟩)
    (c_Store_share : PySem.W.codeIn K cd_Store_share "Store.share" = true)
    (k_Store_share : PySem.W.keepIn K (.ref f_Store_share) = true)
    (a_Store_drop : PySem.W.findIn K (.ref C_Store) "drop" = some (some (.ref f_Store_drop)))
    (i_Store_drop : PySem.W.isFn K (.ref f_Store_drop) = true)
    (l_Store_drop : K.lookup f_Store_drop = some ⟨oc_Store_drop, od_Store_drop, .func (PySem.W.fnOf "drop" "Store.drop" (defArgs s_Store_drop) (defBody s_Store_drop) (defScope s_Store_drop) .none kV_Store_drop dc_Store_drop pm_Store_drop an_Store_drop cd_Store_drop ct_Store_drop), sl_Store_drop⟩)
    (c_Store_drop : PySem.W.codeIn K cd_Store_drop "Store.drop" = true)
    (k_Store_drop : PySem.W.keepIn K (.ref f_Store_drop) = true)
    (a_Store_uses : PySem.W.findIn K (.ref C_Store) "uses" = some (some (.ref f_Store_uses)))
    (i_Store_uses : PySem.W.isFn K (.ref f_Store_uses) = true)
    (l_Store_uses : K.lookup f_Store_uses = some ⟨oc_Store_uses, od_Store_uses, .func (PySem.W.fnOf "uses" "Store.uses" (defArgs s_Store_uses) (defBody s_Store_uses) (defScope s_Store_uses) .none kV_Store_uses dc_Store_uses pm_Store_uses an_Store_uses cd_Store_uses ct_Store_uses), sl_Store_uses⟩)
    (c_Store_uses : PySem.W.codeIn K cd_Store_uses "Store.uses" = true)
    (k_Store_uses : PySem.W.keepIn K (.ref f_Store_uses) = true)
    (a_Store_new_blocks : PySem.W.findIn K (.ref C_Store) "new_blocks" = some (some (.ref f_Store_new_blocks)))
    (i_Store_new_blocks : PySem.W.isFn K (.ref f_Store_new_blocks) = true)
    (l_Store_new_blocks : K.lookup f_Store_new_blocks = some ⟨oc_Store_new_blocks, od_Store_new_blocks, .func (PySem.W.fnOf "new_blocks" "Store.new_blocks" (defArgs s_Store_new_blocks) (defBody s_Store_new_blocks) (defScope s_Store_new_blocks) .none kV_Store_new_blocks dc_Store_new_blocks pm_Store_new_blocks an_Store_new_blocks cd_Store_new_blocks ct_Store_new_blocks), sl_Store_new_blocks⟩)
    (c_Store_new_blocks : PySem.W.codeIn K cd_Store_new_blocks "Store.new_blocks" = true)
    (k_Store_new_blocks : PySem.W.keepIn K (.ref f_Store_new_blocks) = true)
    (a__law_tape : PySem.W.nsIn K mainGlobals "_law_tape" = some (some (.ref f__law_tape)))
    (l__law_tape : K.lookup f__law_tape = some ⟨oc__law_tape, od__law_tape, .func (PySem.W.fnOf "_law_tape" "_law_tape" (defArgs s__law_tape) (defBody s__law_tape) (defScope s__law_tape) .none kV__law_tape dc__law_tape pm__law_tape an__law_tape cd__law_tape ct__law_tape), sl__law_tape⟩)
    (c__law_tape : PySem.W.codeIn K cd__law_tape "_law_tape" = true)
    (k__law_tape : PySem.W.keepIn K (.ref f__law_tape) = true)
    (a__law_at : PySem.W.nsIn K mainGlobals "_law_at" = some (some (.ref f__law_at)))
    (l__law_at : K.lookup f__law_at = some ⟨oc__law_at, od__law_at, .func (PySem.W.fnOf "_law_at" "_law_at" (defArgs s__law_at) (defBody s__law_at) (defScope s__law_at) .none kV__law_at dc__law_at pm__law_at an__law_at cd__law_at ct__law_at), sl__law_at⟩)
    (c__law_at : PySem.W.codeIn K cd__law_at "_law_at" = true)
    (k__law_at : PySem.W.keepIn K (.ref f__law_at) = true)
    (a__law_block : PySem.W.nsIn K mainGlobals "_law_block" = some (some (.ref f__law_block)))
    (l__law_block : K.lookup f__law_block = some ⟨oc__law_block, od__law_block, .func (PySem.W.fnOf "_law_block" "_law_block" (defArgs s__law_block) (defBody s__law_block) (defScope s__law_block) .none kV__law_block dc__law_block pm__law_block an__law_block cd__law_block ct__law_block), sl__law_block⟩)
    (c__law_block : PySem.W.codeIn K cd__law_block "_law_block" = true)
    (k__law_block : PySem.W.keepIn K (.ref f__law_block) = true)
    (a__law_is_block : PySem.W.nsIn K mainGlobals "_law_is_block" = some (some (.ref f__law_is_block)))
    (l__law_is_block : K.lookup f__law_is_block = some ⟨oc__law_is_block, od__law_is_block, .func (PySem.W.fnOf "_law_is_block" "_law_is_block" (defArgs s__law_is_block) (defBody s__law_is_block) (defScope s__law_is_block) .none kV__law_is_block dc__law_is_block pm__law_is_block an__law_is_block cd__law_is_block ct__law_is_block), sl__law_is_block⟩)
    (c__law_is_block : PySem.W.codeIn K cd__law_is_block "_law_is_block" = true)
    (k__law_is_block : PySem.W.keepIn K (.ref f__law_is_block) = true)
    (a__law_put_block : PySem.W.nsIn K mainGlobals "_law_put_block" = some (some (.ref f__law_put_block)))
    (l__law_put_block : K.lookup f__law_put_block = some ⟨oc__law_put_block, od__law_put_block, .func (PySem.W.fnOf "_law_put_block" "_law_put_block" (defArgs s__law_put_block) (defBody s__law_put_block) (defScope s__law_put_block) .none kV__law_put_block dc__law_put_block pm__law_put_block an__law_put_block cd__law_put_block ct__law_put_block), sl__law_put_block⟩)
    (c__law_put_block : PySem.W.codeIn K cd__law_put_block "_law_put_block" = true)
    (k__law_put_block : PySem.W.keepIn K (.ref f__law_put_block) = true)
    (a__law_store : PySem.W.nsIn K mainGlobals "_law_store" = some (some (.ref f__law_store)))
    (l__law_store : K.lookup f__law_store = some ⟨oc__law_store, od__law_store, .func (PySem.W.fnOf "_law_store" "_law_store" (defArgs s__law_store) (defBody s__law_store) (defScope s__law_store) .none kV__law_store dc__law_store pm__law_store an__law_store cd__law_store ct__law_store), sl__law_store⟩)
    (c__law_store : PySem.W.codeIn K cd__law_store "_law_store" = true)
    (k__law_store : PySem.W.keepIn K (.ref f__law_store) = true)
    (a__law_work : PySem.W.nsIn K mainGlobals "_law_work" = some (some (.ref f__law_work)))
    (l__law_work : K.lookup f__law_work = some ⟨oc__law_work, od__law_work, .func (PySem.W.fnOf "_law_work" "_law_work" (defArgs s__law_work) (defBody s__law_work) (defScope s__law_work) .none kV__law_work dc__law_work pm__law_work an__law_work cd__law_work ct__law_work), sl__law_work⟩)
    (c__law_work : PySem.W.codeIn K cd__law_work "_law_work" = true)
    (k__law_work : PySem.W.keepIn K (.ref f__law_work) = true)
    (a__law_choices : PySem.W.nsIn K mainGlobals "_law_choices" = some (some (.ref f__law_choices)))
    (l__law_choices : K.lookup f__law_choices = some ⟨oc__law_choices, od__law_choices, .func (PySem.W.fnOf "_law_choices" "_law_choices" (defArgs s__law_choices) (defBody s__law_choices) (defScope s__law_choices) .none kV__law_choices dc__law_choices pm__law_choices an__law_choices cd__law_choices ct__law_choices), sl__law_choices⟩)
    (c__law_choices : PySem.W.codeIn K cd__law_choices "_law_choices" = true)
    (k__law_choices : PySem.W.keepIn K (.ref f__law_choices) = true)
    (a__law_commit : PySem.W.nsIn K mainGlobals "_law_commit" = some (some (.ref f__law_commit)))
    (l__law_commit : K.lookup f__law_commit = some ⟨oc__law_commit, od__law_commit, .func (PySem.W.fnOf "_law_commit" "_law_commit" (defArgs s__law_commit) (defBody s__law_commit) (defScope s__law_commit) .none kV__law_commit dc__law_commit pm__law_commit an__law_commit cd__law_commit ct__law_commit), sl__law_commit⟩)
    (c__law_commit : PySem.W.codeIn K cd__law_commit "_law_commit" = true)
    (k__law_commit : PySem.W.keepIn K (.ref f__law_commit) = true)
    (a__law_steps : PySem.W.nsIn K mainGlobals "_law_steps" = some (some (.ref f__law_steps)))
    (l__law_steps : K.lookup f__law_steps = some ⟨oc__law_steps, od__law_steps, .func (PySem.W.fnOf "_law_steps" "_law_steps" (defArgs s__law_steps) (defBody s__law_steps) (defScope s__law_steps) .none kV__law_steps dc__law_steps pm__law_steps an__law_steps cd__law_steps ct__law_steps), sl__law_steps⟩)
    (c__law_steps : PySem.W.codeIn K cd__law_steps "_law_steps" = true)
    (k__law_steps : PySem.W.keepIn K (.ref f__law_steps) = true)
    (a__law_due : PySem.W.nsIn K mainGlobals "_law_due" = some (some (.ref f__law_due)))
    (l__law_due : K.lookup f__law_due = some ⟨oc__law_due, od__law_due, .func (PySem.W.fnOf "_law_due" "_law_due" (defArgs s__law_due) (defBody s__law_due) (defScope s__law_due) .none kV__law_due dc__law_due pm__law_due an__law_due cd__law_due ct__law_due), sl__law_due⟩)
    (c__law_due : PySem.W.codeIn K cd__law_due "_law_due" = true)
    (k__law_due : PySem.W.keepIn K (.ref f__law_due) = true)
    (a__law_others : PySem.W.nsIn K mainGlobals "_law_others" = some (some (.ref f__law_others)))
    (l__law_others : K.lookup f__law_others = some ⟨oc__law_others, od__law_others, .func (PySem.W.fnOf "_law_others" "_law_others" (defArgs s__law_others) (defBody s__law_others) (defScope s__law_others) .none kV__law_others dc__law_others pm__law_others an__law_others cd__law_others ct__law_others), sl__law_others⟩)
    (c__law_others : PySem.W.codeIn K cd__law_others "_law_others" = true)
    (k__law_others : PySem.W.keepIn K (.ref f__law_others) = true)
    (a__law_reads : PySem.W.nsIn K mainGlobals "_law_reads" = some (some (.ref f__law_reads)))
    (l__law_reads : K.lookup f__law_reads = some ⟨oc__law_reads, od__law_reads, .func (PySem.W.fnOf "_law_reads" "_law_reads" (defArgs s__law_reads) (defBody s__law_reads) (defScope s__law_reads) .none kV__law_reads dc__law_reads pm__law_reads an__law_reads cd__law_reads ct__law_reads), sl__law_reads⟩)
    (c__law_reads : PySem.W.codeIn K cd__law_reads "_law_reads" = true)
    (k__law_reads : PySem.W.keepIn K (.ref f__law_reads) = true)
    (a_law : PySem.W.nsIn K mainGlobals "law" = some (some (.ref f_law)))
    (l_law : K.lookup f_law = some ⟨oc_law, od_law, .func (PySem.W.fnOf "law" "law" (defArgs s_law) (defBody s_law) (defScope s_law) .none kV_law dc_law pm_law an_law cd_law ct_law), sl_law⟩)
    (c_law : PySem.W.codeIn K cd_law "law" = true)
    (k_law : PySem.W.keepIn K (.ref f_law) = true)
    (pg_Disk : PySem.W.plainGet K C_Disk Str.empty = true)
    (hd_Disk : PySem.W.hasDictIn K C_Disk = true)
    (po_Disk : PySem.W.plainOver K C_Disk = true)
    (sa_Disk : PySem.W.findIn K (.ref C_Disk) "__setattr__" = some (some (.builtin "object.__setattr__")))
    (mk_Disk : PySem.W.makesIn K C_Disk = true)
    (kc_Disk : PySem.W.keepIn K (.ref C_Disk) = true)
    (pg_Head : PySem.W.plainGet K C_Head Str.empty = true)
    (hd_Head : PySem.W.hasDictIn K C_Head = true)
    (po_Head : PySem.W.plainOver K C_Head = true)
    (sa_Head : PySem.W.findIn K (.ref C_Head) "__setattr__" = some (some (.builtin "object.__setattr__")))
    (mk_Head : PySem.W.makesIn K C_Head = true)
    (kc_Head : PySem.W.keepIn K (.ref C_Head) = true)
    (pg_Space : PySem.W.plainGet K C_Space Str.empty = true)
    (hd_Space : PySem.W.hasDictIn K C_Space = true)
    (po_Space : PySem.W.plainOver K C_Space = true)
    (sa_Space : PySem.W.findIn K (.ref C_Space) "__setattr__" = some (some (.builtin "object.__setattr__")))
    (mk_Space : PySem.W.makesIn K C_Space = true)
    (kc_Space : PySem.W.keepIn K (.ref C_Space) = true)
    (pg_Store : PySem.W.plainGet K C_Store Str.empty = true)
    (hd_Store : PySem.W.hasDictIn K C_Store = true)
    (po_Store : PySem.W.plainOver K C_Store = true)
    (sa_Store : PySem.W.findIn K (.ref C_Store) "__setattr__" = some (some (.builtin "object.__setattr__")))
    (mk_Store : PySem.W.makesIn K C_Store = true)
    (kc_Store : PySem.W.keepIn K (.ref C_Store) = true)
    (n_abs : PySem.W.nsIn K mainGlobals "abs" = some none)
    (n_bool : PySem.W.nsIn K mainGlobals "bool" = some none)
    (n_enumerate : PySem.W.nsIn K mainGlobals "enumerate" = some none)
    (n_int : PySem.W.nsIn K mainGlobals "int" = some none)
    (n_isinstance : PySem.W.nsIn K mainGlobals "isinstance" = some none)
    (n_len : PySem.W.nsIn K mainGlobals "len" = some none)
    (n_list : PySem.W.nsIn K mainGlobals "list" = some none)
    (n_max : PySem.W.nsIn K mainGlobals "max" = some none)
    (n_min : PySem.W.nsIn K mainGlobals "min" = some none)
    (n_range : PySem.W.nsIn K mainGlobals "range" = some none)
    (n_sorted : PySem.W.nsIn K mainGlobals "sorted" = some none)
    (n_zip : PySem.W.nsIn K mainGlobals "zip" = some none)
    (kc_ADD : PySem.W.nsIn K mainGlobals "ADD" = some (some (.int 60 t_ADD)))
    (kc_BLOCK_SECTORS : PySem.W.nsIn K mainGlobals "BLOCK_SECTORS" = some (some (.int 4 t_BLOCK_SECTORS)))
    (kc_BLOCK_WORDS : PySem.W.nsIn K mainGlobals "BLOCK_WORDS" = some (some (.int 32 t_BLOCK_WORDS)))
    (kc_FIRST_BLOCK : PySem.W.nsIn K mainGlobals "FIRST_BLOCK" = some (some (.int 5 t_FIRST_BLOCK)))
    (kc_FIRST_SECTOR : PySem.W.nsIn K mainGlobals "FIRST_SECTOR" = some (some (.int 4 t_FIRST_SECTOR)))
    (kc_LOG_BLOCKS : PySem.W.nsIn K mainGlobals "LOG_BLOCKS" = some (some (.int 4 t_LOG_BLOCKS)))
    (kc_LOG_SECTORS : PySem.W.nsIn K mainGlobals "LOG_SECTORS" = some (some (.int 16 t_LOG_SECTORS)))
    (kc_MAX_BLOCKS : PySem.W.nsIn K mainGlobals "MAX_BLOCKS" = some (some (.int 256 t_MAX_BLOCKS)))
    (kc_MAX_COUNT : PySem.W.nsIn K mainGlobals "MAX_COUNT" = some (some (.int 100000 t_MAX_COUNT)))
    (kc_MIN_BLOCKS : PySem.W.nsIn K mainGlobals "MIN_BLOCKS" = some (some (.int 96 t_MIN_BLOCKS)))
    (kc_SECTOR_WORDS : PySem.W.nsIn K mainGlobals "SECTOR_WORDS" = some (some (.int 8 t_SECTOR_WORDS)))
    (ex_BadImage : PySem.W.excIn K C_BadImage [.type "ValueError", .type "Exception", .type "BaseException", .type "object"] "ValueError.__new__" = true)
    (kc_BadImage : PySem.W.keepIn K (.ref C_BadImage) = true)
    (sb_BadImage : PySem.W.subIn K (.ref C_BadImage) (.type "BaseException") = some true)
    (ty_BadImage : PySem.W.typeIn K (.ref C_BadImage) = some (.type "type"))
    (ex_NoSpace : PySem.W.excIn K C_NoSpace [.type "ValueError", .type "Exception", .type "BaseException", .type "object"] "ValueError.__new__" = true)
    (kc_NoSpace : PySem.W.keepIn K (.ref C_NoSpace) = true)
    (sb_NoSpace : PySem.W.subIn K (.ref C_NoSpace) (.type "BaseException") = some true)
    (ty_NoSpace : PySem.W.typeIn K (.ref C_NoSpace) = some (.type "type"))
    (ex_NotValid : PySem.W.excIn K C_NotValid [.type "ValueError", .type "Exception", .type "BaseException", .type "object"] "ValueError.__new__" = true)
    (kc_NotValid : PySem.W.keepIn K (.ref C_NotValid) = true)
    (sb_NotValid : PySem.W.subIn K (.ref C_NotValid) (.type "BaseException") = some true)
    (ty_NotValid : PySem.W.typeIn K (.ref C_NotValid) = some (.type "type"))
    (ex_PowerOff : PySem.W.excIn K C_PowerOff [.type "ValueError", .type "Exception", .type "BaseException", .type "object"] "ValueError.__new__" = true)
    (kc_PowerOff : PySem.W.keepIn K (.ref C_PowerOff) = true)
    (sb_PowerOff : PySem.W.subIn K (.ref C_PowerOff) (.type "BaseException") = some true)
    (ty_PowerOff : PySem.W.typeIn K (.ref C_PowerOff) = some (.type "type"))
    (nf_Disk_blocks : PySem.W.findIn K (.ref C_Disk) "blocks" = some none)
    (nf_Disk_left : PySem.W.findIn K (.ref C_Disk) "left" = some none)
    (nf_Disk_newest : PySem.W.findIn K (.ref C_Disk) "newest" = some none)
    (nf_Disk_power : PySem.W.findIn K (.ref C_Disk) "power" = some none)
    (nf_Disk_sectors : PySem.W.findIn K (.ref C_Disk) "sectors" = some none)
    (nf_Disk_writes : PySem.W.findIn K (.ref C_Disk) "writes" = some none)
    (nf_Head_blocks : PySem.W.findIn K (.ref C_Head) "blocks" = some none)
    (nf_Head_generation : PySem.W.findIn K (.ref C_Head) "generation" = some none)
    (nf_Head_table : PySem.W.findIn K (.ref C_Head) "table" = some none)
    (nf_Space_blocks : PySem.W.findIn K (.ref C_Space) "blocks" = some none)
    (nf_Space_held : PySem.W.findIn K (.ref C_Space) "held" = some none)
    (nf_Space_low : PySem.W.findIn K (.ref C_Space) "low" = some none)
    (nf_Space_numbers : PySem.W.findIn K (.ref C_Space) "numbers" = some none)
    (nf_Space_spare : PySem.W.findIn K (.ref C_Space) "spare" = some none)
    (nf_Store_disk : PySem.W.findIn K (.ref C_Store) "disk" = some none)
    (nf_Store_head : PySem.W.findIn K (.ref C_Store) "head" = some none)
    (nf_Store_memory : PySem.W.findIn K (.ref C_Store) "memory" = some none)
    (nf_Store_reserve : PySem.W.findIn K (.ref C_Store) "reserve" = some none)
    (nf_Store_space : PySem.W.findIn K (.ref C_Store) "space" = some none)
    (nf_Store_table : PySem.W.findIn K (.ref C_Store) "table" = some none)
    (su_BadImage_PowerOff : PySem.W.subIn K (.ref C_BadImage) (.ref C_PowerOff) = some false)
    (su_NoSpace_PowerOff : PySem.W.subIn K (.ref C_NoSpace) (.ref C_PowerOff) = some false)
    (su_NotValid_PowerOff : PySem.W.subIn K (.ref C_NotValid) (.ref C_PowerOff) = some false)
    (su_PowerOff_PowerOff : PySem.W.subIn K (.ref C_PowerOff) (.ref C_PowerOff) = some true)
    (hx_PowerOff : PySem.W.hasDictIn K C_PowerOff = true) :
    ∃ fd : FuncData, (∀ (s : Shared) (v : Value), BindsTo s fd ⟨[v], []⟩ [("_law_script", v)]) ∧ ∀ base : Heap, K.In base → base.Ns mainGlobals mg → FnOk P w K mg base (L2.CX P w) 7 fa fd ["_law_script"] (spLaw K) := by
  have e := hfa.symm.trans (PySem.W.mg_of X G a_law)
  cases e
  have F_is_between := fun_mk (st := s_is_between) l_is_between c_is_between k_is_between
  have F_is_word := fun_mk (st := s_is_word) l_is_word c_is_word k_is_word
  have F_are_words := fun_mk (st := s_are_words) l_are_words c_are_words k_are_words
  have F_Disk___init__ := fun_mk (st := s_Disk___init__) l_Disk___init__ c_Disk___init__ k_Disk___init__
  have F_Disk_read := fun_mk (st := s_Disk_read) l_Disk_read c_Disk_read k_Disk_read
  have F_Disk_operate := fun_mk (st := s_Disk_operate) l_Disk_operate c_Disk_operate k_Disk_operate
  have F_Disk_write := fun_mk (st := s_Disk_write) l_Disk_write c_Disk_write k_Disk_write
  have F_Disk_flush := fun_mk (st := s_Disk_flush) l_Disk_flush c_Disk_flush k_Disk_flush
  have F_Disk_waiting := fun_mk (st := s_Disk_waiting) l_Disk_waiting c_Disk_waiting k_Disk_waiting
  have F_Disk_fail_after := fun_mk (st := s_Disk_fail_after) l_Disk_fail_after c_Disk_fail_after k_Disk_fail_after
  have F_Disk_cut := fun_mk (st := s_Disk_cut) l_Disk_cut c_Disk_cut k_Disk_cut
  have F_Head___init__ := fun_mk (st := s_Head___init__) l_Head___init__ c_Head___init__ k_Head___init__
  have F_Head_sector := fun_mk (st := s_Head_sector) l_Head_sector c_Head_sector k_Head_sector
  have F_place := fun_mk (st := s_place) l_place c_place k_place
  have F_is_valid_head := fun_mk (st := s_is_valid_head) l_is_valid_head c_is_valid_head k_is_valid_head
  have F_log_mark := fun_mk (st := s_log_mark) l_log_mark c_log_mark k_log_mark
  have F_check_head := fun_mk (st := s_check_head) l_check_head c_check_head k_check_head
  have F_present_head := fun_mk (st := s_present_head) l_present_head c_present_head k_present_head
  have F_next_head := fun_mk (st := s_next_head) l_next_head c_next_head k_next_head
  have F_commit_steps := fun_mk (st := s_commit_steps) l_commit_steps c_commit_steps k_commit_steps
  have F_commit := fun_mk (st := s_commit) l_commit c_commit k_commit
  have F_Space___init__ := fun_mk (st := s_Space___init__) l_Space___init__ c_Space___init__ k_Space___init__
  have F_Space_count_spare := fun_mk (st := s_Space_count_spare) l_Space_count_spare c_Space_count_spare k_Space_count_spare
  have F_Space_check_block := fun_mk (st := s_Space_check_block) l_Space_check_block c_Space_check_block k_Space_check_block
  have F_Space_least_free := fun_mk (st := s_Space_least_free) l_Space_least_free c_Space_least_free k_Space_least_free
  have F_Space_take := fun_mk (st := s_Space_take) l_Space_take c_Space_take k_Space_take
  have F_Space_share := fun_mk (st := s_Space_share) l_Space_share c_Space_share k_Space_share
  have F_Space_drop := fun_mk (st := s_Space_drop) l_Space_drop c_Space_drop k_Space_drop
  have F_Space_uses := fun_mk (st := s_Space_uses) l_Space_uses c_Space_uses k_Space_uses
  have F_Space_is_new := fun_mk (st := s_Space_is_new) l_Space_is_new c_Space_is_new k_Space_is_new
  have F_Space_is_free := fun_mk (st := s_Space_is_free) l_Space_is_free c_Space_is_free k_Space_is_free
  have F_Space_settle := fun_mk (st := s_Space_settle) l_Space_settle c_Space_settle k_Space_settle
  have F_Store___init__ := fun_mk (st := s_Store___init__) l_Store___init__ c_Store___init__ k_Store___init__
  have F_Store_generation := fun_mk (st := s_Store_generation) l_Store_generation c_Store_generation k_Store_generation
  have F_Store_use_table := fun_mk (st := s_Store_use_table) l_Store_use_table c_Store_use_table k_Store_use_table
  have F_Store_use_reserve := fun_mk (st := s_Store_use_reserve) l_Store_use_reserve c_Store_use_reserve k_Store_use_reserve
  have F_Store_read := fun_mk (st := s_Store_read) l_Store_read c_Store_read k_Store_read
  have F_Store_make := fun_mk (st := s_Store_make) l_Store_make c_Store_make k_Store_make
  have F_Store_is_new := fun_mk (st := s_Store_is_new) l_Store_is_new c_Store_is_new k_Store_is_new
  have F_Store_write := fun_mk (st := s_Store_write) l_Store_write c_Store_write k_Store_write
  have F_Store_share := fun_mk (st := s_Store_share) l_Store_share c_Store_share k_Store_share
  have F_Store_drop := fun_mk (st := s_Store_drop) l_Store_drop c_Store_drop k_Store_drop
  have F_Store_uses := fun_mk (st := s_Store_uses) l_Store_uses c_Store_uses k_Store_uses
  have F_Store_new_blocks := fun_mk (st := s_Store_new_blocks) l_Store_new_blocks c_Store_new_blocks k_Store_new_blocks
  have F__law_tape := fun_mk (st := s__law_tape) l__law_tape c__law_tape k__law_tape
  have F__law_at := fun_mk (st := s__law_at) l__law_at c__law_at k__law_at
  have F__law_block := fun_mk (st := s__law_block) l__law_block c__law_block k__law_block
  have F__law_is_block := fun_mk (st := s__law_is_block) l__law_is_block c__law_is_block k__law_is_block
  have F__law_put_block := fun_mk (st := s__law_put_block) l__law_put_block c__law_put_block k__law_put_block
  have F__law_store := fun_mk (st := s__law_store) l__law_store c__law_store k__law_store
  have F__law_work := fun_mk (st := s__law_work) l__law_work c__law_work k__law_work
  have F__law_choices := fun_mk (st := s__law_choices) l__law_choices c__law_choices k__law_choices
  have F__law_commit := fun_mk (st := s__law_commit) l__law_commit c__law_commit k__law_commit
  have F__law_steps := fun_mk (st := s__law_steps) l__law_steps c__law_steps k__law_steps
  have F__law_due := fun_mk (st := s__law_due) l__law_due c__law_due k__law_due
  have F__law_others := fun_mk (st := s__law_others) l__law_others c__law_others k__law_others
  have F__law_reads := fun_mk (st := s__law_reads) l__law_reads c__law_reads k__law_reads
  have F_law := fun_mk (st := s_law) l_law c_law k_law
  let A : Adr := {
    ex := { ({ } : Ex) with Disk := C_Disk, Head := C_Head, Space := C_Space, Store := C_Store, NotValid := C_NotValid, PowerOff := C_PowerOff, NoSpace := C_NoSpace, BadImage := C_BadImage },
    f_is_between := f_is_between, d_is_between := PySem.W.fnOf "is_between" "is_between" (defArgs s_is_between) (defBody s_is_between) (defScope s_is_between) .none kV_is_between dc_is_between pm_is_between an_is_between cd_is_between ct_is_between,
    f_is_word := f_is_word, d_is_word := PySem.W.fnOf "is_word" "is_word" (defArgs s_is_word) (defBody s_is_word) (defScope s_is_word) .none kV_is_word dc_is_word pm_is_word an_is_word cd_is_word ct_is_word,
    f_are_words := f_are_words, d_are_words := PySem.W.fnOf "are_words" "are_words" (defArgs s_are_words) (defBody s_are_words) (defScope s_are_words) .none kV_are_words dc_are_words pm_are_words an_are_words cd_are_words ct_are_words,
    f_Disk___init__ := f_Disk___init__, d_Disk___init__ := PySem.W.fnOf "__init__" "Disk.__init__" (defArgs s_Disk___init__) (defBody s_Disk___init__) (defScope s_Disk___init__) .none kV_Disk___init__ dc_Disk___init__ pm_Disk___init__ an_Disk___init__ cd_Disk___init__ ct_Disk___init__,
    f_Disk_read := f_Disk_read, d_Disk_read := PySem.W.fnOf "read" "Disk.read" (defArgs s_Disk_read) (defBody s_Disk_read) (defScope s_Disk_read) .none kV_Disk_read dc_Disk_read pm_Disk_read an_Disk_read cd_Disk_read ct_Disk_read,
    f_Disk_operate := f_Disk_operate, d_Disk_operate := PySem.W.fnOf "operate" "Disk.operate" (defArgs s_Disk_operate) (defBody s_Disk_operate) (defScope s_Disk_operate) .none kV_Disk_operate dc_Disk_operate pm_Disk_operate an_Disk_operate cd_Disk_operate ct_Disk_operate,
    f_Disk_write := f_Disk_write, d_Disk_write := PySem.W.fnOf "write" "Disk.write" (defArgs s_Disk_write) (defBody s_Disk_write) (defScope s_Disk_write) .none kV_Disk_write dc_Disk_write pm_Disk_write an_Disk_write cd_Disk_write ct_Disk_write,
    f_Disk_flush := f_Disk_flush, d_Disk_flush := PySem.W.fnOf "flush" "Disk.flush" (defArgs s_Disk_flush) (defBody s_Disk_flush) (defScope s_Disk_flush) .none kV_Disk_flush dc_Disk_flush pm_Disk_flush an_Disk_flush cd_Disk_flush ct_Disk_flush,
    f_Disk_waiting := f_Disk_waiting, d_Disk_waiting := PySem.W.fnOf "waiting" "Disk.waiting" (defArgs s_Disk_waiting) (defBody s_Disk_waiting) (defScope s_Disk_waiting) .none kV_Disk_waiting dc_Disk_waiting pm_Disk_waiting an_Disk_waiting cd_Disk_waiting ct_Disk_waiting,
    f_Disk_fail_after := f_Disk_fail_after, d_Disk_fail_after := PySem.W.fnOf "fail_after" "Disk.fail_after" (defArgs s_Disk_fail_after) (defBody s_Disk_fail_after) (defScope s_Disk_fail_after) .none kV_Disk_fail_after dc_Disk_fail_after pm_Disk_fail_after an_Disk_fail_after cd_Disk_fail_after ct_Disk_fail_after,
    f_Disk_cut := f_Disk_cut, d_Disk_cut := PySem.W.fnOf "cut" "Disk.cut" (defArgs s_Disk_cut) (defBody s_Disk_cut) (defScope s_Disk_cut) .none kV_Disk_cut dc_Disk_cut pm_Disk_cut an_Disk_cut cd_Disk_cut ct_Disk_cut,
    f_Head___init__ := f_Head___init__, d_Head___init__ := PySem.W.fnOf "__init__" "Head.__init__" (defArgs s_Head___init__) (defBody s_Head___init__) (defScope s_Head___init__) .none kV_Head___init__ dc_Head___init__ pm_Head___init__ an_Head___init__ cd_Head___init__ ct_Head___init__,
    f_Head_sector := f_Head_sector, d_Head_sector := PySem.W.fnOf "sector" "Head.sector" (defArgs s_Head_sector) (defBody s_Head_sector) (defScope s_Head_sector) .none kV_Head_sector dc_Head_sector pm_Head_sector an_Head_sector cd_Head_sector ct_Head_sector,
    f_place := f_place, d_place := PySem.W.fnOf "place" "place" (defArgs s_place) (defBody s_place) (defScope s_place) .none kV_place dc_place pm_place an_place cd_place ct_place,
    f_is_valid_head := f_is_valid_head, d_is_valid_head := PySem.W.fnOf "is_valid_head" "is_valid_head" (defArgs s_is_valid_head) (defBody s_is_valid_head) (defScope s_is_valid_head) .none kV_is_valid_head dc_is_valid_head pm_is_valid_head an_is_valid_head cd_is_valid_head ct_is_valid_head,
    f_log_mark := f_log_mark, d_log_mark := PySem.W.fnOf "log_mark" "log_mark" (defArgs s_log_mark) (defBody s_log_mark) (defScope s_log_mark) .none kV_log_mark dc_log_mark pm_log_mark an_log_mark cd_log_mark ct_log_mark,
    f_check_head := f_check_head, d_check_head := PySem.W.fnOf "check_head" "check_head" (defArgs s_check_head) (defBody s_check_head) (defScope s_check_head) .none kV_check_head dc_check_head pm_check_head an_check_head cd_check_head ct_check_head,
    f_present_head := f_present_head, d_present_head := PySem.W.fnOf "present_head" "present_head" (defArgs s_present_head) (defBody s_present_head) (defScope s_present_head) .none kV_present_head dc_present_head pm_present_head an_present_head cd_present_head ct_present_head,
    f_next_head := f_next_head, d_next_head := PySem.W.fnOf "next_head" "next_head" (defArgs s_next_head) (defBody s_next_head) (defScope s_next_head) .none kV_next_head dc_next_head pm_next_head an_next_head cd_next_head ct_next_head,
    f_commit_steps := f_commit_steps, d_commit_steps := PySem.W.fnOf "commit_steps" "commit_steps" (defArgs s_commit_steps) (defBody s_commit_steps) (defScope s_commit_steps) .none kV_commit_steps dc_commit_steps pm_commit_steps an_commit_steps cd_commit_steps ct_commit_steps,
    f_commit := f_commit, d_commit := PySem.W.fnOf "commit" "commit" (defArgs s_commit) (defBody s_commit) (defScope s_commit) .none kV_commit dc_commit pm_commit an_commit cd_commit ct_commit,
    f_Space___init__ := f_Space___init__, d_Space___init__ := PySem.W.fnOf "__init__" "Space.__init__" (defArgs s_Space___init__) (defBody s_Space___init__) (defScope s_Space___init__) .none kV_Space___init__ dc_Space___init__ pm_Space___init__ an_Space___init__ cd_Space___init__ ct_Space___init__,
    f_Space_count_spare := f_Space_count_spare, d_Space_count_spare := PySem.W.fnOf "count_spare" "Space.count_spare" (defArgs s_Space_count_spare) (defBody s_Space_count_spare) (defScope s_Space_count_spare) .none kV_Space_count_spare dc_Space_count_spare pm_Space_count_spare an_Space_count_spare cd_Space_count_spare ct_Space_count_spare,
    f_Space_check_block := f_Space_check_block, d_Space_check_block := PySem.W.fnOf "check_block" "Space.check_block" (defArgs s_Space_check_block) (defBody s_Space_check_block) (defScope s_Space_check_block) .none kV_Space_check_block dc_Space_check_block pm_Space_check_block an_Space_check_block cd_Space_check_block ct_Space_check_block,
    f_Space_least_free := f_Space_least_free, d_Space_least_free := PySem.W.fnOf "least_free" "Space.least_free" (defArgs s_Space_least_free) (defBody s_Space_least_free) (defScope s_Space_least_free) .none kV_Space_least_free dc_Space_least_free pm_Space_least_free an_Space_least_free cd_Space_least_free ct_Space_least_free,
    f_Space_take := f_Space_take, d_Space_take := PySem.W.fnOf "take" "Space.take" (defArgs s_Space_take) (defBody s_Space_take) (defScope s_Space_take) .none kV_Space_take dc_Space_take pm_Space_take an_Space_take cd_Space_take ct_Space_take,
    f_Space_share := f_Space_share, d_Space_share := PySem.W.fnOf "share" "Space.share" (defArgs s_Space_share) (defBody s_Space_share) (defScope s_Space_share) .none kV_Space_share dc_Space_share pm_Space_share an_Space_share cd_Space_share ct_Space_share,
    f_Space_drop := f_Space_drop, d_Space_drop := PySem.W.fnOf "drop" "Space.drop" (defArgs s_Space_drop) (defBody s_Space_drop) (defScope s_Space_drop) .none kV_Space_drop dc_Space_drop pm_Space_drop an_Space_drop cd_Space_drop ct_Space_drop,
    f_Space_uses := f_Space_uses, d_Space_uses := PySem.W.fnOf "uses" "Space.uses" (defArgs s_Space_uses) (defBody s_Space_uses) (defScope s_Space_uses) .none kV_Space_uses dc_Space_uses pm_Space_uses an_Space_uses cd_Space_uses ct_Space_uses,
    f_Space_is_new := f_Space_is_new, d_Space_is_new := PySem.W.fnOf "is_new" "Space.is_new" (defArgs s_Space_is_new) (defBody s_Space_is_new) (defScope s_Space_is_new) .none kV_Space_is_new dc_Space_is_new pm_Space_is_new an_Space_is_new cd_Space_is_new ct_Space_is_new,
    f_Space_is_free := f_Space_is_free, d_Space_is_free := PySem.W.fnOf "is_free" "Space.is_free" (defArgs s_Space_is_free) (defBody s_Space_is_free) (defScope s_Space_is_free) .none kV_Space_is_free dc_Space_is_free pm_Space_is_free an_Space_is_free cd_Space_is_free ct_Space_is_free,
    f_Space_settle := f_Space_settle, d_Space_settle := PySem.W.fnOf "settle" "Space.settle" (defArgs s_Space_settle) (defBody s_Space_settle) (defScope s_Space_settle) .none kV_Space_settle dc_Space_settle pm_Space_settle an_Space_settle cd_Space_settle ct_Space_settle,
    f_Store___init__ := f_Store___init__, d_Store___init__ := PySem.W.fnOf "__init__" "Store.__init__" (defArgs s_Store___init__) (defBody s_Store___init__) (defScope s_Store___init__) .none kV_Store___init__ dc_Store___init__ pm_Store___init__ an_Store___init__ cd_Store___init__ ct_Store___init__,
    f_Store_generation := f_Store_generation, d_Store_generation := PySem.W.fnOf "generation" "Store.generation" (defArgs s_Store_generation) (defBody s_Store_generation) (defScope s_Store_generation) .none kV_Store_generation dc_Store_generation pm_Store_generation an_Store_generation cd_Store_generation ct_Store_generation,
    f_Store_use_table := f_Store_use_table, d_Store_use_table := PySem.W.fnOf "use_table" "Store.use_table" (defArgs s_Store_use_table) (defBody s_Store_use_table) (defScope s_Store_use_table) .none kV_Store_use_table dc_Store_use_table pm_Store_use_table an_Store_use_table cd_Store_use_table ct_Store_use_table,
    f_Store_use_reserve := f_Store_use_reserve, d_Store_use_reserve := PySem.W.fnOf "use_reserve" "Store.use_reserve" (defArgs s_Store_use_reserve) (defBody s_Store_use_reserve) (defScope s_Store_use_reserve) .none kV_Store_use_reserve dc_Store_use_reserve pm_Store_use_reserve an_Store_use_reserve cd_Store_use_reserve ct_Store_use_reserve,
    f_Store_read := f_Store_read, d_Store_read := PySem.W.fnOf "read" "Store.read" (defArgs s_Store_read) (defBody s_Store_read) (defScope s_Store_read) .none kV_Store_read dc_Store_read pm_Store_read an_Store_read cd_Store_read ct_Store_read,
    f_Store_make := f_Store_make, d_Store_make := PySem.W.fnOf "make" "Store.make" (defArgs s_Store_make) (defBody s_Store_make) (defScope s_Store_make) .none kV_Store_make dc_Store_make pm_Store_make an_Store_make cd_Store_make ct_Store_make,
    f_Store_is_new := f_Store_is_new, d_Store_is_new := PySem.W.fnOf "is_new" "Store.is_new" (defArgs s_Store_is_new) (defBody s_Store_is_new) (defScope s_Store_is_new) .none kV_Store_is_new dc_Store_is_new pm_Store_is_new an_Store_is_new cd_Store_is_new ct_Store_is_new,
    f_Store_write := f_Store_write, d_Store_write := PySem.W.fnOf "write" "Store.write" (defArgs s_Store_write) (defBody s_Store_write) (defScope s_Store_write) .none kV_Store_write dc_Store_write pm_Store_write an_Store_write cd_Store_write ct_Store_write,
    f_Store_share := f_Store_share, d_Store_share := PySem.W.fnOf "share" "Store.share" (defArgs s_Store_share) (defBody s_Store_share) (defScope s_Store_share) .none kV_Store_share dc_Store_share pm_Store_share an_Store_share cd_Store_share ct_Store_share,
    f_Store_drop := f_Store_drop, d_Store_drop := PySem.W.fnOf "drop" "Store.drop" (defArgs s_Store_drop) (defBody s_Store_drop) (defScope s_Store_drop) .none kV_Store_drop dc_Store_drop pm_Store_drop an_Store_drop cd_Store_drop ct_Store_drop,
    f_Store_uses := f_Store_uses, d_Store_uses := PySem.W.fnOf "uses" "Store.uses" (defArgs s_Store_uses) (defBody s_Store_uses) (defScope s_Store_uses) .none kV_Store_uses dc_Store_uses pm_Store_uses an_Store_uses cd_Store_uses ct_Store_uses,
    f_Store_new_blocks := f_Store_new_blocks, d_Store_new_blocks := PySem.W.fnOf "new_blocks" "Store.new_blocks" (defArgs s_Store_new_blocks) (defBody s_Store_new_blocks) (defScope s_Store_new_blocks) .none kV_Store_new_blocks dc_Store_new_blocks pm_Store_new_blocks an_Store_new_blocks cd_Store_new_blocks ct_Store_new_blocks,
    f__law_tape := f__law_tape, d__law_tape := PySem.W.fnOf "_law_tape" "_law_tape" (defArgs s__law_tape) (defBody s__law_tape) (defScope s__law_tape) .none kV__law_tape dc__law_tape pm__law_tape an__law_tape cd__law_tape ct__law_tape,
    f__law_at := f__law_at, d__law_at := PySem.W.fnOf "_law_at" "_law_at" (defArgs s__law_at) (defBody s__law_at) (defScope s__law_at) .none kV__law_at dc__law_at pm__law_at an__law_at cd__law_at ct__law_at,
    f__law_block := f__law_block, d__law_block := PySem.W.fnOf "_law_block" "_law_block" (defArgs s__law_block) (defBody s__law_block) (defScope s__law_block) .none kV__law_block dc__law_block pm__law_block an__law_block cd__law_block ct__law_block,
    f__law_is_block := f__law_is_block, d__law_is_block := PySem.W.fnOf "_law_is_block" "_law_is_block" (defArgs s__law_is_block) (defBody s__law_is_block) (defScope s__law_is_block) .none kV__law_is_block dc__law_is_block pm__law_is_block an__law_is_block cd__law_is_block ct__law_is_block,
    f__law_put_block := f__law_put_block, d__law_put_block := PySem.W.fnOf "_law_put_block" "_law_put_block" (defArgs s__law_put_block) (defBody s__law_put_block) (defScope s__law_put_block) .none kV__law_put_block dc__law_put_block pm__law_put_block an__law_put_block cd__law_put_block ct__law_put_block,
    f__law_store := f__law_store, d__law_store := PySem.W.fnOf "_law_store" "_law_store" (defArgs s__law_store) (defBody s__law_store) (defScope s__law_store) .none kV__law_store dc__law_store pm__law_store an__law_store cd__law_store ct__law_store,
    f__law_work := f__law_work, d__law_work := PySem.W.fnOf "_law_work" "_law_work" (defArgs s__law_work) (defBody s__law_work) (defScope s__law_work) .none kV__law_work dc__law_work pm__law_work an__law_work cd__law_work ct__law_work,
    f__law_choices := f__law_choices, d__law_choices := PySem.W.fnOf "_law_choices" "_law_choices" (defArgs s__law_choices) (defBody s__law_choices) (defScope s__law_choices) .none kV__law_choices dc__law_choices pm__law_choices an__law_choices cd__law_choices ct__law_choices,
    f__law_commit := f__law_commit, d__law_commit := PySem.W.fnOf "_law_commit" "_law_commit" (defArgs s__law_commit) (defBody s__law_commit) (defScope s__law_commit) .none kV__law_commit dc__law_commit pm__law_commit an__law_commit cd__law_commit ct__law_commit,
    f__law_steps := f__law_steps, d__law_steps := PySem.W.fnOf "_law_steps" "_law_steps" (defArgs s__law_steps) (defBody s__law_steps) (defScope s__law_steps) .none kV__law_steps dc__law_steps pm__law_steps an__law_steps cd__law_steps ct__law_steps,
    f__law_due := f__law_due, d__law_due := PySem.W.fnOf "_law_due" "_law_due" (defArgs s__law_due) (defBody s__law_due) (defScope s__law_due) .none kV__law_due dc__law_due pm__law_due an__law_due cd__law_due ct__law_due,
    f__law_others := f__law_others, d__law_others := PySem.W.fnOf "_law_others" "_law_others" (defArgs s__law_others) (defBody s__law_others) (defScope s__law_others) .none kV__law_others dc__law_others pm__law_others an__law_others cd__law_others ct__law_others,
    f__law_reads := f__law_reads, d__law_reads := PySem.W.fnOf "_law_reads" "_law_reads" (defArgs s__law_reads) (defBody s__law_reads) (defScope s__law_reads) .none kV__law_reads dc__law_reads pm__law_reads an__law_reads cd__law_reads ct__law_reads,
    f_law := fa, d_law := PySem.W.fnOf "law" "law" (defArgs s_law) (defBody s_law) (defScope s_law) .none kV_law dc_law pm_law an_law cd_law ct_law }
  have T : Top K mg A := {
    F_is_between := F_is_between,
    b_is_between := F_is_between.binds (ps := ["value", "low", "high"]) fun _ _ _ _ _ _ us hl => match us, hl with | [_, _, _], _ => rfl,
    g_is_between := PySem.W.mg_of X G a_is_between,
    F_is_word := F_is_word,
    b_is_word := F_is_word.binds (ps := ["value"]) fun _ _ _ _ _ _ us hl => match us, hl with | [_], _ => rfl,
    g_is_word := PySem.W.mg_of X G a_is_word,
    F_are_words := F_are_words,
    b_are_words := F_are_words.binds (ps := ["values", "many"]) fun _ _ _ _ _ _ us hl => match us, hl with | [_, _], _ => rfl,
    g_are_words := PySem.W.mg_of X G a_are_words,
    F_Disk___init__ := F_Disk___init__,
    b_Disk___init__ := F_Disk___init__.binds (ps := ["self", "blocks"]) fun _ _ _ _ _ _ us hl => match us, hl with | [_, _], _ => rfl,
    F_Disk_read := F_Disk_read,
    b_Disk_read := F_Disk_read.binds (ps := ["self", "sector"]) fun _ _ _ _ _ _ us hl => match us, hl with | [_, _], _ => rfl,
    m_Disk_read := ⟨a_Disk_read, i_Disk_read, k_Disk_read⟩,
    F_Disk_operate := F_Disk_operate,
    b_Disk_operate := F_Disk_operate.binds (ps := ["self"]) fun _ _ _ _ _ _ us hl => match us, hl with | [_], _ => rfl,
    m_Disk_operate := ⟨a_Disk_operate, i_Disk_operate, k_Disk_operate⟩,
    F_Disk_write := F_Disk_write,
    b_Disk_write := F_Disk_write.binds (ps := ["self", "sector", "words"]) fun _ _ _ _ _ _ us hl => match us, hl with | [_, _, _], _ => rfl,
    m_Disk_write := ⟨a_Disk_write, i_Disk_write, k_Disk_write⟩,
    F_Disk_flush := F_Disk_flush,
    b_Disk_flush := F_Disk_flush.binds (ps := ["self"]) fun _ _ _ _ _ _ us hl => match us, hl with | [_], _ => rfl,
    m_Disk_flush := ⟨a_Disk_flush, i_Disk_flush, k_Disk_flush⟩,
    F_Disk_waiting := F_Disk_waiting,
    b_Disk_waiting := F_Disk_waiting.binds (ps := ["self"]) fun _ _ _ _ _ _ us hl => match us, hl with | [_], _ => rfl,
    m_Disk_waiting := ⟨a_Disk_waiting, i_Disk_waiting, k_Disk_waiting⟩,
    F_Disk_fail_after := F_Disk_fail_after,
    b_Disk_fail_after := F_Disk_fail_after.binds (ps := ["self", "count"]) fun _ _ _ _ _ _ us hl => match us, hl with | [_, _], _ => rfl,
    m_Disk_fail_after := ⟨a_Disk_fail_after, i_Disk_fail_after, k_Disk_fail_after⟩,
    F_Disk_cut := F_Disk_cut,
    b_Disk_cut := F_Disk_cut.binds (ps := ["self", "choices"]) fun _ _ _ _ _ _ us hl => match us, hl with | [_, _], _ => rfl,
    m_Disk_cut := ⟨a_Disk_cut, i_Disk_cut, k_Disk_cut⟩,
    F_Head___init__ := F_Head___init__,
    b_Head___init__ := F_Head___init__.binds (ps := ["self", "generation", "table", "blocks"]) fun _ _ _ _ _ _ us hl => match us, hl with | [_, _, _, _], _ => rfl,
    F_Head_sector := F_Head_sector,
    b_Head_sector := F_Head_sector.binds (ps := ["self"]) fun _ _ _ _ _ _ us hl => match us, hl with | [_], _ => rfl,
    m_Head_sector := ⟨a_Head_sector, i_Head_sector, k_Head_sector⟩,
    F_place := F_place,
    b_place := F_place.binds (ps := ["generation"]) fun _ _ _ _ _ _ us hl => match us, hl with | [_], _ => rfl,
    g_place := PySem.W.mg_of X G a_place,
    F_is_valid_head := F_is_valid_head,
    b_is_valid_head := F_is_valid_head.binds (ps := ["sector", "words"]) fun _ _ _ _ _ _ us hl => match us, hl with | [_, _], _ => rfl,
    g_is_valid_head := PySem.W.mg_of X G a_is_valid_head,
    F_log_mark := F_log_mark,
    b_log_mark := F_log_mark.binds (ps := ["disk"]) fun _ _ _ _ _ _ us hl => match us, hl with | [_], _ => rfl,
    g_log_mark := PySem.W.mg_of X G a_log_mark,
    F_check_head := F_check_head,
    b_check_head := F_check_head.binds (ps := ["words", "blocks"]) fun _ _ _ _ _ _ us hl => match us, hl with | [_, _], _ => rfl,
    g_check_head := PySem.W.mg_of X G a_check_head,
    F_present_head := F_present_head,
    b_present_head := F_present_head.binds (ps := ["disk"]) fun _ _ _ _ _ _ us hl => match us, hl with | [_], _ => rfl,
    g_present_head := PySem.W.mg_of X G a_present_head,
    F_next_head := F_next_head,
    b_next_head := F_next_head.binds (ps := ["store"]) fun _ _ _ _ _ _ us hl => match us, hl with | [_], _ => rfl,
    g_next_head := PySem.W.mg_of X G a_next_head,
    F_commit_steps := F_commit_steps,
    b_commit_steps := F_commit_steps.binds (ps := ["store"]) fun _ _ _ _ _ _ us hl => match us, hl with | [_], _ => rfl,
    g_commit_steps := PySem.W.mg_of X G a_commit_steps,
    F_commit := F_commit,
    b_commit := F_commit.binds (ps := ["store"]) fun _ _ _ _ _ _ us hl => match us, hl with | [_], _ => rfl,
    g_commit := PySem.W.mg_of X G a_commit,
    F_Space___init__ := F_Space___init__,
    b_Space___init__ := F_Space___init__.binds (ps := ["self", "uses"]) fun _ _ _ _ _ _ us hl => match us, hl with | [_, _], _ => rfl,
    F_Space_count_spare := F_Space_count_spare,
    b_Space_count_spare := F_Space_count_spare.binds (ps := ["self"]) fun _ _ _ _ _ _ us hl => match us, hl with | [_], _ => rfl,
    m_Space_count_spare := ⟨a_Space_count_spare, i_Space_count_spare, k_Space_count_spare⟩,
    F_Space_check_block := F_Space_check_block,
    b_Space_check_block := F_Space_check_block.binds (ps := ["self", "block"]) fun _ _ _ _ _ _ us hl => match us, hl with | [_, _], _ => rfl,
    m_Space_check_block := ⟨a_Space_check_block, i_Space_check_block, k_Space_check_block⟩,
    F_Space_least_free := F_Space_least_free,
    b_Space_least_free := F_Space_least_free.binds (ps := ["self"]) fun _ _ _ _ _ _ us hl => match us, hl with | [_], _ => rfl,
    m_Space_least_free := ⟨a_Space_least_free, i_Space_least_free, k_Space_least_free⟩,
    F_Space_take := F_Space_take,
    b_Space_take := F_Space_take.binds (ps := ["self", "reserve"]) fun _ _ _ _ _ _ us hl => match us, hl with | [_, _], _ => rfl,
    m_Space_take := ⟨a_Space_take, i_Space_take, k_Space_take⟩,
    F_Space_share := F_Space_share,
    b_Space_share := F_Space_share.binds (ps := ["self", "block"]) fun _ _ _ _ _ _ us hl => match us, hl with | [_, _], _ => rfl,
    m_Space_share := ⟨a_Space_share, i_Space_share, k_Space_share⟩,
    F_Space_drop := F_Space_drop,
    b_Space_drop := F_Space_drop.binds (ps := ["self", "block"]) fun _ _ _ _ _ _ us hl => match us, hl with | [_, _], _ => rfl,
    m_Space_drop := ⟨a_Space_drop, i_Space_drop, k_Space_drop⟩,
    F_Space_uses := F_Space_uses,
    b_Space_uses := F_Space_uses.binds (ps := ["self", "block"]) fun _ _ _ _ _ _ us hl => match us, hl with | [_, _], _ => rfl,
    m_Space_uses := ⟨a_Space_uses, i_Space_uses, k_Space_uses⟩,
    F_Space_is_new := F_Space_is_new,
    b_Space_is_new := F_Space_is_new.binds (ps := ["self", "block"]) fun _ _ _ _ _ _ us hl => match us, hl with | [_, _], _ => rfl,
    m_Space_is_new := ⟨a_Space_is_new, i_Space_is_new, k_Space_is_new⟩,
    F_Space_is_free := F_Space_is_free,
    b_Space_is_free := F_Space_is_free.binds (ps := ["self", "block"]) fun _ _ _ _ _ _ us hl => match us, hl with | [_, _], _ => rfl,
    m_Space_is_free := ⟨a_Space_is_free, i_Space_is_free, k_Space_is_free⟩,
    F_Space_settle := F_Space_settle,
    b_Space_settle := F_Space_settle.binds (ps := ["self"]) fun _ _ _ _ _ _ us hl => match us, hl with | [_], _ => rfl,
    m_Space_settle := ⟨a_Space_settle, i_Space_settle, k_Space_settle⟩,
    F_Store___init__ := F_Store___init__,
    b_Store___init__ := F_Store___init__.binds (ps := ["self", "disk", "head", "space"]) fun _ _ _ _ _ _ us hl => match us, hl with | [_, _, _, _], _ => rfl,
    F_Store_generation := F_Store_generation,
    b_Store_generation := F_Store_generation.binds (ps := ["self"]) fun _ _ _ _ _ _ us hl => match us, hl with | [_], _ => rfl,
    m_Store_generation := ⟨a_Store_generation, i_Store_generation, k_Store_generation⟩,
    F_Store_use_table := F_Store_use_table,
    b_Store_use_table := F_Store_use_table.binds (ps := ["self", "pointer"]) fun _ _ _ _ _ _ us hl => match us, hl with | [_, _], _ => rfl,
    m_Store_use_table := ⟨a_Store_use_table, i_Store_use_table, k_Store_use_table⟩,
    F_Store_use_reserve := F_Store_use_reserve,
    b_Store_use_reserve := F_Store_use_reserve.binds (ps := ["self", "reserve"]) fun _ _ _ _ _ _ us hl => match us, hl with | [_, _], _ => rfl,
    m_Store_use_reserve := ⟨a_Store_use_reserve, i_Store_use_reserve, k_Store_use_reserve⟩,
    F_Store_read := F_Store_read,
    b_Store_read := F_Store_read.binds (ps := ["self", "pointer"]) fun _ _ _ _ _ _ us hl => match us, hl with | [_, _], _ => rfl,
    m_Store_read := ⟨a_Store_read, i_Store_read, k_Store_read⟩,
    F_Store_make := F_Store_make,
    b_Store_make := F_Store_make.binds (ps := ["self", "words"]) fun _ _ _ _ _ _ us hl => match us, hl with | [_, _], _ => rfl,
    m_Store_make := ⟨a_Store_make, i_Store_make, k_Store_make⟩,
    F_Store_is_new := F_Store_is_new,
    b_Store_is_new := F_Store_is_new.binds (ps := ["self", "pointer"]) fun _ _ _ _ _ _ us hl => match us, hl with | [_, _], _ => rfl,
    m_Store_is_new := ⟨a_Store_is_new, i_Store_is_new, k_Store_is_new⟩,
    F_Store_write := F_Store_write,
    b_Store_write := F_Store_write.binds (ps := ["self", "pointer", "words"]) fun _ _ _ _ _ _ us hl => match us, hl with | [_, _, _], _ => rfl,
    m_Store_write := ⟨a_Store_write, i_Store_write, k_Store_write⟩,
    F_Store_share := F_Store_share,
    b_Store_share := F_Store_share.binds (ps := ["self", "pointer"]) fun _ _ _ _ _ _ us hl => match us, hl with | [_, _], _ => rfl,
    m_Store_share := ⟨a_Store_share, i_Store_share, k_Store_share⟩,
    F_Store_drop := F_Store_drop,
    b_Store_drop := F_Store_drop.binds (ps := ["self", "pointer"]) fun _ _ _ _ _ _ us hl => match us, hl with | [_, _], _ => rfl,
    m_Store_drop := ⟨a_Store_drop, i_Store_drop, k_Store_drop⟩,
    F_Store_uses := F_Store_uses,
    b_Store_uses := F_Store_uses.binds (ps := ["self", "pointer"]) fun _ _ _ _ _ _ us hl => match us, hl with | [_, _], _ => rfl,
    m_Store_uses := ⟨a_Store_uses, i_Store_uses, k_Store_uses⟩,
    F_Store_new_blocks := F_Store_new_blocks,
    b_Store_new_blocks := F_Store_new_blocks.binds (ps := ["self"]) fun _ _ _ _ _ _ us hl => match us, hl with | [_], _ => rfl,
    m_Store_new_blocks := ⟨a_Store_new_blocks, i_Store_new_blocks, k_Store_new_blocks⟩,
    F__law_tape := F__law_tape,
    b__law_tape := F__law_tape.binds (ps := ["_law_script"]) fun _ _ _ _ _ _ us hl => match us, hl with | [_], _ => rfl,
    g__law_tape := PySem.W.mg_of X G a__law_tape,
    F__law_at := F__law_at,
    b__law_at := F__law_at.binds (ps := ["_law_tape_here", "_law_k"]) fun _ _ _ _ _ _ us hl => match us, hl with | [_, _], _ => rfl,
    g__law_at := PySem.W.mg_of X G a__law_at,
    F__law_block := F__law_block,
    b__law_block := F__law_block.binds (ps := ["_law_number", "_law_extra"]) fun _ _ _ _ _ _ us hl => match us, hl with | [_, _], _ => rfl,
    g__law_block := PySem.W.mg_of X G a__law_block,
    F__law_is_block := F__law_is_block,
    b__law_is_block := F__law_is_block.binds (ps := ["_law_told", "_law_due_here"]) fun _ _ _ _ _ _ us hl => match us, hl with | [_, _], _ => rfl,
    g__law_is_block := PySem.W.mg_of X G a__law_is_block,
    F__law_put_block := F__law_put_block,
    b__law_put_block := F__law_put_block.binds (ps := ["_law_disk", "_law_number", "_law_words"]) fun _ _ _ _ _ _ us hl => match us, hl with | [_, _, _], _ => rfl,
    g__law_put_block := PySem.W.mg_of X G a__law_put_block,
    F__law_store := F__law_store,
    b__law_store := F__law_store.binds (ps := ["_law_tape_here", "_law_generation"]) fun _ _ _ _ _ _ us hl => match us, hl with | [_, _], _ => rfl,
    g__law_store := PySem.W.mg_of X G a__law_store,
    F__law_work := F__law_work,
    b__law_work := F__law_work.binds (ps := ["_law_store_here", "_law_tape_here", "_law_start", "_law_many"]) fun _ _ _ _ _ _ us hl => match us, hl with | [_, _, _, _], _ => rfl,
    g__law_work := PySem.W.mg_of X G a__law_work,
    F__law_choices := F__law_choices,
    b__law_choices := F__law_choices.binds (ps := ["_law_tape_here", "_law_start", "_law_many"]) fun _ _ _ _ _ _ us hl => match us, hl with | [_, _, _], _ => rfl,
    g__law_choices := PySem.W.mg_of X G a__law_choices,
    F__law_commit := F__law_commit,
    b__law_commit := F__law_commit.binds (ps := ["_law_store_here"]) fun _ _ _ _ _ _ us hl => match us, hl with | [_], _ => rfl,
    g__law_commit := PySem.W.mg_of X G a__law_commit,
    F__law_steps := F__law_steps,
    b__law_steps := F__law_steps.binds (ps := ["_law_store_here"]) fun _ _ _ _ _ _ us hl => match us, hl with | [_], _ => rfl,
    g__law_steps := PySem.W.mg_of X G a__law_steps,
    F__law_due := F__law_due,
    b__law_due := F__law_due.binds (ps := ["_law_store_here"]) fun _ _ _ _ _ _ us hl => match us, hl with | [_], _ => rfl,
    g__law_due := PySem.W.mg_of X G a__law_due,
    F__law_others := F__law_others,
    b__law_others := F__law_others.binds (ps := ["_law_disk", "_law_generation"]) fun _ _ _ _ _ _ us hl => match us, hl with | [_, _], _ => rfl,
    g__law_others := PySem.W.mg_of X G a__law_others,
    F__law_reads := F__law_reads,
    b__law_reads := F__law_reads.binds (ps := ["_law_disk", "_law_contents"]) fun _ _ _ _ _ _ us hl => match us, hl with | [_, _], _ => rfl,
    g__law_reads := PySem.W.mg_of X G a__law_reads,
    F_law := F_law,
    b_law := F_law.binds (ps := ["_law_script"]) fun _ _ _ _ _ _ us hl => match us, hl with | [_], _ => rfl,
    g_law := PySem.W.mg_of X G a_law,
    c_Disk := ⟨pg_Disk, hd_Disk, po_Disk, sa_Disk⟩,
    M_Disk := ⟨mk_Disk, a_Disk___init__, i_Disk___init__, kc_Disk⟩,
    gC_Disk := PySem.W.mg_of X G aC_Disk,
    c_Head := ⟨pg_Head, hd_Head, po_Head, sa_Head⟩,
    M_Head := ⟨mk_Head, a_Head___init__, i_Head___init__, kc_Head⟩,
    gC_Head := PySem.W.mg_of X G aC_Head,
    c_Space := ⟨pg_Space, hd_Space, po_Space, sa_Space⟩,
    M_Space := ⟨mk_Space, a_Space___init__, i_Space___init__, kc_Space⟩,
    gC_Space := PySem.W.mg_of X G aC_Space,
    c_Store := ⟨pg_Store, hd_Store, po_Store, sa_Store⟩,
    M_Store := ⟨mk_Store, a_Store___init__, i_Store___init__, kc_Store⟩,
    gC_Store := PySem.W.mg_of X G aC_Store,
    n_abs := PySem.W.mg_none_of X G n_abs,
    n_bool := PySem.W.mg_none_of X G n_bool,
    n_enumerate := PySem.W.mg_none_of X G n_enumerate,
    n_int := PySem.W.mg_none_of X G n_int,
    n_isinstance := PySem.W.mg_none_of X G n_isinstance,
    n_len := PySem.W.mg_none_of X G n_len,
    n_list := PySem.W.mg_none_of X G n_list,
    n_max := PySem.W.mg_none_of X G n_max,
    n_min := PySem.W.mg_none_of X G n_min,
    n_range := PySem.W.mg_none_of X G n_range,
    n_sorted := PySem.W.mg_none_of X G n_sorted,
    n_zip := PySem.W.mg_none_of X G n_zip,
    k_ADD := ⟨_, PySem.W.mg_of X G kc_ADD⟩,
    k_BLOCK_SECTORS := ⟨_, PySem.W.mg_of X G kc_BLOCK_SECTORS⟩,
    k_BLOCK_WORDS := ⟨_, PySem.W.mg_of X G kc_BLOCK_WORDS⟩,
    k_FIRST_BLOCK := ⟨_, PySem.W.mg_of X G kc_FIRST_BLOCK⟩,
    k_FIRST_SECTOR := ⟨_, PySem.W.mg_of X G kc_FIRST_SECTOR⟩,
    k_LOG_BLOCKS := ⟨_, PySem.W.mg_of X G kc_LOG_BLOCKS⟩,
    k_LOG_SECTORS := ⟨_, PySem.W.mg_of X G kc_LOG_SECTORS⟩,
    k_MAX_BLOCKS := ⟨_, PySem.W.mg_of X G kc_MAX_BLOCKS⟩,
    k_MAX_COUNT := ⟨_, PySem.W.mg_of X G kc_MAX_COUNT⟩,
    k_MIN_BLOCKS := ⟨_, PySem.W.mg_of X G kc_MIN_BLOCKS⟩,
    k_SECTOR_WORDS := ⟨_, PySem.W.mg_of X G kc_SECTOR_WORDS⟩,
    x_BadImage := ⟨ex_BadImage, PySem.W.mg_of X G aC_BadImage, kc_BadImage, sb_BadImage, ty_BadImage⟩,
    x_NoSpace := ⟨ex_NoSpace, PySem.W.mg_of X G aC_NoSpace, kc_NoSpace, sb_NoSpace, ty_NoSpace⟩,
    x_NotValid := ⟨ex_NotValid, PySem.W.mg_of X G aC_NotValid, kc_NotValid, sb_NotValid, ty_NotValid⟩,
    x_PowerOff := ⟨ex_PowerOff, PySem.W.mg_of X G aC_PowerOff, kc_PowerOff, sb_PowerOff, ty_PowerOff⟩,
    n_Disk_blocks := nf_Disk_blocks,
    n_Disk_left := nf_Disk_left,
    n_Disk_newest := nf_Disk_newest,
    n_Disk_power := nf_Disk_power,
    n_Disk_sectors := nf_Disk_sectors,
    n_Disk_writes := nf_Disk_writes,
    n_Head_blocks := nf_Head_blocks,
    n_Head_generation := nf_Head_generation,
    n_Head_table := nf_Head_table,
    n_Space_blocks := nf_Space_blocks,
    n_Space_held := nf_Space_held,
    n_Space_low := nf_Space_low,
    n_Space_numbers := nf_Space_numbers,
    n_Space_spare := nf_Space_spare,
    n_Store_disk := nf_Store_disk,
    n_Store_head := nf_Store_head,
    n_Store_memory := nf_Store_memory,
    n_Store_reserve := nf_Store_reserve,
    n_Store_space := nf_Store_space,
    n_Store_table := nf_Store_table,
    fa := { fa0 := trivial, te_NotValid_PowerOff := PySem.W.exm_ref sb_PowerOff hx_PowerOff ty_PowerOff su_NotValid_PowerOff, te_PowerOff_PowerOff := PySem.W.exm_ref sb_PowerOff hx_PowerOff ty_PowerOff su_PowerOff_PowerOff, te_NoSpace_PowerOff := PySem.W.exm_ref sb_PowerOff hx_PowerOff ty_PowerOff su_NoSpace_PowerOff, te_BadImage_PowerOff := PySem.W.exm_ref sb_PowerOff hx_PowerOff ty_PowerOff su_BadImage_PowerOff } }
  exact ⟨_, fun s v => .of_eq rfl, fun base _ _ => ok_law (A := A) T⟩
theorem walk {l : PySem.W.OpenLaw} {q : Program} {loose : List Str} {XP : (Str → Option Value) → Heap → Prop} {YP : World → Heap → Prop} {d : DefRec} {K : Params → PySem.W.Frag} (hn : l.most = some 63) (hdf : d.params.defaults = [])
    (hY : ∀ (w : World) (h : Heap), YP w h → (K w.params).In h)
    (F : ∀ (w : World) (mg : Str → Option Value) (fa : Addr) (h : Heap), (K w.params).In h → h.Ns mainGlobals mg → mg d.name = some (.ref fa) →
      ∃ fd : FuncData, (∀ (s : Shared) (u : Value), BindsTo s fd ⟨[u], []⟩ [("_law_script", u)]) ∧ ∀ base : Heap, (K w.params).In base → base.Ns mainGlobals mg → FnOk l.prog w (K w.params) mg base (L2.CX l.prog w) 7 fa fd ["_law_script"] (spLaw (K w.params))) :
    PySem.W.WalkO q loose XP YP l.row.toRowW d [] (fun f vs => PySem.call f vs) :=
  L2.walk_of (n := 63) (k := 7) (x := "_law_script") (CX := fun w => L2.CX l.prog w) (sp := fun w => spLaw (K w.params)) hn (by decide) hdf ⟨rfl, by decide, by decide⟩ hY F (fun _ _ a ns hl _ hS => ⟨_, rfl, a, ns, rfl, hS, hl, fun _ => rfl⟩) fun _ _ _ _ _ ⟨_, _, _, _, _, _, _, _, _, _, _, _, z⟩ => z
end Lam
open PySem PySem.W PyProof.Rows
set_option maxRecDepth 100000 in
set_option maxHeartbeats 0 in
theorem PySem.Challenge.cw_laminae_k60_whole_commit_cut_holds : PySem.Challenge.rw_laminae_k60_whole_commit_cut.Holds := by
  w_on; o_law; k_head; (case hw => w_witness2)
  k_fill
  refine Lam.walk (l := PySem.Challenge.rw_laminae_k60_whole_commit_cut) rfl rfl (fun w h Y => PySem.W.kIn_of Y) ?F
  case F =>
    intro w mg fa h KX G hmg
    refine' Lam.all_mk KX G hmg ?aC_Disk ?aC_Head ?aC_Space ?aC_Store ?aC_BadImage ?aC_NoSpace ?aC_NotValid ?aC_PowerOff ?a_is_between ?l_is_between ?c_is_between ?k_is_between ?a_is_word ?l_is_word ?c_is_word ?k_is_word ?a_are_words ?l_are_words ?c_are_words ?k_are_words ?a_Disk___init__ ?i_Disk___init__ ?l_Disk___init__ ?c_Disk___init__ ?k_Disk___init__ ?a_Disk_read ?i_Disk_read ?l_Disk_read ?c_Disk_read ?k_Disk_read ?a_Disk_operate ?i_Disk_operate ?l_Disk_operate ?c_Disk_operate ?k_Disk_operate ?a_Disk_write ?i_Disk_write ?l_Disk_write ?c_Disk_write ?k_Disk_write ?a_Disk_flush ?i_Disk_flush ?l_Disk_flush ?c_Disk_flush ?k_Disk_flush ?a_Disk_waiting ?i_Disk_waiting ?l_Disk_waiting ?c_Disk_waiting ?k_Disk_waiting ?a_Disk_fail_after ?i_Disk_fail_after ?l_Disk_fail_after ?c_Disk_fail_after ?k_Disk_fail_after ?a_Disk_cut ?i_Disk_cut ?l_Disk_cut ?c_Disk_cut ?k_Disk_cut ?a_Head___init__ ?i_Head___init__ ?l_Head___init__ ?c_Head___init__ ?k_Head___init__ ?a_Head_sector ?i_Head_sector ?l_Head_sector ?c_Head_sector ?k_Head_sector ?a_place ?l_place ?c_place ?k_place ?a_is_valid_head ?l_is_valid_head ?c_is_valid_head ?k_is_valid_head ?a_log_mark ?l_log_mark ?c_log_mark ?k_log_mark ?a_check_head ?l_check_head ?c_check_head ?k_check_head ?a_present_head ?l_present_head ?c_present_head ?k_present_head ?a_next_head ?l_next_head ?c_next_head ?k_next_head ?a_commit_steps ?l_commit_steps ?c_commit_steps ?k_commit_steps ?a_commit ?l_commit ?c_commit ?k_commit ?a_Space___init__ ?i_Space___init__ ?l_Space___init__ ?c_Space___init__ ?k_Space___init__ ?a_Space_count_spare ?i_Space_count_spare ?l_Space_count_spare ?c_Space_count_spare ?k_Space_count_spare ?a_Space_check_block ?i_Space_check_block ?l_Space_check_block ?c_Space_check_block ?k_Space_check_block ?a_Space_least_free ?i_Space_least_free ?l_Space_least_free ?c_Space_least_free ?k_Space_least_free ?a_Space_take ?i_Space_take ?l_Space_take ?c_Space_take ?k_Space_take ?a_Space_share ?i_Space_share ?l_Space_share ?c_Space_share ?k_Space_share ?a_Space_drop ?i_Space_drop ?l_Space_drop ?c_Space_drop ?k_Space_drop ?a_Space_uses ?i_Space_uses ?l_Space_uses ?c_Space_uses ?k_Space_uses ?a_Space_is_new ?i_Space_is_new ?l_Space_is_new ?c_Space_is_new ?k_Space_is_new ?a_Space_is_free ?i_Space_is_free ?l_Space_is_free ?c_Space_is_free ?k_Space_is_free ?a_Space_settle ?i_Space_settle ?l_Space_settle ?c_Space_settle ?k_Space_settle ?a_Store___init__ ?i_Store___init__ ?l_Store___init__ ?c_Store___init__ ?k_Store___init__ ?a_Store_generation ?i_Store_generation ?l_Store_generation ?c_Store_generation ?k_Store_generation ?a_Store_use_table ?i_Store_use_table ?l_Store_use_table ?c_Store_use_table ?k_Store_use_table ?a_Store_use_reserve ?i_Store_use_reserve ?l_Store_use_reserve ?c_Store_use_reserve ?k_Store_use_reserve ?a_Store_read ?i_Store_read ?l_Store_read ?c_Store_read ?k_Store_read ?a_Store_make ?i_Store_make ?l_Store_make ?c_Store_make ?k_Store_make ?a_Store_is_new ?i_Store_is_new ?l_Store_is_new ?c_Store_is_new ?k_Store_is_new ?a_Store_write ?i_Store_write ?l_Store_write ?c_Store_write ?k_Store_write ?a_Store_share ?i_Store_share ?l_Store_share ?c_Store_share ?k_Store_share ?a_Store_drop ?i_Store_drop ?l_Store_drop ?c_Store_drop ?k_Store_drop ?a_Store_uses ?i_Store_uses ?l_Store_uses ?c_Store_uses ?k_Store_uses ?a_Store_new_blocks ?i_Store_new_blocks ?l_Store_new_blocks ?c_Store_new_blocks ?k_Store_new_blocks ?a__law_tape ?l__law_tape ?c__law_tape ?k__law_tape ?a__law_at ?l__law_at ?c__law_at ?k__law_at ?a__law_block ?l__law_block ?c__law_block ?k__law_block ?a__law_is_block ?l__law_is_block ?c__law_is_block ?k__law_is_block ?a__law_put_block ?l__law_put_block ?c__law_put_block ?k__law_put_block ?a__law_store ?l__law_store ?c__law_store ?k__law_store ?a__law_work ?l__law_work ?c__law_work ?k__law_work ?a__law_choices ?l__law_choices ?c__law_choices ?k__law_choices ?a__law_commit ?l__law_commit ?c__law_commit ?k__law_commit ?a__law_steps ?l__law_steps ?c__law_steps ?k__law_steps ?a__law_due ?l__law_due ?c__law_due ?k__law_due ?a__law_others ?l__law_others ?c__law_others ?k__law_others ?a__law_reads ?l__law_reads ?c__law_reads ?k__law_reads ?a_law ?l_law ?c_law ?k_law ?pg_Disk ?hd_Disk ?po_Disk ?sa_Disk ?mk_Disk ?kc_Disk ?pg_Head ?hd_Head ?po_Head ?sa_Head ?mk_Head ?kc_Head ?pg_Space ?hd_Space ?po_Space ?sa_Space ?mk_Space ?kc_Space ?pg_Store ?hd_Store ?po_Store ?sa_Store ?mk_Store ?kc_Store ?n_abs ?n_bool ?n_enumerate ?n_int ?n_isinstance ?n_len ?n_list ?n_max ?n_min ?n_range ?n_sorted ?n_zip ?kc_ADD ?kc_BLOCK_SECTORS ?kc_BLOCK_WORDS ?kc_FIRST_BLOCK ?kc_FIRST_SECTOR ?kc_LOG_BLOCKS ?kc_LOG_SECTORS ?kc_MAX_BLOCKS ?kc_MAX_COUNT ?kc_MIN_BLOCKS ?kc_SECTOR_WORDS ?ex_BadImage ?kc_BadImage ?sb_BadImage ?ty_BadImage ?ex_NoSpace ?kc_NoSpace ?sb_NoSpace ?ty_NoSpace ?ex_NotValid ?kc_NotValid ?sb_NotValid ?ty_NotValid ?ex_PowerOff ?kc_PowerOff ?sb_PowerOff ?ty_PowerOff ?nf_Disk_blocks ?nf_Disk_left ?nf_Disk_newest ?nf_Disk_power ?nf_Disk_sectors ?nf_Disk_writes ?nf_Head_blocks ?nf_Head_generation ?nf_Head_table ?nf_Space_blocks ?nf_Space_held ?nf_Space_low ?nf_Space_numbers ?nf_Space_spare ?nf_Store_disk ?nf_Store_head ?nf_Store_memory ?nf_Store_reserve ?nf_Store_space ?nf_Store_table ?su_BadImage_PowerOff ?su_NoSpace_PowerOff ?su_NotValid_PowerOff ?su_PowerOff_PowerOff ?hx_PowerOff
    (case aC_Disk => k_is); (case aC_Head => k_is); (case aC_Space => k_is); (case aC_Store => k_is); (case aC_BadImage => k_is); (case aC_NoSpace => k_is)
    (case aC_NotValid => k_is); (case aC_PowerOff => k_is); (case a_is_between => k_is); (case l_is_between => k_is); (case c_is_between => k_is); (case k_is_between => k_is)
    (case a_is_word => k_is); (case l_is_word => k_is); (case c_is_word => k_is); (case k_is_word => k_is); (case a_are_words => k_is); (case l_are_words => k_is)
    (case c_are_words => k_is); (case k_are_words => k_is); (case a_Disk___init__ => k_is); (case i_Disk___init__ => k_is); (case l_Disk___init__ => k_is); (case c_Disk___init__ => k_is)
    (case k_Disk___init__ => k_is); (case a_Disk_read => k_is); (case i_Disk_read => k_is); (case l_Disk_read => k_is); (case c_Disk_read => k_is); (case k_Disk_read => k_is)
    (case a_Disk_operate => k_is); (case i_Disk_operate => k_is); (case l_Disk_operate => k_is); (case c_Disk_operate => k_is); (case k_Disk_operate => k_is); (case a_Disk_write => k_is)
    (case i_Disk_write => k_is); (case l_Disk_write => k_is); (case c_Disk_write => k_is); (case k_Disk_write => k_is); (case a_Disk_flush => k_is); (case i_Disk_flush => k_is)
    (case l_Disk_flush => k_is); (case c_Disk_flush => k_is); (case k_Disk_flush => k_is); (case a_Disk_waiting => k_is); (case i_Disk_waiting => k_is); (case l_Disk_waiting => k_is)
    (case c_Disk_waiting => k_is); (case k_Disk_waiting => k_is); (case a_Disk_fail_after => k_is); (case i_Disk_fail_after => k_is); (case l_Disk_fail_after => k_is); (case c_Disk_fail_after => k_is)
    (case k_Disk_fail_after => k_is); (case a_Disk_cut => k_is); (case i_Disk_cut => k_is); (case l_Disk_cut => k_is); (case c_Disk_cut => k_is); (case k_Disk_cut => k_is)
    (case a_Head___init__ => k_is); (case i_Head___init__ => k_is); (case l_Head___init__ => k_is); (case c_Head___init__ => k_is); (case k_Head___init__ => k_is); (case a_Head_sector => k_is)
    (case i_Head_sector => k_is); (case l_Head_sector => k_is); (case c_Head_sector => k_is); (case k_Head_sector => k_is); (case a_place => k_is); (case l_place => k_is)
    (case c_place => k_is); (case k_place => k_is); (case a_is_valid_head => k_is); (case l_is_valid_head => k_is); (case c_is_valid_head => k_is); (case k_is_valid_head => k_is)
    (case a_log_mark => k_is); (case l_log_mark => k_is); (case c_log_mark => k_is); (case k_log_mark => k_is); (case a_check_head => k_is); (case l_check_head => k_is)
    (case c_check_head => k_is); (case k_check_head => k_is); (case a_present_head => k_is); (case l_present_head => k_is); (case c_present_head => k_is); (case k_present_head => k_is)
    (case a_next_head => k_is); (case l_next_head => k_is); (case c_next_head => k_is); (case k_next_head => k_is); (case a_commit_steps => k_is); (case l_commit_steps => k_is)
    (case c_commit_steps => k_is); (case k_commit_steps => k_is); (case a_commit => k_is); (case l_commit => k_is); (case c_commit => k_is); (case k_commit => k_is)
    (case a_Space___init__ => k_is); (case i_Space___init__ => k_is); (case l_Space___init__ => k_is); (case c_Space___init__ => k_is); (case k_Space___init__ => k_is); (case a_Space_count_spare => k_is)
    (case i_Space_count_spare => k_is); (case l_Space_count_spare => k_is); (case c_Space_count_spare => k_is); (case k_Space_count_spare => k_is); (case a_Space_check_block => k_is); (case i_Space_check_block => k_is)
    (case l_Space_check_block => k_is); (case c_Space_check_block => k_is); (case k_Space_check_block => k_is); (case a_Space_least_free => k_is); (case i_Space_least_free => k_is); (case l_Space_least_free => k_is)
    (case c_Space_least_free => k_is); (case k_Space_least_free => k_is); (case a_Space_take => k_is); (case i_Space_take => k_is); (case l_Space_take => k_is); (case c_Space_take => k_is)
    (case k_Space_take => k_is); (case a_Space_share => k_is); (case i_Space_share => k_is); (case l_Space_share => k_is); (case c_Space_share => k_is); (case k_Space_share => k_is)
    (case a_Space_drop => k_is); (case i_Space_drop => k_is); (case l_Space_drop => k_is); (case c_Space_drop => k_is); (case k_Space_drop => k_is); (case a_Space_uses => k_is)
    (case i_Space_uses => k_is); (case l_Space_uses => k_is); (case c_Space_uses => k_is); (case k_Space_uses => k_is); (case a_Space_is_new => k_is); (case i_Space_is_new => k_is)
    (case l_Space_is_new => k_is); (case c_Space_is_new => k_is); (case k_Space_is_new => k_is); (case a_Space_is_free => k_is); (case i_Space_is_free => k_is); (case l_Space_is_free => k_is)
    (case c_Space_is_free => k_is); (case k_Space_is_free => k_is); (case a_Space_settle => k_is); (case i_Space_settle => k_is); (case l_Space_settle => k_is); (case c_Space_settle => k_is)
    (case k_Space_settle => k_is); (case a_Store___init__ => k_is); (case i_Store___init__ => k_is); (case l_Store___init__ => k_is); (case c_Store___init__ => k_is); (case k_Store___init__ => k_is)
    (case a_Store_generation => k_is); (case i_Store_generation => k_is); (case l_Store_generation => k_is); (case c_Store_generation => k_is); (case k_Store_generation => k_is); (case a_Store_use_table => k_is)
    (case i_Store_use_table => k_is); (case l_Store_use_table => k_is); (case c_Store_use_table => k_is); (case k_Store_use_table => k_is); (case a_Store_use_reserve => k_is); (case i_Store_use_reserve => k_is)
    (case l_Store_use_reserve => k_is); (case c_Store_use_reserve => k_is); (case k_Store_use_reserve => k_is); (case a_Store_read => k_is); (case i_Store_read => k_is); (case l_Store_read => k_is)
    (case c_Store_read => k_is); (case k_Store_read => k_is); (case a_Store_make => k_is); (case i_Store_make => k_is); (case l_Store_make => k_is); (case c_Store_make => k_is)
    (case k_Store_make => k_is); (case a_Store_is_new => k_is); (case i_Store_is_new => k_is); (case l_Store_is_new => k_is); (case c_Store_is_new => k_is); (case k_Store_is_new => k_is)
    (case a_Store_write => k_is); (case i_Store_write => k_is); (case l_Store_write => k_is); (case c_Store_write => k_is); (case k_Store_write => k_is); (case a_Store_share => k_is)
    (case i_Store_share => k_is); (case l_Store_share => k_is); (case c_Store_share => k_is); (case k_Store_share => k_is); (case a_Store_drop => k_is); (case i_Store_drop => k_is)
    (case l_Store_drop => k_is); (case c_Store_drop => k_is); (case k_Store_drop => k_is); (case a_Store_uses => k_is); (case i_Store_uses => k_is); (case l_Store_uses => k_is)
    (case c_Store_uses => k_is); (case k_Store_uses => k_is); (case a_Store_new_blocks => k_is); (case i_Store_new_blocks => k_is); (case l_Store_new_blocks => k_is); (case c_Store_new_blocks => k_is)
    (case k_Store_new_blocks => k_is); (case a__law_tape => k_is); (case l__law_tape => k_is); (case c__law_tape => k_is); (case k__law_tape => k_is); (case a__law_at => k_is)
    (case l__law_at => k_is); (case c__law_at => k_is); (case k__law_at => k_is); (case a__law_block => k_is); (case l__law_block => k_is); (case c__law_block => k_is)
    (case k__law_block => k_is); (case a__law_is_block => k_is); (case l__law_is_block => k_is); (case c__law_is_block => k_is); (case k__law_is_block => k_is); (case a__law_put_block => k_is)
    (case l__law_put_block => k_is); (case c__law_put_block => k_is); (case k__law_put_block => k_is); (case a__law_store => k_is); (case l__law_store => k_is); (case c__law_store => k_is)
    (case k__law_store => k_is); (case a__law_work => k_is); (case l__law_work => k_is); (case c__law_work => k_is); (case k__law_work => k_is); (case a__law_choices => k_is)
    (case l__law_choices => k_is); (case c__law_choices => k_is); (case k__law_choices => k_is); (case a__law_commit => k_is); (case l__law_commit => k_is); (case c__law_commit => k_is)
    (case k__law_commit => k_is); (case a__law_steps => k_is); (case l__law_steps => k_is); (case c__law_steps => k_is); (case k__law_steps => k_is); (case a__law_due => k_is)
    (case l__law_due => k_is); (case c__law_due => k_is); (case k__law_due => k_is); (case a__law_others => k_is); (case l__law_others => k_is); (case c__law_others => k_is)
    (case k__law_others => k_is); (case a__law_reads => k_is); (case l__law_reads => k_is); (case c__law_reads => k_is); (case k__law_reads => k_is); (case a_law => k_is)
    (case l_law => k_is); (case c_law => k_is); (case k_law => k_is); (case pg_Disk => k_is); (case hd_Disk => k_is); (case po_Disk => k_is)
    (case sa_Disk => k_is); (case mk_Disk => k_is); (case kc_Disk => k_is); (case pg_Head => k_is); (case hd_Head => k_is); (case po_Head => k_is)
    (case sa_Head => k_is); (case mk_Head => k_is); (case kc_Head => k_is); (case pg_Space => k_is); (case hd_Space => k_is); (case po_Space => k_is)
    (case sa_Space => k_is); (case mk_Space => k_is); (case kc_Space => k_is); (case pg_Store => k_is); (case hd_Store => k_is); (case po_Store => k_is)
    (case sa_Store => k_is); (case mk_Store => k_is); (case kc_Store => k_is); (case n_abs => k_is); (case n_bool => k_is); (case n_enumerate => k_is)
    (case n_int => k_is); (case n_isinstance => k_is); (case n_len => k_is); (case n_list => k_is); (case n_max => k_is); (case n_min => k_is)
    (case n_range => k_is); (case n_sorted => k_is); (case n_zip => k_is); (case kc_ADD => k_is); (case kc_BLOCK_SECTORS => k_is); (case kc_BLOCK_WORDS => k_is)
    (case kc_FIRST_BLOCK => k_is); (case kc_FIRST_SECTOR => k_is); (case kc_LOG_BLOCKS => k_is); (case kc_LOG_SECTORS => k_is); (case kc_MAX_BLOCKS => k_is); (case kc_MAX_COUNT => k_is)
    (case kc_MIN_BLOCKS => k_is); (case kc_SECTOR_WORDS => k_is); (case ex_BadImage => k_exc); (case kc_BadImage => k_is); (case sb_BadImage => k_is); (case ty_BadImage => k_is)
    (case ex_NoSpace => k_exc); (case kc_NoSpace => k_is); (case sb_NoSpace => k_is); (case ty_NoSpace => k_is); (case ex_NotValid => k_exc); (case kc_NotValid => k_is)
    (case sb_NotValid => k_is); (case ty_NotValid => k_is); (case ex_PowerOff => k_exc); (case kc_PowerOff => k_is); (case sb_PowerOff => k_is); (case ty_PowerOff => k_is)
    (case nf_Disk_blocks => k_is); (case nf_Disk_left => k_is); (case nf_Disk_newest => k_is); (case nf_Disk_power => k_is); (case nf_Disk_sectors => k_is); (case nf_Disk_writes => k_is)
    (case nf_Head_blocks => k_is); (case nf_Head_generation => k_is); (case nf_Head_table => k_is); (case nf_Space_blocks => k_is); (case nf_Space_held => k_is); (case nf_Space_low => k_is)
    (case nf_Space_numbers => k_is); (case nf_Space_spare => k_is); (case nf_Store_disk => k_is); (case nf_Store_head => k_is); (case nf_Store_memory => k_is); (case nf_Store_reserve => k_is)
    (case nf_Store_space => k_is); (case nf_Store_table => k_is); (case su_BadImage_PowerOff => k_is); (case su_NoSpace_PowerOff => k_is); (case su_NotValid_PowerOff => k_is); (case su_PowerOff_PowerOff => k_is)
    (case hx_PowerOff => k_is)
#print axioms PySem.Challenge.cw_laminae_k60_whole_commit_cut_holds
