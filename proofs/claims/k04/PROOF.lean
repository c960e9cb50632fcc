import PyProof.Rows.All
import Wide.All
import OpenK.AllK
import Wide.FinOn
import HandS.ForMost
import HandS.ForExc
import HandS.TupLe
import HandS.IsInst
import HandS.Small
import HandS.Wide
import HandS.ExcIs
import HandS.DictComp
import HandS.Rev
import HandS.Codes
import HandS.HotCalls
import HandS.SortInts
import KE.Datum
import PySem.Challenge.RW_laminae_k04_disk_reads_and_cuts
set_option Elab.async false
set_option linter.all false
set_option maxRecDepth 100000
set_option maxHeartbeats 4000000
namespace U
open PySem PySem.Spec PyProof.Rows L2
section weaken
variable {X : Cx}
theorem orR {f : Value → Value → Sem Value} {r r' : R2} (h : OpR X f r) (g : OpR X f r') : OpR X f (fun x y H Q => r x y H Q ∨ r' x y H Q) :=
  fun pins s σ H x y v u Q I rx ry q => q.elim (h pins s σ H x y v u Q I rx ry) (g pins s σ H x y v u Q I rx ry)
theorem wR {f : Value → Value → Sem Value} {r r' : R2} (h : OpR X f r) (k : ∀ x y H Q, r' x y H Q → r x y H Q) : OpR X f r' :=
  fun pins s σ H x y v u Q I rx ry q => h pins s σ H x y v u Q I rx ry (k _ _ _ _ q)
theorem wC {f : Value} {r r' : List V → Hp → VK → Prop} (h : CallR X f r) (k : ∀ xs H Q, r' xs H Q → r xs H Q) : CallR X f r' :=
  fun pins s σ H xs us Q I rx q => h pins s σ H xs us Q I rx (k _ _ _ q)
theorem orC {f : Value} {r r' : List V → Hp → VK → Prop} (h : CallR X f r) (g : CallR X f r') : CallR X f (fun xs H Q => r xs H Q ∨ r' xs H Q) :=
  fun pins s σ H xs us Q I rx q => q.elim (h pins s σ H xs us Q I rx) (g pins s σ H xs us Q I rx)
end weaken
def tCut (t u : TS) : TS := C8.tCut t u
theorem pss_cut {X : Cx} {st : Stmt} {rest : List Stmt} {t u : TS} (h1 : PS X st t) (h2 : PSs X rest u) : PSs X (st :: rest) (tCut t u) := C8.pss_cut h1 h2
section ops
variable {X : Cx}
/-- text times number -/
theorem op_strmul : OpR X (binaryOp .Mult) (fun x y H Q => ∃ (z : Str) (n : Int), x = .str z ∧ y = .int n ∧ MulOk z n ∧ Q (.str (Txt.mul z n)) H) := by
  intro pins s σ H x y v u Q I rx ry h
  obtain ⟨z, n, rfl, rfl, ok, q⟩ := h
  obtain ⟨t, rfl⟩ := rx
  obtain ⟨t', rfl⟩ := ry
  exact SB.mul ok fun t1 k => ⟨.str (Txt.mul z n), H, I.tok _, ⟨_, rfl⟩, q⟩
def uAdd (K : PySem.W.Frag) : R2 := fun x y H Q => match x, y with
  | .int i, .int j => Q (.int (i + j)) H
  | .str i, .str j => i.length + j.length ≤ sizeLine ∧ Q (.str (i ++ j)) H
  | .ref a, .ref b => rCat (.ref a) (.ref b) H Q ∨ rCatT K (.ref a) (.ref b) H Q
  | _, _ => False
theorem o_add : OpR X (binaryOp .Add) (uAdd X.K) := by
  refine wR (orR op_add (orR op_add_str (orR op_cat op_catT))) fun x y H Q q => ?_
  unfold uAdd at q
  split at q
  · exact .inl ⟨_, _, rfl, rfl, q⟩
  · exact .inr (.inl ⟨_, _, rfl, rfl, q⟩)
  · exact .inr (.inr q)
  · exact q.elim
def uSub : R2 := fun x y H Q => match x, y with
  | .int i, .int j => Q (.int (i - j)) H
  | _, _ => False
theorem o_sub : OpR X (binaryOp .Sub) uSub := by
  refine wR op_sub fun x y H Q q => ?_
  unfold uSub at q
  split at q
  · exact ⟨_, _, rfl, rfl, q⟩
  · exact q.elim
def uMul : R2 := fun x y H Q => match x, y with
  | .int i, .int j => (CMul i j ∨ CMulW i j) ∧ Q (.int (i * j)) H
  | .str z, .int n => MulOk z n ∧ Q (.str (Txt.mul z n)) H
  | .ref a, .int n => rRep (.ref a) (.int n) H Q
  | _, _ => False
theorem o_mul : OpR X (binaryOp .Mult) uMul := by
  refine wR (orR op_mul (orR op_mulW (orR op_strmul op_rep))) fun x y H Q q => ?_
  unfold uMul at q
  split at q
  · obtain ⟨c | c, q⟩ := q
    · exact .inl ⟨_, _, rfl, rfl, c, q⟩
    · exact .inr (.inl ⟨_, _, rfl, rfl, c, q⟩)
  · exact .inr (.inr (.inl ⟨_, _, rfl, rfl, q⟩))
  · exact .inr (.inr (.inr q))
  · exact q.elim
def uDiv : R2 := fun x y H Q => match x, y with
  | .int i, .int j => (0 < j ∧ j < 2 ^ 200) ∧ Q (.int (i / j)) H
  | _, _ => False
theorem o_div : OpR X (binaryOp .FloorDiv) uDiv := by
  refine wR op_fdivW fun x y H Q q => ?_
  unfold uDiv at q
  split at q
  · obtain ⟨⟨c1, c2⟩, q⟩ := q
    exact ⟨_, _, rfl, rfl, wide_div (b := 200) c1 (by omega) (by decide) (by decide), q⟩
  · exact q.elim
def uMod : R2 := fun x y H Q => match x, y with
  | .int i, .int j => 0 < j ∧ Q (.int (i % j)) H
  | _, _ => False
theorem o_mod : OpR X (binaryOp .Mod) uMod := by
  refine wR op_mod fun x y H Q q => ?_
  unfold uMod at q
  split at q
  · exact ⟨_, _, rfl, rfl, q⟩
  · exact q.elim
def uPow : R2 := fun x y H Q => match x, y with
  | .int i, .int j => CPow i j ∧ Q (.int (i ^ j.toNat)) H
  | _, _ => False
theorem o_pow : OpR X (binaryOp .Pow) uPow := by
  refine wR op_pow fun x y H Q q => ?_
  unfold uPow at q
  split at q
  · exact ⟨_, _, rfl, rfl, q⟩
  · exact q.elim
def uNeg : V → Hp → VK → Prop := fun x H Q => match x with
  | .int i => Q (.int (-i)) H
  | _ => False
theorem o_neg : UnR X (unaryOp .USub) uNeg := fun pins s σ H x v Q I rx q => by
  unfold uNeg at q
  split at q
  · exact un_neg pins s σ H _ v Q I rx ⟨_, rfl, q⟩
  · exact q.elim
/-- == of data without dicts -/
def rEqP (K : PySem.W.Frag) : R2 := fun x y H Q => ∃ d e, Dp K H x d ∧ Dp K H y e ∧ (d.plain = true ∧ d.depth ≤ 60) ∧ e.plain = true ∧ Q (.bl (PyData.eqv d e)) H
def rNeP (K : PySem.W.Frag) : R2 := fun x y H Q => ∃ d e, Dp K H x d ∧ Dp K H y e ∧ (d.plain = true ∧ d.depth ≤ 60) ∧ e.plain = true ∧ Q (.bl (!PyData.eqv d e)) H
theorem op_eqP (hu : X.A.units + 64 < cLine) : OpR X (compareOp .Eq) (rEqP X.K) := by
  intro pins s σ H x y v u Q I rx ry h
  obtain ⟨d, e, hd, he, ⟨p1, dp⟩, p2, q⟩ := h
  obtain ⟨as, r1⟩ := Dp.reads I d x v hd rx
  obtain ⟨bs, r2⟩ := Dp.reads I e y u he ry
  exact PySem.SeqAt.eq_plain r1 r2 p1 p2 (by have := Nat.min_le_left d.depth e.depth; omega) ⟨.bl _, H, I, rfl, q⟩
theorem op_neP (hu : X.A.units + 64 < cLine) : OpR X (compareOp .NotEq) (rNeP X.K) := by
  intro pins s σ H x y v u Q I rx ry h
  obtain ⟨d, e, hd, he, ⟨p1, dp⟩, p2, q⟩ := h
  obtain ⟨as, r1⟩ := Dp.reads I d x v hd rx
  obtain ⟨bs, r2⟩ := Dp.reads I e y u he ry
  exact PySem.SeqAt.ne_plain r1 r2 p1 p2 (by have := Nat.min_le_left d.depth e.depth; omega) ⟨.bl _, H, I, rfl, q⟩
theorem d_int (i j : Int) : decide (V.int i = V.int j) = decide (i = j) := decide_eq_decide.mpr ⟨fun h => V.int.inj h, fun h => h ▸ rfl⟩
theorem d_str (i j : Str) : decide (V.str i = V.str j) = decide (i = j) := decide_eq_decide.mpr ⟨fun h => V.str.inj h, fun h => h ▸ rfl⟩
theorem d_bl (i j : Bool) : decide (V.bl i = V.bl j) = decide (i = j) := decide_eq_decide.mpr ⟨fun h => V.bl.inj h, fun h => h ▸ rfl⟩
/-- the same value, of two scalars -/
def sameS : V → V → Bool
  | .non, .non => true
  | .int i, .int j => decide (i = j)
  | .str i, .str j => decide (i = j)
  | .bl i, .bl j => decide (i = j)
  | .byt i, .byt j => decide (i = j)
  | _, _ => false
theorem sameS_eq {x y : V} (h : scal x y = true) : decide (x = y) = sameS x y := by
  cases x <;> cases y <;> first
    | (cases h; done)
    | exact d_int _ _
    | exact d_str _ _
    | exact d_bl _ _
    | rfl
    | (exact decide_eq_decide.mpr ⟨fun h => V.byt.inj h, fun h => h ▸ rfl⟩)
    | (exact decide_eq_false (fun q => nomatch q))
def uEq (K : PySem.W.Frag) : R2 := fun x y H Q => match x, y with
  | .int i, .int j => Q (.bl (decide (i = j))) H
  | .str i, .str j => Q (.bl (decide (i = j))) H
  | .bl i, .bl j => Q (.bl (decide (i = j))) H
  | x, y => (scal x y = true ∧ Q (.bl (sameS x y)) H) ∨ rEqP K x y H Q
theorem o_eq (hu : X.A.units + 64 < cLine) : OpR X (compareOp .Eq) (uEq X.K) := by
  refine wR (orR op_eq (op_eqP hu)) fun x y H Q q => ?_
  unfold uEq at q
  split at q
  · exact .inl ⟨rfl, (d_int _ _).symm ▸ q⟩
  · exact .inl ⟨rfl, (d_str _ _).symm ▸ q⟩
  · exact .inl ⟨rfl, (d_bl _ _).symm ▸ q⟩
  · rcases q with ⟨h, q⟩ | q
    · exact .inl ⟨h, (sameS_eq h).symm ▸ q⟩
    · exact .inr q
def uNe (K : PySem.W.Frag) : R2 := fun x y H Q => match x, y with
  | .int i, .int j => Q (.bl (!decide (i = j))) H
  | .str i, .str j => Q (.bl (!decide (i = j))) H
  | .bl i, .bl j => Q (.bl (!decide (i = j))) H
  | x, y => (scal x y = true ∧ Q (.bl (!sameS x y)) H) ∨ rNeP K x y H Q
theorem o_ne (hu : X.A.units + 64 < cLine) : OpR X (compareOp .NotEq) (uNe X.K) := by
  refine wR (orR op_ne (op_neP hu)) fun x y H Q q => ?_
  unfold uNe at q
  split at q
  · exact .inl ⟨rfl, (d_int _ _).symm ▸ q⟩
  · exact .inl ⟨rfl, (d_str _ _).symm ▸ q⟩
  · exact .inl ⟨rfl, (d_bl _ _).symm ▸ q⟩
  · rcases q with ⟨h, q⟩ | q
    · exact .inl ⟨h, (sameS_eq h).symm ▸ q⟩
    · exact .inr q
/-- tuples of ints in their order -/
theorem lexAt_eq (ns ms : List Int) (op : Int → Int → Bool) (z : Bool) (f : List Int → List Int → Bool)
    (h0 : ∀ i, i = ns.length ∨ i = ms.length → i ≤ ns.length → i ≤ ms.length → f (ns.drop i) (ms.drop i) = z)
    (h1 : ∀ x xs y ys, f (x :: xs) (y :: ys) = if x = y then f xs ys else op x y) :
    ∀ k i, i + k = min ns.length ms.length → Ob.lexAt (fun j => decide (ns.getD j 0 = ms.getD j 0)) (fun j => op (ns.getD j 0) (ms.getD j 0)) z i k = f (ns.drop i) (ms.drop i)
  | 0, i, h => by
    rw [Ob.lexAt_zero, h0 i (by omega) (by omega) (by omega)]
  | k + 1, i, h => by
    have a : i < ns.length := by omega
    have b : i < ms.length := by omega
    rw [Ob.lexAt_succ, List.drop_eq_getElem_cons a, List.drop_eq_getElem_cons b, h1, lexAt_eq ns ms op z f h0 h1 k (i + 1) (by omega)]
    simp only [List.getD_eq_getElem?_getD, List.getElem?_eq_getElem a, List.getElem?_eq_getElem b, Option.getD_some, decide_eq_true_eq]
def lexLe (a b : List Int) : Bool := !HT.lexLt b a
theorem lexLe_cons (x y : Int) (xs ys : List Int) : lexLe (x :: xs) (y :: ys) = if x = y then lexLe xs ys else decide (x ≤ y) := by
  unfold lexLe
  rw [HT.lexLt_cons]
  by_cases h : x = y
  · rw [if_pos h, if_pos h.symm]
  · rw [if_neg h, if_neg (fun e => h e.symm), ← decide_not]
    exact decide_eq_decide.mpr (by omega)
theorem lexLe_end (ns ms : List Int) (i : Nat) (h : i = ns.length ∨ i = ms.length) (h1 : i ≤ ns.length) (h2 : i ≤ ms.length) : lexLe (ns.drop i) (ms.drop i) = decide (ns.length ≤ ms.length) := by
  unfold lexLe
  by_cases a : i = ns.length
  · have e : ns.drop i = [] := List.drop_eq_nil_of_le (by omega)
    rw [e, decide_eq_true (by omega)]
    cases ms.drop i <;> rfl
  · have e : ms.drop i = [] := List.drop_eq_nil_of_le (by omega)
    rw [e, decide_eq_false (by omega)]
    cases e2 : ns.drop i with
    | nil => exact absurd (List.drop_eq_nil_iff.mp e2) (by omega)
    | cons x r => rfl
theorem lexAt_le (ns ms : List Int) : Ob.lexAt (fun j => decide (ns.getD j 0 = ms.getD j 0)) (fun j => decide (ns.getD j 0 ≤ ms.getD j 0)) (decide (ns.length ≤ ms.length)) 0 (min ns.length ms.length) = lexLe ns ms :=
  lexAt_eq ns ms (fun x y => decide (x ≤ y)) _ lexLe (fun i h a b => lexLe_end ns ms i h a b) (fun x xs y ys => lexLe_cons x y xs ys) _ 0 (by omega)
def lexGe (a b : List Int) : Bool := !HT.lexLt a b
theorem lexGe_le (a b : List Int) : lexGe a b = lexLe b a := rfl
theorem lexAt_ge (ns ms : List Int) : Ob.lexAt (fun j => decide (ns.getD j 0 = ms.getD j 0)) (fun j => decide (ns.getD j 0 ≥ ms.getD j 0)) (decide (ns.length ≥ ms.length)) 0 (min ns.length ms.length) = lexGe ns ms := by
  refine lexAt_eq ns ms (fun x y => decide (x ≥ y)) _ lexGe (fun i h a b => ?_) (fun x xs y ys => ?_) _ 0 (by omega)
  · rw [lexGe_le, lexLe_end ms ns i (by omega) b a]
  · rw [lexGe_le, lexLe_cons, lexGe_le]
    by_cases h : x = y
    · rw [if_pos h, if_pos h.symm]
    · rw [if_neg h, if_neg (fun e => h e.symm)]
def rGeT (K : PySem.W.Frag) : R2 := fun x y H Q => ∃ (a b : Addr) (ns ms : List Int), x = .ref a ∧ y = .ref b ∧ SqT K H a (ns.map V.int) ∧ SqT K H b (ms.map V.int) ∧ Q (.bl (lexGe ns ms)) H
theorem ints_at {us : List Value} {ns : List Int} (h : IntsAre us ns) (j : Nat) (h1 : j < us.toArray.size) : ∃ t, us.toArray[j] = .int (ns.getD j 0) t := PyProof.Rows.IntsAre.int_at h _ _ (by simp at h1; simp [h1])
theorem op_geT (hu : X.A.units < cLine) : OpR X (compareOp .GtE) (rGeT X.K) := by
  intro pins s σ H x y v u Q I rx ry h
  obtain ⟨a, b, ns, ms, rfl, rfl, ha, hb, q⟩ := h
  cases rx; cases ry
  obtain ⟨us, r1, p1, _⟩ := I.tuple ha
  obtain ⟨ws, r2, p2, _⟩ := I.tuple hb
  have j1 : IntsAre us ns := Vals.ints r1
  have j2 : IntsAre ws ms := Vals.ints r2
  have n1 : us.toArray.size = ns.length := List.size_toArray.trans j1.length
  have n2 : ws.toArray.size = ms.length := List.size_toArray.trans j2.length
  have R := Ob.RcOp.tuples_ge (A := X.A) (s := s) (e := fun j => decide (ns.getD j 0 = ms.getD j 0)) (r := fun j => decide (ns.getD j 0 ≥ ms.getD j 0)) p1 p2 hu
    (fun j h1 h2 => by
      obtain ⟨t, e1⟩ := ints_at j1 j h1
      obtain ⟨t', e2⟩ := ints_at j2 j h2
      rw [e1, e2, ← Bool.beq_eq_decide_eq]
      exact SeqAt.EqAt.int_int _ _ _ _)
    (fun j h1 h2 _ => by
      obtain ⟨t, e1⟩ := ints_at j1 j h1
      obtain ⟨t', e2⟩ := ints_at j2 j h2
      rw [e1, e2]
      exact Ob.RcOp.ge_int _ _ _ _)
  rw [n1, n2, lexAt_ge] at R
  exact R X.prog X.w X.xe (EP X pins σ Q) ⟨.bl _, H, I, rfl, q⟩
def uLt (K : PySem.W.Frag) : R2 := fun x y H Q => match x, y with
  | .int i, .int j => Q (.bl (decide (i < j))) H
  | .ref a, .ref b => ∃ ns ms : List Int, SqT K H a (ns.map V.int) ∧ SqT K H b (ms.map V.int) ∧ Q (.bl (HT.lexLt ns ms)) H
  | _, _ => False
theorem o_lt (hu : X.A.units < cLine) : OpR X (compareOp .Lt) (uLt X.K) := by
  refine wR (orR op_lt (op_ltT hu)) fun x y H Q q => ?_
  unfold uLt at q
  split at q
  · exact .inl ⟨_, _, rfl, rfl, q⟩
  · obtain ⟨ns, ms, a, b, q⟩ := q
    exact .inr ⟨_, _, ns, ms, rfl, rfl, a, b, q⟩
  · exact q.elim
def uLe (K : PySem.W.Frag) : R2 := fun x y H Q => match x, y with
  | .int i, .int j => Q (.bl (decide (i ≤ j))) H
  | .ref a, .ref b => ∃ ns ms : List Int, SqT K H a (ns.map V.int) ∧ SqT K H b (ms.map V.int) ∧ Q (.bl (lexLe ns ms)) H
  | _, _ => False
theorem o_le (hu : X.A.units < cLine) : OpR X (compareOp .LtE) (uLe X.K) := by
  refine wR (orR op_le (op_leT hu)) fun x y H Q q => ?_
  unfold uLe at q
  split at q
  · exact .inl ⟨_, _, rfl, rfl, q⟩
  · obtain ⟨ns, ms, a, b, q⟩ := q
    exact .inr ⟨_, _, ns, ms, rfl, rfl, a, b, by rw [lexAt_le]; exact q⟩
  · exact q.elim
def uGe (K : PySem.W.Frag) : R2 := fun x y H Q => match x, y with
  | .int i, .int j => Q (.bl (decide (j ≤ i))) H
  | .ref a, .ref b => ∃ ns ms : List Int, SqT K H a (ns.map V.int) ∧ SqT K H b (ms.map V.int) ∧ Q (.bl (lexGe ns ms)) H
  | _, _ => False
theorem o_ge (hu : X.A.units < cLine) : OpR X (compareOp .GtE) (uGe X.K) := by
  refine wR (orR op_ge (op_geT hu)) fun x y H Q q => ?_
  unfold uGe at q
  split at q
  · exact .inl ⟨_, _, rfl, rfl, q⟩
  · obtain ⟨ns, ms, a, b, q⟩ := q
    exact .inr ⟨_, _, ns, ms, rfl, rfl, a, b, q⟩
  · exact q.elim
def uGt : R2 := fun x y H Q => match x, y with
  | .int i, .int j => Q (.bl (decide (j < i))) H
  | _, _ => False
theorem o_gt : OpR X (compareOp .Gt) uGt := by
  refine wR op_gt fun x y H Q q => ?_
  unfold uGt at q
  split at q
  · exact ⟨_, _, rfl, rfl, q⟩
  · exact q.elim
def isNon : V → Bool
  | .non => true
  | _ => false
theorem isNon_eq (x : V) : decide (x = .non) = isNon x := by
  cases x <;> first | rfl | exact decide_eq_false (fun q => nomatch q)
def uIs : R2 := fun x y H Q => match y with
  | .non => Q (.bl (isNon x)) H
  | .bl b => ∃ a, x = .bl a ∧ Q (.bl (decide (a = b))) H
  | _ => False
def uIsnt : R2 := fun x y H Q => match y with
  | .non => Q (.bl (!isNon x)) H
  | .bl b => ∃ a, x = .bl a ∧ Q (.bl (!decide (a = b))) H
  | _ => False
theorem o_isnt : OpR X (compareOp .IsNot) uIsnt := by
  refine wR (orR op_notN op_isnot_bl) fun x y H Q q => ?_
  unfold uIsnt at q
  split at q
  · exact .inl ⟨rfl, (isNon_eq x).symm ▸ q⟩
  · obtain ⟨a, e, q⟩ := q
    exact .inr ⟨a, _, e, rfl, q⟩
  · exact q.elim
theorem op_inD (hu : X.A.units + 1 < cLine) : OpR X (compareOp .In) (fun x y H Q => ∃ a o, y = .ref a ∧ DGet H a x o ∧ Q (.bl o.isSome) H) := by
  intro pins s σ H x y v u Q I rx ry h
  obtain ⟨a, o, rfl, g, q⟩ := h
  cases ry
  exact d_in hu I g rx fun s' I' => ⟨.bl o.isSome, H, I', rfl, q⟩
/-- in a list, a tuple of scalars; a dict -/
def uIn (K : PySem.W.Frag) : R2 := fun x y H Q => match y with
  | .ref a => (∃ xs, (SqL K H a xs ∨ SqT K H a xs) ∧ flatV x = true ∧ xs.all flatV = true ∧ Q (.bl (inV x xs)) H) ∨ ∃ o, DGet H a x o ∧ Q (.bl o.isSome) H
  | _ => False
theorem o_in (hu : X.A.units + 1 < cLine) : OpR X (compareOp .In) (uIn X.K) := by
  refine wR (orR op_in_seq (op_inD hu)) fun x y H Q q => ?_
  unfold uIn at q
  split at q
  · rcases q with ⟨xs, a, b, c, q⟩ | ⟨o, g, q⟩
    · exact .inl ⟨_, xs, rfl, a, b, c, q⟩
    · exact .inr ⟨_, o, rfl, g, q⟩
  · exact q.elim
def uNin (K : PySem.W.Frag) : R2 := fun x y H Q => match y with
  | .ref a => (∃ xs, (SqL K H a xs ∨ SqT K H a xs) ∧ flatV x = true ∧ xs.all flatV = true ∧ Q (.bl (!inV x xs)) H) ∨ ∃ o, DGet H a x o ∧ Q (.bl (!o.isSome)) H
  | _ => False
end ops
section subs
variable {X : Cx}
/-- a[b] of lists, tuples, texts -/
def uIx (K : PySem.W.Frag) : R2 := fun x y H Q => match x, y with
  | .ref p, .int i => ∃ xs v, (SqL K H p xs ∨ SqT K H p xs) ∧ atI xs i = some v ∧ Q v H
  | .str z, .int i => z.length ≤ sizeLine ∧ ∃ c, atI z.cps.toList i = some c ∧ Q (.str ⟨#[c]⟩) H
  | _, _ => False
theorem ix_u : IxR X (uIx X.K) := by
  intro value slice pins s σ H x y v u Q I rx ry h hs
  refine ix_seq value slice pins s σ H x y v u Q I rx ry ?_ hs
  unfold uIx at h
  split at h
  · obtain ⟨xs, v, e | e, g, q⟩ := h
    · exact .inl ⟨_, xs, _, v, rfl, rfl, e, g, q⟩
    · exact .inr (.inl ⟨_, xs, _, v, rfl, rfl, e, g, q⟩)
  · obtain ⟨z, c, e, q⟩ := h
    exact .inr (.inr ⟨_, _, c, rfl, rfl, z, e, q⟩)
  · exact h.elim
theorem e_ix {a b : Expr} {ta tb : TE} {pos : Pos} (ha : PE X a ta) (hb : PE X b tb) (hs : PlainIx b := by exact fun _ _ => rfl) : PE X (.Subscript a b pos) (tOp (uIx X.K) ta tb) := pe_ix ix_u ha hb hs
/-- a[lo:hi] -/
def uSl (K : PySem.W.Frag) : V → Option Int → Option Int → Hp → VK → Prop := fun x lo hi H Q => rSlL K x lo hi H Q ∨ rSlT K x lo hi H Q ∨ rSlS x lo hi H Q
theorem sl_u : SlR X (uSl X.K) := SlR.or sl_list (SlR.or sl_tup sl_str)
theorem e_sl {e : Expr} {lo hi : Option Expr} {te : TE} {tl th : TO} {p2 pos : Pos} (he : PE X e te) (hl : PO X lo tl) (hh : PO X hi th) : PE X (.Subscript e (.Slice lo hi none p2) pos) (tSl (uSl X.K) te tl th) := pe_slice sl_u he hl hh
/-- d[k] -/
theorem e_dg {a b : Expr} {ta tb : TE} {pos : Pos} (hu : X.A.units + 1 < cLine) (ha : PE X a ta) (hb : PE X b tb) (hs : NoSl b := by exact fun _ _ => rfl) : PE X (.Subscript a b pos) (tDGet ta tb) := pe_dget hu ha hb hs
/-- a[i] by values, for a[i] += e -/
def uGet (K : PySem.W.Frag) : V → V → Hp → VK → Prop := fun x y H Q => match x, y with
  | .ref p, .int i => (0 ≤ i ∧ ∃ xs v, SqL K H p xs ∧ xs[i.toNat]? = some v ∧ Q v H) ∨ ∃ v, DGet H p (.int i) (some v) ∧ Q v H
  | .ref p, y => ∃ v, DGet H p y (some v) ∧ Q v H
  | _, _ => False
/-- a[i] = v -/
def uSet : TSet := fun o i v H Q => match o, i with
  | .ref p, .int k => (∃ xs j, H p = some (.lst xs) ∧ ixN xs.length k = some j ∧ Q (upd H p (.lst (xs.set j v)))) ∨ ∃ H', DPut H p (.int k) v H' ∧ Q H'
  | .ref p, i => ∃ H', DPut H p i v H' ∧ Q H'
  | _, _ => False
theorem set_u (hu : X.A.units + 1 < cLine) : PSet X uSet := by
  intro pins s σ H o i v ov iv u Q I ro ri rv h
  unfold uSet at h
  split at h
  · rcases h with ⟨xs, j, e, g, q⟩ | ⟨H', g, q⟩
    · exact set_list pins s σ H _ _ v ov iv u Q I ro ri rv ⟨_, xs, _, j, rfl, rfl, e, g, q⟩
    · exact set_dict hu pins s σ H _ _ v ov iv u Q I ro ri rv ⟨_, H', rfl, g, q⟩
  · obtain ⟨H', g, q⟩ := h
    exact set_dict hu pins s σ H _ _ v ov iv u Q I ro ri rv ⟨_, H', rfl, g, q⟩
  · exact h.elim
end subs
section calls
variable {X : Cx}
/-- len -/
def uLen (K : PySem.W.Frag) : List V → Hp → VK → Prop := fun xs H Q => match xs with
  | [.ref p] => (∃ ys, (SqL K H p ys ∨ SqT K H p ys) ∧ Q (.int ys.length) H) ∨ ∃ kvs, H p = some (.dK kvs) ∧ Q (.int kvs.length) H
  | [.str z] => z.length ≤ sizeLine ∧ Q (.int z.length) H
  | _ => False
theorem c_len : CallR X (.builtin "len") (uLen X.K) := by
  refine wC (orC call_len_seq (orC call_len_str call_lenD)) fun xs H Q q => ?_
  unfold uLen at q
  split at q
  · rcases q with ⟨ys, a, q⟩ | ⟨kvs, a, q⟩
    · exact .inl ⟨_, ys, rfl, a, q⟩
    · exact .inr (.inr ⟨_, kvs, rfl, a, q⟩)
  · exact .inr (.inl ⟨_, rfl, q⟩)
  · exact q.elim
/-- list(x), tuple(x) -/
def uList (K : PySem.W.Frag) : List V → Hp → VK → Prop := fun xs H Q => match xs with
  | [.ref p] => ∃ ys, (SqL K H p ys ∨ SqT K H p ys) ∧ ∀ l, H l = none → Q (.ref l) (upd H l (.lst ys))
  | _ => False
theorem c_list : CallR X (.type "list") (uList X.K) := by
  refine wC call_list_of fun xs H Q q => ?_
  unfold uList at q
  split at q
  · obtain ⟨ys, a, q⟩ := q
    exact ⟨_, ys, rfl, a, q⟩
  · exact q.elim
def uAbs : List V → Hp → VK → Prop := fun xs H Q => match xs with
  | [.int i] => Q (.int (if i < 0 then -i else i)) H
  | _ => False
theorem c_abs : CallR X (.builtin "abs") uAbs := by
  refine wC call_abs fun xs H Q q => ?_
  unfold uAbs at q
  split at q
  · exact ⟨_, rfl, q⟩
  · exact q.elim
def uMax (K : PySem.W.Frag) : List V → Hp → VK → Prop := fun xs H Q => match xs with
  | [.int i, .int j] => Q (.int (if j > i then j else i)) H
  | [.ref a] => ∃ ns : List Int, SqL K H a (ns.map V.int) ∧ 0 < ns.length ∧ ∀ m, m ∈ ns → (∀ y, y ∈ ns → y ≤ m) → Q (.int m) H
  | _ => False
def uMin (K : PySem.W.Frag) : List V → Hp → VK → Prop := fun xs H Q => match xs with
  | [.int i, .int j] => Q (.int (if j < i then j else i)) H
  | [.ref a] => ∃ ns : List Int, SqL K H a (ns.map V.int) ∧ 0 < ns.length ∧ ∀ m, m ∈ ns → (∀ y, y ∈ ns → m ≤ y) → Q (.int m) H
  | _ => False
theorem c_min (hc : X.calm = true) : CallR X (.builtin "min") (uMin X.K) := by
  refine wC (orC (call_min2 hc) (cr_min hc)) fun xs H Q q => ?_
  unfold uMin at q
  split at q
  · exact .inl ⟨_, _, rfl, q⟩
  · obtain ⟨ns, a, b, c⟩ := q
    exact .inr ⟨_, ns, rfl, a, b, c⟩
  · exact q.elim
def uInt : List V → Hp → VK → Prop := fun xs H Q => match xs with
  | [.int i] => Q (.int i) H
  | [.bl k] => Q (.int (if k then 1 else 0)) H
  | _ => False
theorem c_int : CallR X (.type "int") uInt := by
  refine wC call_int1 fun xs H Q q => ?_
  unfold uInt at q
  split at q
  · exact .inl ⟨_, rfl, q⟩
  · exact .inr ⟨_, rfl, q⟩
  · exact q.elim
inductive Ty | int | bool | str | list | tuple | dict
def Ty.nm : Ty → String
  | .int => "int" | .bool => "bool" | .str => "str" | .list => "list" | .tuple => "tuple" | .dict => "dict"
/-- of a scalar -/
def isS : Ty → V → Bool
  | .int, .int _ => true
  | .int, .bl _ => true
  | .bool, .bl _ => true
  | .str, .str _ => true
  | _, _ => false
/-- of an object that is a list, a tuple, a dict -/
inductive Ob | list | tuple | dict
def Ob.nm : Ob → String
  | .list => "list" | .tuple => "tuple" | .dict => "dict"
def isO : Ty → Ob → Bool
  | .list, .list => true
  | .tuple, .tuple => true
  | .dict, .dict => true
  | _, _ => false
def uIsi (K : PySem.W.Frag) (n : Ty) : List V → Hp → VK → Prop := fun xs H Q => match xs with
  | [.int i, .ty m] => m = n.nm ∧ Q (.bl (isS n (.int i))) H
  | [.bl i, .ty m] => m = n.nm ∧ Q (.bl (isS n (.bl i))) H
  | [.str i, .ty m] => m = n.nm ∧ Q (.bl (isS n (.str i))) H
  | [.non, .ty m] => m = n.nm ∧ Q (.bl (isS n .non)) H
  | [.ref a, .ty m] => m = n.nm ∧ ∃ o : Ob, TyX K H (.ref a) (.type o.nm) ∧ Q (.bl (isO n o)) H
  | _ => False
theorem kit_int : ∀ n : Ty, kitB "int" n.nm = some (isS n (.int 0)) := fun n => by cases n <;> decide +kernel
theorem kit_bool : ∀ n : Ty, kitB "bool" n.nm = some (isS n (.bl true)) := fun n => by cases n <;> decide +kernel
theorem kit_str : ∀ n : Ty, kitB "str" n.nm = some (isS n (.str Str.empty)) := fun n => by cases n <;> decide +kernel
theorem kit_non : ∀ n : Ty, kitB "NoneType" n.nm = some (isS n .non) := fun n => by cases n <;> decide +kernel
theorem kit_obj : ∀ (n : Ty) (o : Ob), kitB o.nm n.nm = some (isO n o) := fun n o => by cases n <;> cases o <;> decide +kernel
theorem c_isi (n : Ty) : CallR X (.builtin "isinstance") (uIsi X.K n) := by
  refine wC call_isi fun xs H Q q => ?_
  unfold uIsi at q
  split at q
  · obtain ⟨rfl, q⟩ := q
    exact ⟨_, _, .type "int", .type n.nm, _, rfl, .ty n.nm, .base (.int _), kit_ty (kit_int n), by cases n <;> exact q⟩
  · obtain ⟨rfl, q⟩ := q
    exact ⟨_, _, .type "bool", .type n.nm, _, rfl, .ty n.nm, .base (.bl _), kit_ty (kit_bool n), by cases n <;> exact q⟩
  · obtain ⟨rfl, q⟩ := q
    exact ⟨_, _, .type "str", .type n.nm, _, rfl, .ty n.nm, .base (.str _), kit_ty (kit_str n), by cases n <;> exact q⟩
  · obtain ⟨rfl, q⟩ := q
    exact ⟨_, _, .type "NoneType", .type n.nm, _, rfl, .ty n.nm, .base .non, kit_ty (kit_non n), by cases n <;> exact q⟩
  · obtain ⟨rfl, o, t, q⟩ := q
    exact ⟨_, _, .type o.nm, .type n.nm, _, rfl, .ty n.nm, t, kit_ty (kit_obj n o), q⟩
  · exact q.elim
end calls
section own
variable {X : Cx} {k : Nat} {f C : Addr} {fd : FuncData} {ps : List Str} {sp : Sp} {W : WX} {x m : Str} {p pos apos : Pos} {e o : Expr} {es : List Expr} {ta : TE} {t : TA}
def uCall (sp : Sp) (W : WX) (t : TA) : TE := fun σ H Q => t σ H fun vs H1 => sp vs H1 Q fun c d H2 => W c d σ H2
theorem e_call (F : FnOk X.prog X.w X.K X.mg X.base (L2.CX X.prog X.w) k f fd ps sp) (hr : Room k X.A) (hm : X.mg x = some (.ref f)) (hk : PySem.W.keepIn X.K (.ref f) = true) (hb : Binds X.K fd ps []) (tk : Takes X W)
    (ha : PA X (e :: es) t) (hg : Gl X x := by rfl) (hdb : (x == ("__debug__" : Str)) = false := by decide) (he : starEach (e :: es) X.env = (false, eval e X.env) :: starEach es X.env := by rfl) (hpl : (backTo pos (starEach es X.env)).any (·.1) = false := by rfl) :
    PE X (.Call (.Name x p) (e :: es) [] pos) (uCall sp W t) := pe_callS (E := WE W) F hr hg hm hk hb (fun σ => passAt tk σ) ha hdb he hpl
theorem e_call0 (F : FnOk X.prog X.w X.K X.mg X.base (L2.CX X.prog X.w) k f fd ps sp) (hr : Room k X.A) (hm : X.mg x = some (.ref f)) (hk : PySem.W.keepIn X.K (.ref f) = true) (hb : Binds X.K fd ps []) (tk : Takes X W)
    (hg : Gl X x := by rfl) (hdb : (x == ("__debug__" : Str)) = false := by decide) : PE X (.Call (.Name x p) [] [] pos) (uCall sp W tNil) :=
  ⟨fun _ _ σ _ _ I h => wpAny_Call_Name_kw (ld_glob I hg hm (PySem.W.callWith_K0 I.kIn hk (run_fnS (us := []) (E := WE W) F hr hb (passAt tk σ) I .nil h)) hdb)⟩
/-- o.m(..) -/
def uMeth (C : Addr) (m : Str) (sp : Sp) (W : WX) (ta : TE) (t : TA) : TE := fun σ H Q => ta σ H fun x H1 => ∃ a dx fs, x = .ref a ∧ H1 a = some (.ins C dx fs) ∧ fs.lookup m = none ∧
  t σ H1 fun vs H2 => sp (x :: vs) H2 Q fun c d H3 => W c d σ H3
theorem e_meth {pl : Sem Bool} (ho : PE X o ta) (c : Cls X.K C) (hm : Meth X.K C m f) (F : FnOk X.prog X.w X.K X.mg X.base (L2.CX X.prog X.w) k f fd ps sp) (hr : Room k X.A) (hb : Binds X.K fd ps []) (tk : Takes X W) (ha : PA X (e :: es) t)
    (hst : starEach (e :: es) X.env = (false, eval e X.env) :: starEach es X.env := by rfl) (hpl : (backTo pos (starEach es X.env)).any (·.1) = false := by rfl)
    (ht : eval (.Call (.Attribute o m apos) (e :: es) [] pos) X.env = (do let ov ← eval o X.env; standAt apos.atName; let (f, first) ← holding [ov] (getMethod ov m pl); callWith pos f first (backTo pos (starEach (e :: es) X.env)) (backToKw pos (keywordEach [] X.env))) := by rfl) :
    PE X (.Call (.Attribute o m apos) (e :: es) [] pos) (uMeth C m sp W ta t) := by
  refine ⟨fun pins s σ H Q I h => PySem.W.methodCall_KW (pl := pl) (thn (ho.run pins s σ H _ I h) fun u s1 hh => ?_) ht⟩
  obtain ⟨x, H1, I1, rx, a, dx, fs, rfl, ea, l, q⟩ := hh
  cases (show u = Value.ref a from rx)
  refine getmeth_ok I1 ea c hm l (PySem.W.callWith_K (first := [.ref a]) (h₀ := X.base) I.ok.mod.kin hm.kp (thn (ha.run pos pins s1 σ H1 _ I1 q) fun us s2 hh => ?_) hst hpl)
  obtain ⟨vs, H2, I2, r, q2⟩ := hh
  exact ⟨I2.kIn, run_fnS (us := .ref a :: us) (vs := .ref a :: vs) (E := WE W) F hr hb (passAt tk σ) I2 (.cons rfl r) q2⟩
theorem e_meth0 {pl : Sem Bool} (ho : PE X o ta) (c : Cls X.K C) (hm : Meth X.K C m f) (F : FnOk X.prog X.w X.K X.mg X.base (L2.CX X.prog X.w) k f fd ps sp) (hr : Room k X.A) (hb : Binds X.K fd ps []) (tk : Takes X W)
    (ht : eval (.Call (.Attribute o m apos) [] [] pos) X.env = (do let ov ← eval o X.env; standAt apos.atName; let (f, first) ← holding [ov] (getMethod ov m pl); callWith pos f first (backTo pos (starEach [] X.env)) (backToKw pos (keywordEach [] X.env))) := by rfl) :
    PE X (.Call (.Attribute o m apos) [] [] pos) (uMeth C m sp W ta tNil) := by
  refine ⟨fun pins s σ H Q I h => PySem.W.methodCall_KW (pl := pl) (thn (ho.run pins s σ H _ I h) fun u s1 hh => ?_) ht⟩
  obtain ⟨x, H1, I1, rx, a, dx, fs, rfl, ea, l, q⟩ := hh
  cases (show u = Value.ref a from rx)
  exact getmeth_ok I1 ea c hm l (PySem.W.callWith_K0 (first := [.ref a]) I1.kIn hm.kp (run_fnS (us := [.ref a]) (vs := [.ref a]) (E := WE W) F hr hb (passAt tk σ) I1 (.cons rfl .nil) q))
/-- what a body wants of exceptions, as a wish -/
abbrev WB (E : XK) : WX := fun c d _ H => E c d H
/-- C(..), what is raised goes to W at the slots -/
def uMake (C : Addr) (sp : Sp) (W : WX) (t : TA) : TE := fun σ H Q => t σ H fun vs H1 => ∀ x dx, H1 x = none → H1 dx = none → dx ≠ x → sp (.ref x :: vs) (upd (upd H1 dx (.own x)) x (.ins C dx [])) (fun v H2 => v = .non ∧ Q (.ref x) H2) fun c d H2 => W c d σ H2
theorem make_at {pins : List (Addr × Obj)} {σ : L2.St} {H : Hp} {s : Shared} {Q : VK} {us : List Value} {vs : List V} (M : Mk X.K C f) (F : FnOk X.prog X.w X.K X.mg X.base (L2.CX X.prog X.w) k f fd ps sp) (hr : Room (k + 1) X.A) (hb : Binds X.K fd ps []) (tk : Takes X W)
    (I : Inv X pins σ H s) (r : Vals vs us)
    (h : ∀ x dx, H x = none → H dx = none → dx ≠ x → sp (.ref x :: vs) (upd (upd H dx (.own x)) x (.ins C dx [])) (fun v H2 => v = .non ∧ Q (.ref x) H2) fun c d H2 => W c d σ H2) :
    wpAny (model X.prog X.w) X.A (call (.ref C) us) (EP X pins σ Q) X.xe s := by
  let n := s.heap.objs.size
  have q0 : sp (.ref (n + 1) :: vs) _ _ _ := h (n + 1) n (I.hok.fresh (Nat.le_succ n)) (I.hok.fresh (Nat.le_refl n)) (Nat.ne_of_lt n.lt_succ_self)
  have J := Inv.made (C := C) I
  have rr : Vals (V.ref (n + 1) :: vs) (Value.ref (n + 1) :: us) := .cons rfl r
  have size : (Value.ref (n + 1) :: us).length = ps.length := rr.length.symm.trans (F.len _ _ _ _ q0)
  have go := F.run _ X.stack _ _ ⟨Value.ref (n + 1) :: us, []⟩ (Value.ref (n + 1) :: us) _ _ _ (hr.make C us []) (J.env0.make C us []) (by have z := hb _ (Value.ref (n + 1) :: us) J.kIn (by rw [List.append_nil]; exact size); rw [List.append_nil] at z; exact z) rr q0
  refine wpAny_call (make_map (f := f) I.kIn M.makes M.init (beq_iff_eq.mp M.fn) (codeAny_mono go ?_))
  rintro (e | fl) s' hq
  · exact passAt tk σ pins _ _ e s' J hq
  · cases fl with
    | ret u =>
      obtain ⟨v, H', I3, rv, ev, z⟩ := J.after hq
      cases ev
      exact ⟨rv, .ref (n + 1), H', I3, rfl, z⟩
    | next => exact hq.elim
    | brk => exact hq.elim
    | cont => exact hq.elim
theorem e_mk (M : Mk X.K C f) (F : FnOk X.prog X.w X.K X.mg X.base (L2.CX X.prog X.w) k f fd ps sp) (hr : Room (k + 1) X.A) (hm : X.mg x = some (.ref C)) (hb : Binds X.K fd ps []) (tk : Takes X W) (ha : PA X (e :: es) t)
    (hg : Gl X x := by rfl) (hdb : (x == ("__debug__" : Str)) = false := by decide) (he : starEach (e :: es) X.env = (false, eval e X.env) :: starEach es X.env := by rfl) (hpl : (backTo pos (starEach es X.env)).any (·.1) = false := by rfl) :
    PE X (.Call (.Name x p) (e :: es) [] pos) (uMake C sp W t) :=
  ⟨fun pins s σ H Q I h => wpAny_Call_Name_kw (ld_glob I hg hm (PySem.W.callWith_K (h₀ := X.base) I.ok.mod.kin M.kp (thn (ha.run pos pins s σ H _ I h) fun us s1 hh => by
    obtain ⟨vs, H1, I1, r, q⟩ := hh
    exact ⟨I1.kIn, make_at M F hr hb tk I1 r q⟩) he hpl) hdb)⟩
/-- what the top has of an own exception class -/
structure Exc (K : PySem.W.Frag) (mg : Str → Option Value) (n : Str) (C : Addr) : Prop where
  ex : PySem.W.excIn K C [.type "ValueError", .type "Exception", .type "BaseException", .type "object"] "ValueError.__new__" = true
  g : mg n = some (.ref C)
  kp : PySem.W.keepIn K (.ref C) = true
  sub : PySem.W.subIn K (.ref C) (.type "BaseException") = some true
  ty : PySem.W.typeIn K (.ref C) = some (.type "type")
def uRaise (C : Addr) (W : WX) : TS := fun _ σ H => W (.ref C) none σ H
theorem pmk0 {n : Str} (T : Exc X.K X.mg n C) (hg : Gl X n := by rfl) (hdb : (n == ("__debug__" : Str)) = false := by decide) : PMk X (.Call (.Name n p) [] [] pos) (fun _ H Q => Q (.ref C) none H) := by
  intro pins s σ H Q I h
  refine wpAny_Call_Name_kw (ld_glob I hg T.g (PySem.W.callWith_K0 I.kIn T.kp ?_) hdb)
  obtain ⟨bm, N, nm, qn, bs, hdct, sn, sub, ab, col, dd, k0, k1, k2, k3, k5, mN, hC, hN, hni, Z⟩ := exc_obj I.kIn T.ex
  exact wpAny_call_exc_subT PySem.F.excBase_ValueError Z hC hN hni (fun h' e hm => mk_of I hm (raises_own T.sub T.ty) h (I.hok.gone hm.new)) (Nat.zero_le _)
theorem s_raise {n : Str} (T : Exc X.K X.mg n C) (tk : Takes X W) {pos2 : Pos} (hc : X.calm = true := by rfl) (hg : Gl X n := by rfl) (hdb : (n == ("__debug__" : Str)) = false := by decide) :
    PS X (.Raise (some (.Call (.Name n p) [] [] pos)) none pos2) (uRaise C W) := ps_raise hc tk (pmk0 T hg hdb)
end own
section tries
variable {X : Cx} {x n : Str} {c : Value} {i : Nat} {body suite : List Stmt} {b₀ : Stmt} {np pos pos' : Pos} {tb : WX → TS} {ts : Addr → Value → Option Addr → TS} {W : WX}
def uTryAs (K : PySem.W.Frag) (c : Value) (i : Nat) (tb : WX → TS) (ts : Addr → Value → Option Addr → TS) (W : WX) : TS := fun D σ H => tb (wAs K c i ts W D) D σ H
def uTry (K : PySem.W.Frag) (c : Value) (tb : WX → TS) (ts : Addr → Value → Option Addr → TS) (W : WX) : TS := fun D σ H => tb (wOnly K c ts W D) D σ H
theorem s_tryAs (hs : X.stack = X.env :: X.outer) (hf : X.env.frame = some X.env.locals) (hN : X.N.Nodup) (hi : X.N[i]? = some n) (hln : X.env.kindOf n = some .local) (hc : Names X x c) (tk : Takes X W)
    (hb : ∀ (W' : WX) (pn : List (Addr × Obj)) (xe : Value → Shared → Prop), Takes (X.tr pn xe) W' → PassesOwn (model X.prog X.w) X.A X.env xe → PSs (X.tr pn xe) body (tb W'))
    (hsu : ∀ (a : Addr) (oe : Obj) (cls : Value) (d : Option Addr) (pn : List (Addr × Obj)), Zc cls d oe → (∃ vs, oe.data = .fields vs) → PSs (X.suite a ((a, oe) :: pn)) (b₀ :: suite) (ts a cls d)) :
    PS X (.Try body [.ExceptHandler (some (.Name x np)) (some n) (b₀ :: suite) pos'] [] [] pos) (uTryAs X.K c i tb ts W) := ps_try_as hs hf hN hi hln hc tk hb hsu
theorem w_tryAs {K : PySem.W.Frag} {D : Ends} {σ : L2.St} {H : Hp} (h : tb (wAs K c i ts W D) D σ H) : uTryAs K c i tb ts W D σ H := h
theorem w_try {K : PySem.W.Frag} {D : Ends} {σ : L2.St} {H : Hp} (h : tb (wOnly K c ts W D) D σ H) : uTry K c tb ts W D σ H := h
theorem w_asT {K : PySem.W.Frag} {D : Ends} {σ : L2.St} {H : Hp} {cls : Value} {d : Option Addr} (e : PySem.W.exmOne K cls c = some true)
    (h : ∀ a, H a = none → ts a cls d { nx := fun σ' H' => D.nx (σ'.set i none) H', rt := D.rt, bk := fun σ' H' => D.bk (σ'.set i none) H', ct := fun σ' H' => D.ct (σ'.set i none) H' } (σ.set i (some (.ref a))) H) :
    wAs K c i ts W D cls d σ H := ⟨true, e, fun _ => h, fun q => Bool.noConfusion q⟩
theorem w_asF {K : PySem.W.Frag} {D : Ends} {σ : L2.St} {H : Hp} {cls : Value} {d : Option Addr} (e : PySem.W.exmOne K cls c = some false) (h : W cls d σ H) : wAs K c i ts W D cls d σ H := ⟨false, e, fun q => Bool.noConfusion q, fun _ => h⟩
theorem w_onT {K : PySem.W.Frag} {D : Ends} {σ : L2.St} {H : Hp} {cls : Value} {d : Option Addr} (e : PySem.W.exmOne K cls c = some true) (h : ∀ a, H a = none → ts a cls d D σ H) : wOnly K c ts W D cls d σ H := ⟨true, e, fun _ => h, fun q => Bool.noConfusion q⟩
theorem w_onF {K : PySem.W.Frag} {D : Ends} {σ : L2.St} {H : Hp} {cls : Value} {d : Option Addr} (e : PySem.W.exmOne K cls c = some false) (h : W cls d σ H) : wOnly K c ts W D cls d σ H := ⟨false, e, fun q => Bool.noConfusion q, fun _ => h⟩
/-- isinstance(e, C) of the exception that a suite holds -/
def uIsE (K : PySem.W.Frag) (a : Addr) (cls : Value) (d : Option Addr) : List V → Hp → VK → Prop := fun xs H Q => ∃ (D C : Addr) (b : Bool), cls = .ref D ∧ d = none ∧ ExcC K D ∧ xs = [.ref a, .ref C] ∧ PySem.W.kitOne K (.ref D) (.ref C) = some b ∧ Q (.bl b) H
theorem c_isE {a : Addr} {oe : Obj} {cls : Value} {d : Option Addr} {pn : List (Addr × Obj)} (hz : Zc cls d oe) (hf : ∃ vs, oe.data = .fields vs) : CallR (X.suite a ((a, oe) :: pn)) (.builtin "isinstance") (uIsE X.K a cls d) := by
  intro pins s σ H xs us Q I r h
  obtain ⟨D, C, b, rfl, rfl, x, rfl, e, q⟩ := h
  exact call_isE x hz hf pins s σ H _ us Q I r ⟨.ref C, .ref C, b, rfl, fun u h => h, e, q⟩
theorem w_isE {K : PySem.W.Frag} {H : Hp} {Q : VK} {a D C : Addr} {b : Bool} (x : ExcC K D) (e : PySem.W.kitOne K (.ref D) (.ref C) = some b) (h : Q (.bl b) H) : uIsE K a (.ref D) none [.ref a, .ref C] H Q := ⟨D, C, b, rfl, rfl, x, rfl, e, h⟩
theorem kit_ne {K : PySem.W.Frag} {R A : Addr} {b : Bool} (n : (Value.ref R == Value.ref A) = false) (h1 : PySem.W.subIn K (.ref A) (.type "BaseException") = some true) (hd : PySem.W.hasDictIn K A = true) (ht : PySem.W.typeIn K (.ref A) = some (.type "type")) (h4 : PySem.W.subIn K (.ref R) (.ref A) = some b) : PySem.W.kitOne K (.ref R) (.ref A) = some b := by
  have z := PySem.W.exm_ref h1 hd ht h4
  have e1 : (PySem.W.subIn K (.ref A) (.type "BaseException") == some true) = true := by rw [h1]; rfl
  unfold PySem.W.exmOne at z
  rw [if_pos e1] at z
  unfold PySem.W.kitOne
  rw [if_neg (by rw [n]; exact Bool.false_ne_true)]
  exact z
theorem kit_same {K : PySem.W.Frag} {R : Addr} : PySem.W.kitOne K (.ref R) (.ref R) = some true := by
  unfold PySem.W.kitOne
  rw [if_pos (beq_self_eq_true _)]
end tries
section fields
variable {X : Cx} {C : Addr} {f : Str} {e o v : Expr} {ta tv : TE} {pos pos' : Pos}
def uFld (C : Addr) (f : Str) (ta : TE) : TE := fun σ H Q => ta σ H fun x H1 => ∃ a dx fs v, x = .ref a ∧ H1 a = some (.ins C dx fs) ∧ fs.lookup f = some v ∧ Q v H1
theorem e_fld (c : Cls X.K C) (n : NoAttr X.K C f) (he : PE X e ta) (hb : attributeBase e f X.env (eval e X.env) = eval e X.env := by rfl) : PE X (.Attribute e f pos) (uFld C f ta) :=
  ⟨fun pins s σ H Q I h => attr_of hb (thn (he.run pins s σ H _ I h) fun u s1 hh => by
    obtain ⟨x, H1, I1, rx, a, dx, fs, v, rfl, ea, l, q⟩ := hh
    cases (show u = Value.ref a from rx)
    exact getattr_ok I1 ea c n l fun u' s2 I2 ru => ⟨v, H1, I2, ru, q⟩)⟩
def uSetF (C : Addr) (f : Str) (ta tv : TE) : TS := fun D σ H => tv σ H fun y H1 => ta σ H1 fun x H2 => ∃ a dx fs, x = .ref a ∧ H2 a = some (.ins C dx fs) ∧ fs.length < 1000 ∧ D.nx σ (upd H2 a (.ins C dx (putF f y fs)))
theorem s_fld (c : Cls X.K C) (n : NoAttr X.K C f) (ho : PE X o ta) (hv : PE X v tv) (hs : swapsWith v (some (.Attribute o f pos')) pos.line X.env = pure false := by rfl) : PS X (.Assign [.Attribute o f pos'] v pos) (uSetF C f ta tv) :=
  ⟨fun pins s σ H D I h => plainObj_wpAny_Assign_Attribute (thn (hv.run pins s σ H _ I h) fun u s1 ⟨y, H1, I1, ry, q⟩ => thn (ho.run pins s1 σ H1 _ I1 q) fun ov s2 hh => by
    obtain ⟨x, H2, I2, rx, a, dx, fs, rfl, ea, l, q2⟩ := hh
    cases (show ov = Value.ref a from rx)
    exact setattr_ok I2 ea c n l ry fun s3 I3 => ⟨σ, _, I3, q2⟩) hs⟩
/-- o.f += e -/
def uAugF (C : Addr) (f : Str) (r : V → V → Hp → VK → Prop) (ta tv : TE) : TS := fun D σ H => ta σ H fun x H1 => ∃ a dx fs v, x = .ref a ∧ H1 a = some (.ins C dx fs) ∧ fs.lookup f = some v ∧
  tv σ H1 fun y H2 => r v y H2 fun z H3 => ∃ dx' fs', H3 a = some (.ins C dx' fs') ∧ fs'.length < 1000 ∧ D.nx σ (upd H3 a (.ins C dx' (putF f z fs')))
theorem s_augf {op : Operator} {r : V → V → Hp → VK → Prop} {tpos : Pos} (c : Cls X.K C) (n : NoAttr X.K C f) (ho : PE X o ta) (hv : PE X v tv) (hop : InOp X op r) : PS X (.AugAssign (.Attribute o f tpos) op v pos) (uAugF C f r ta tv) :=
  ⟨fun pins s σ H D I h => wpAny_AugAssign_AttributeAny (thn (ho.run pins s σ H _ I h) fun ov s1 hh => by
    obtain ⟨x, H1, I1, rx, a, dx, fs, v, rfl, ea, l, q⟩ := hh
    cases (show ov = Value.ref a from rx)
    refine getattr_ok I1 ea c n l fun u s2 I2 ru => thn (hv.run pins s2 σ H1 _ I2 q) fun w3 s3 hh => ?_
    obtain ⟨y, H2, I3, ry, q3⟩ := hh
    refine thn (hop pins s3 σ H2 v y u w3 _ I3 ru ry q3) fun w4 s4 hh => ?_
    obtain ⟨z, H3, I4, rz, dx', fs', ea', l', q4⟩ := hh
    exact setattr_ok I4 ea' c n l' rz fun s5 I5 => ⟨σ, _, I5, q4⟩)⟩
end fields
section truth
variable {X : Cx} {e : Expr} {te : TE}
def truV (K : PySem.W.Frag) (x : V) (H1 : Hp) (Q : Bool → Hp → Prop) : Prop := match x with
  | .bl b => Q b H1
  | .non => Q false H1
  | .int i => Q (!decide (i = 0)) H1
  | .str z => z.length ≤ sizeLine ∧ Q (!decide (z.length = 0)) H1
  | .ref p => (∃ xs, (SqL K H1 p xs ∨ SqT K H1 p xs) ∧ Q (!xs.isEmpty) H1) ∨ ∃ kvs, H1 p = some (.dK kvs) ∧ Q (!kvs.isEmpty) H1
  | _ => False
def uTru (K : PySem.W.Frag) (te : TE) : TT := fun σ H Q => te σ H fun x H1 => truV K x H1 Q
theorem t_tru (he : PE X e te) (hw : ∀ whole, isTrue e X.env whole = (do let v ← whole; standAt e.pos; holding [v] (truthy v)) := by intro _; rfl) : PT X e (uTru X.K te) := by
  refine ⟨fun pins s σ H Q I h => isTrue_plain (thn (he.run pins s σ H _ I h) fun v s1 hh => ?_) (hw _)⟩
  obtain ⟨x, H1, I1, r1, q⟩ := hh
  refine tru_ok pins s1 σ H1 x v Q I1 r1 ?_
  unfold truV at q
  split at q
  · exact ⟨_, rfl, q⟩
  · exact ⟨_, rfl, q⟩
  · rename_i i
    refine ⟨_, rfl, ?_⟩
    rw [show (i != 0) = !decide (i = 0) by rw [bne, Bool.beq_eq_decide_eq]]
    exact q
  · rename_i z
    refine ⟨_, ⟨q.1, rfl⟩, ?_⟩
    rw [show ((z.length : Int) != 0) = !decide (z.length = 0) by rw [bne, Bool.beq_eq_decide_eq]; congr 1; exact decide_eq_decide.mpr (by omega)]
    exact q.2
  · rcases q with ⟨xs, a | a, q⟩ | ⟨kvs, a, q⟩
    · exact ⟨_, .inl ⟨xs, a, rfl⟩, q⟩
    · exact ⟨_, .inr (.inl ⟨xs, a, rfl⟩), q⟩
    · exact ⟨_, .inr (.inr ⟨kvs, a, rfl⟩), q⟩
  · exact q.elim
end truth
def forQ (g : TG) (tb : TS) (D : Ends) (σ : L2.St) (J : It) (H1 : Hp) : Prop := ∃ W : Nat → Nat → L2.St → Hp → Prop, (∃ m, W 0 m σ H1) ∧ ∀ i m σ H, W i m σ H →
  (J.stop i H ∧ D.nx σ H) ∨ (J.go i H ∧ ∃ N : L2.St → Hp → Prop, (∀ σ' H', N σ' H' → ∃ m', m' < m ∧ W (i + 1) m' σ' H') ∧ ∀ x H', J.yld i H x H' → g x σ H' fun σ2 H2 => tb { D with nx := N, ct := N, bk := D.nx } σ2 H2)
def newT (xs : List V) (H1 : Hp) (Q : VK) : Prop := xs.length ≤ sizeLine ∧ ∀ p, H1 p = none → Q (.ref p) (upd H1 p (.tup xs))
def newL (xs : List V) (H1 : Hp) (Q : VK) : Prop := xs.length ≤ sizeLine ∧ ∀ p, H1 p = none → Q (.ref p) (upd H1 p (.lst xs))
def bmQ (K : PySem.W.Frag) (T : String) (q : V → List V → Hp → VK → Prop) (tA : TA) (σ : L2.St) (x : V) (H1 : Hp) (Q : VK) : Prop := tyV K T x H1 ∧ tA σ H1 fun xs H2 => q x xs H2 Q
def rng1Q (vs : List V) (H1 : Hp) (R : It → Hp → Prop) : Prop := ∃ j : Int, vs = [.int j] ∧ -(2 ^ 62) ≤ j ∧ j < 2 ^ 62 ∧ R (Itr 0 j.toNat) H1
def rng2Q (vs : List V) (H1 : Hp) (R : It → Hp → Prop) : Prop := ∃ i j : Int, vs = [.int i, .int j] ∧ (-(2 ^ 62) ≤ i ∧ i < 2 ^ 62 ∧ -(2 ^ 62) ≤ j ∧ j < 2 ^ 62) ∧ R (Itr i (j - i).toNat) H1
def listQ (K : PySem.W.Frag) (x : V) (H1 : Hp) (R : It → Hp → Prop) : Prop := ∃ a, x = .ref a ∧ (∃ xs, SqL K H1 a xs) ∧ R (Itl K a) H1
def tupQ (K : PySem.W.Frag) (x : V) (H1 : Hp) (R : It → Hp → Prop) : Prop := ∃ a, x = .ref a ∧ (∃ xs, SqT K H1 a xs) ∧ R (Itt K a) H1
def strQ (x : V) (H1 : Hp) (R : It → Hp → Prop) : Prop := ∃ z, x = .str z ∧ R (Its z) H1
def revQ (K : PySem.W.Frag) (vs : List V) (H1 : Hp) (R : It → Hp → Prop) : Prop := ∃ (a : Addr) (xs : List V), vs = [.ref a] ∧ SqL K H1 a xs ∧ R (Itv K a xs.length) H1
def fldQ (C : Addr) (f : Str) (x : V) (H1 : Hp) (Q : VK) : Prop := ∃ a dx fs v, x = .ref a ∧ H1 a = some (.ins C dx fs) ∧ fs.lookup f = some v ∧ Q v H1
def methQ (C : Addr) (m : Str) (sp : Sp) (W : WX) (t : TA) (σ : L2.St) (x : V) (H1 : Hp) (Q : VK) : Prop := ∃ a dx fs, x = .ref a ∧ H1 a = some (.ins C dx fs) ∧ fs.lookup m = none ∧ t σ H1 fun vs H2 => sp (x :: vs) H2 Q fun c d H3 => W c d σ H3
def setfQ (C : Addr) (f : Str) (x y : V) (H2 : Hp) (N : Hp → Prop) : Prop := ∃ a dx fs, x = .ref a ∧ H2 a = some (.ins C dx fs) ∧ fs.length < 1000 ∧ N (upd H2 a (.ins C dx (putF f y fs)))
section steps
variable {K : PySem.W.Frag} {D : Ends} {σ : L2.St} {H : Hp} {Q : VK} {QB : Bool → Hp → Prop} {QA : List V → Hp → Prop} {t u : TS} {te ta tb tv : TE} {tA : TA} {c c1 c2 : TT} {g : TG} {i : Nat} {v x y : V} {r r' : R2} {W : WX} {sp : Sp} {b : Bool} {C a : Addr} {f : Str}
theorem w_seq (h : t { D with nx := u D } σ H) : tSeq t u D σ H := h
theorem w_cut (P : L2.St → Hp → Prop) (h1 : t { D with nx := P } σ H) (h2 : ∀ σ H, P σ H → u D σ H) : tCut t u D σ H := ⟨P, h1, h2⟩
theorem w_next (h : D.nx σ H) : tNext D σ H := h
theorem w_asg (h : te σ H fun x H1 => g x σ H1 D.nx) : tAsg te g D σ H := h
theorem w_name {N : L2.St → Hp → Prop} (h : N (σ.set i (some v)) H) : gName i v σ H N := h
theorem w_ret (h : te σ H D.rt) : tRet te D σ H := h
theorem w_retN (h : D.rt .non H) : tRetN D σ H := h
theorem w_if (h : c σ H fun b H1 => if b = true then t D σ H1 else u D σ H1) : tIfS c t u D σ H := h
theorem w_drop (h : te σ H fun _ H1 => D.nx σ H1) : tDrop te D σ H := h
theorem w_brk (h : D.bk σ H) : tBreak D σ H := h
theorem w_cont (h : D.ct σ H) : tCont D σ H := h
theorem w_aug {ti : TIp} (e : σ[i]? = some (some x)) (h : te σ H fun y H1 => ti x y H1 fun z H2 => D.nx (σ.set i (some z)) H2) : tAug i te ti D σ H := ⟨x, e, h⟩
theorem w_ipI {k : Int → Int → Int} {m n : Int} (h : Q (.int (k m n)) H) : ipI k (.int m) (.int n) H Q := ⟨m, n, rfl, rfl, h⟩
theorem w_test (h : te σ H fun x H1 => ∃ k, x = .bl k ∧ QB k H1) : tTest te σ H QB := h
theorem w_not (h : c σ H fun k H1 => QB (!k) H1) : tNot c σ H QB := h
theorem w_and (h : c1 σ H fun k H1 => if k = true then c2 σ H1 QB else QB false H1) : tAnd c1 c2 σ H QB := h
theorem w_or (h : c1 σ H fun k H1 => if k = true then QB true H1 else c2 σ H1 QB) : tOr c1 c2 σ H QB := h
theorem w_andV (h : ta σ H fun x H1 => ∃ k, x = .bl k ∧ if k = true then tb σ H1 Q else Q (.bl false) H1) : tAndV ta tb σ H Q := h
theorem w_orV (h : ta σ H fun x H1 => ∃ k, x = .bl k ∧ if k = true then Q (.bl true) H1 else tb σ H1 Q) : tOrV ta tb σ H Q := h
theorem w_notV (h : ta σ H fun x H1 => ∃ k, x = .bl k ∧ Q (.bl (!k)) H1) : tNotV ta σ H Q := h
theorem w_blP {P : Bool → Prop} (h : P b) : ∃ k, V.bl b = .bl k ∧ P k := ⟨b, rfl, h⟩
theorem w_ifE (h : c σ H fun k H1 => if k = true then ta σ H1 Q else tb σ H1 Q) : tIf c ta tb σ H Q := h
theorem w_var (e : σ[i]? = some (some v)) (h : Q v H) : tVar i σ H Q := ⟨v, e, h⟩
theorem w_c (h : Q v H) : tC v σ H Q := h
theorem w_op (h : ta σ H fun x H1 => tb σ H1 fun y H2 => r x y H2 Q) : tOp r ta tb σ H Q := h
theorem w_un {ru : V → Hp → VK → Prop} (h : ta σ H fun x H1 => ru x H1 Q) : tUn ru ta σ H Q := h
theorem w_neg {m : Int} (h : Q (.int (-m)) H) : uNeg (.int m) H Q := h
theorem w_chain {tc : TE} (h : ta σ H fun x H1 => tb σ H1 fun y H2 => r x y H2 fun z H3 => ∃ k, z = .bl k ∧ if k = true then tc σ H3 fun w H4 => r' y w H4 Q else Q (.bl false) H3) : tChain r r' ta tb tc σ H Q := h
theorem w_cons (h : te σ H fun x H1 => tA σ H1 fun xs H2 => QA (x :: xs) H2) : tCons te tA σ H QA := h
theorem w_nil (h : QA [] H) : tNil σ H QA := h
theorem w_tup (h : tA σ H fun xs H1 => newT xs H1 Q) : tTup tA σ H Q := h
theorem w_lst (h : tA σ H fun xs H1 => newL xs H1 Q) : tLst tA σ H Q := h
theorem small9 {n : Nat} (h : n ≤ 100000) : n ≤ sizeLine := Nat.le_trans h (by decide)
theorem w_newT {xs : List V} (s : xs.length ≤ 100000) (h : ∀ p, H p = none → Q (.ref p) (upd H p (.tup xs))) : newT xs H Q := ⟨small9 s, h⟩
theorem w_newL {xs : List V} (s : xs.length ≤ 100000) (h : ∀ p, H p = none → Q (.ref p) (upd H p (.lst xs))) : newL xs H Q := ⟨small9 s, h⟩
theorem w_add {m n : Int} (h : Q (.int (m + n)) H) : uAdd K (.int m) (.int n) H Q := h
theorem w_sub {m n : Int} (h : Q (.int (m - n)) H) : uSub (.int m) (.int n) H Q := h
theorem w_mul {m n : Int} (s : CMul m n) (h : Q (.int (m * n)) H) : uMul (.int m) (.int n) H Q := ⟨.inl s, h⟩
theorem w_div {m n : Int} (s : 0 < n ∧ n < 2 ^ 200) (h : Q (.int (m / n)) H) : uDiv (.int m) (.int n) H Q := ⟨s, h⟩
theorem w_mod {m n : Int} (s : 0 < n) (h : Q (.int (m % n)) H) : uMod (.int m) (.int n) H Q := ⟨s, h⟩
theorem w_pow {m n : Int} (s : CPow m n) (h : Q (.int (m ^ n.toNat)) H) : uPow (.int m) (.int n) H Q := ⟨s, h⟩
theorem w_eqI {m n : Int} (h : Q (.bl (decide (m = n))) H) : uEq K (.int m) (.int n) H Q := h
theorem w_eqS {m n : Str} (h : Q (.bl (decide (m = n))) H) : uEq K (.str m) (.str n) H Q := h
theorem w_eqB {m n : Bool} (h : Q (.bl (decide (m = n))) H) : uEq K (.bl m) (.bl n) H Q := h
theorem w_eqNI {n : Int} (h : Q (.bl false) H) : uEq K .non (.int n) H Q := .inl ⟨rfl, h⟩
theorem w_neNI {n : Int} (h : Q (.bl true) H) : uNe K .non (.int n) H Q := .inl ⟨rfl, h⟩
theorem w_eqIN {n : Int} (h : Q (.bl false) H) : uEq K (.int n) .non H Q := .inl ⟨rfl, h⟩
theorem w_neIN {n : Int} (h : Q (.bl true) H) : uNe K (.int n) .non H Q := .inl ⟨rfl, h⟩
theorem w_neI {m n : Int} (h : Q (.bl (!decide (m = n))) H) : uNe K (.int m) (.int n) H Q := h
theorem w_neS {m n : Str} (h : Q (.bl (!decide (m = n))) H) : uNe K (.str m) (.str n) H Q := h
theorem w_neB {m n : Bool} (h : Q (.bl (!decide (m = n))) H) : uNe K (.bl m) (.bl n) H Q := h
theorem w_lt {m n : Int} (h : Q (.bl (decide (m < n))) H) : uLt K (.int m) (.int n) H Q := h
theorem w_le {m n : Int} (h : Q (.bl (decide (m ≤ n))) H) : uLe K (.int m) (.int n) H Q := h
theorem w_gt {m n : Int} (h : Q (.bl (decide (n < m))) H) : uGt (.int m) (.int n) H Q := h
theorem w_ge {m n : Int} (h : Q (.bl (decide (n ≤ m))) H) : uGe K (.int m) (.int n) H Q := h
theorem w_cb {q : List V → Hp → VK → Prop} (h : tA σ H fun vs H1 => q vs H1 Q) : tCB q tA σ H Q := h
theorem w_call (h : tA σ H fun vs H1 => sp vs H1 Q fun c d H2 => W c d σ H2) : uCall sp W tA σ H Q := h
theorem w_tru (h : te σ H fun x H1 => truV K x H1 QB) : uTru K te σ H QB := h
theorem w_truB {b : Bool} (h : QB b H) : truV K (.bl b) H QB := h
theorem w_truN (h : QB false H) : truV K .non H QB := h
theorem w_truI {m : Int} (h : QB (!decide (m = 0)) H) : truV K (.int m) H QB := h
theorem w_isi_int_int {m : Int} (h : Q (.bl true) H) : uIsi K .int [(.int m), .ty "int"] H Q := ⟨rfl, h⟩
theorem w_isi_int_bl {m : Bool} (h : Q (.bl true) H) : uIsi K .int [(.bl m), .ty "int"] H Q := ⟨rfl, h⟩
theorem w_isi_int_str {m : Str} (h : Q (.bl false) H) : uIsi K .int [(.str m), .ty "int"] H Q := ⟨rfl, h⟩
theorem w_isi_int_non  (h : Q (.bl false) H) : uIsi K .int [.non, .ty "int"] H Q := ⟨rfl, h⟩
theorem w_isi_bool_int {m : Int} (h : Q (.bl false) H) : uIsi K .bool [(.int m), .ty "bool"] H Q := ⟨rfl, h⟩
theorem w_isi_bool_bl {m : Bool} (h : Q (.bl true) H) : uIsi K .bool [(.bl m), .ty "bool"] H Q := ⟨rfl, h⟩
theorem w_isi_bool_str {m : Str} (h : Q (.bl false) H) : uIsi K .bool [(.str m), .ty "bool"] H Q := ⟨rfl, h⟩
theorem w_isi_bool_non  (h : Q (.bl false) H) : uIsi K .bool [.non, .ty "bool"] H Q := ⟨rfl, h⟩
theorem w_isi_str_int {m : Int} (h : Q (.bl false) H) : uIsi K .str [(.int m), .ty "str"] H Q := ⟨rfl, h⟩
theorem w_isi_str_bl {m : Bool} (h : Q (.bl false) H) : uIsi K .str [(.bl m), .ty "str"] H Q := ⟨rfl, h⟩
theorem w_isi_str_str {m : Str} (h : Q (.bl true) H) : uIsi K .str [(.str m), .ty "str"] H Q := ⟨rfl, h⟩
theorem w_isi_str_non  (h : Q (.bl false) H) : uIsi K .str [.non, .ty "str"] H Q := ⟨rfl, h⟩
theorem w_isi_list_int {m : Int} (h : Q (.bl false) H) : uIsi K .list [(.int m), .ty "list"] H Q := ⟨rfl, h⟩
theorem w_isi_list_bl {m : Bool} (h : Q (.bl false) H) : uIsi K .list [(.bl m), .ty "list"] H Q := ⟨rfl, h⟩
theorem w_isi_list_str {m : Str} (h : Q (.bl false) H) : uIsi K .list [(.str m), .ty "list"] H Q := ⟨rfl, h⟩
theorem w_isi_list_non  (h : Q (.bl false) H) : uIsi K .list [.non, .ty "list"] H Q := ⟨rfl, h⟩
theorem w_isi_tuple_int {m : Int} (h : Q (.bl false) H) : uIsi K .tuple [(.int m), .ty "tuple"] H Q := ⟨rfl, h⟩
theorem w_isi_tuple_bl {m : Bool} (h : Q (.bl false) H) : uIsi K .tuple [(.bl m), .ty "tuple"] H Q := ⟨rfl, h⟩
theorem w_isi_tuple_str {m : Str} (h : Q (.bl false) H) : uIsi K .tuple [(.str m), .ty "tuple"] H Q := ⟨rfl, h⟩
theorem w_isi_tuple_non  (h : Q (.bl false) H) : uIsi K .tuple [.non, .ty "tuple"] H Q := ⟨rfl, h⟩
theorem w_is_int {m : Int} (h : Q (.bl false) H) : uIs (.int m) .non H Q := h
theorem w_isnt_int {m : Int} (h : Q (.bl true) H) : uIsnt (.int m) .non H Q := h
theorem w_is_bl {m : Bool} (h : Q (.bl false) H) : uIs (.bl m) .non H Q := h
theorem w_isnt_bl {m : Bool} (h : Q (.bl true) H) : uIsnt (.bl m) .non H Q := h
theorem w_is_str {m : Str} (h : Q (.bl false) H) : uIs (.str m) .non H Q := h
theorem w_isnt_str {m : Str} (h : Q (.bl true) H) : uIsnt (.str m) .non H Q := h
theorem w_is_non  (h : Q (.bl true) H) : uIs .non .non H Q := h
theorem w_isnt_non  (h : Q (.bl false) H) : uIsnt .non .non H Q := h
theorem w_is_ref {m : Addr} (h : Q (.bl false) H) : uIs (.ref m) .non H Q := h
theorem w_isnt_ref {m : Addr} (h : Q (.bl true) H) : uIsnt (.ref m) .non H Q := h
theorem ifNT {A B : Prop} (h : B) : if (!true) = true then A else B := iteF h
theorem ifNF {A B : Prop} (h : A) : if (!false) = true then A else B := iteT h
theorem w_max {m n : Int} (h : Q (.int (if n > m then n else m)) H) : uMax K [.int m, .int n] H Q := h
theorem w_min {m n : Int} (h : Q (.int (if n < m then n else m)) H) : uMin K [.int m, .int n] H Q := h
theorem w_abs {m : Int} (h : Q (.int (if m < 0 then -m else m)) H) : uAbs [.int m] H Q := h
theorem w_intI {m : Int} (h : Q (.int m) H) : uInt [.int m] H Q := h
theorem w_intB {m : Bool} (h : Q (.int (if m then 1 else 0)) H) : uInt [.bl m] H Q := h
theorem w_lenL {p : Addr} {xs : List V} (e : SqL K H p xs) (h : Q (.int xs.length) H) : uLen K [.ref p] H Q := .inl ⟨xs, .inl e, h⟩
theorem w_lenT {p : Addr} {xs : List V} (e : SqT K H p xs) (h : Q (.int xs.length) H) : uLen K [.ref p] H Q := .inl ⟨xs, .inr e, h⟩
theorem w_ixL {p : Addr} {xs : List V} {n : Int} {k : Nat} (e : SqL K H p xs) (ek : n = (k : Int)) (ev : xs[k]? = some v) (h : Q v H) : uIx K (.ref p) (.int n) H Q := ⟨xs, v, .inl e, by rw [ek]; exact atI_nat ev, h⟩
theorem w_ixT {p : Addr} {xs : List V} {n : Int} {k : Nat} (e : SqT K H p xs) (ek : n = (k : Int)) (ev : xs[k]? = some v) (h : Q v H) : uIx K (.ref p) (.int n) H Q := ⟨xs, v, .inr e, by rw [ek]; exact atI_nat ev, h⟩
theorem w_app {p : Addr} {xs : List V} (e : H p = some (.lst xs)) (s : xs.length < sizeLine) (h : Q .non (upd H p (.lst (xs ++ [y])))) : rAppend (.ref p) [y] H Q := ⟨p, xs, y, rfl, rfl, e, s, h⟩
theorem w_ixI {p : Addr} {ns : List Int} {n : Int} (e : SqL K H p (ns.map V.int)) (h0 : 0 ≤ n ∧ n.toNat < ns.length) (h : Q (.int (ns.getD n.toNat 0)) H) : uIx K (.ref p) (.int n) H Q :=
  ⟨_, .int (ns.getD n.toNat 0), .inl e, by
    have z : (ns.map V.int)[n.toNat]? = some (.int (ns.getD n.toNat 0)) := by rw [List.getElem?_map, List.getElem?_eq_getElem h0.2, List.getD_eq_getElem?_getD, List.getElem?_eq_getElem h0.2]; rfl
    have y := atI_nat z
    rw [show ((n.toNat : Nat) : Int) = n by omega] at y
    exact y, h⟩
theorem w_ixTI {p : Addr} {ns : List Int} {n : Int} (e : SqT K H p (ns.map V.int)) (h0 : 0 ≤ n ∧ n.toNat < ns.length) (h : Q (.int (ns.getD n.toNat 0)) H) : uIx K (.ref p) (.int n) H Q :=
  ⟨_, .int (ns.getD n.toNat 0), .inr e, by
    have z : (ns.map V.int)[n.toNat]? = some (.int (ns.getD n.toNat 0)) := by rw [List.getElem?_map, List.getElem?_eq_getElem h0.2, List.getD_eq_getElem?_getD, List.getElem?_eq_getElem h0.2]; rfl
    have y := atI_nat z
    rw [show ((n.toNat : Nat) : Int) = n by omega] at y
    exact y, h⟩
theorem w_appI {p : Addr} {ns : List Int} {z : Int} (e : H p = some (.lst (ns.map V.int))) (s : ns.length < 10000000) (h : Q .non (upd H p (.lst ((ns ++ [z]).map V.int)))) : rAppend (.ref p) [.int z] H Q :=
  ⟨p, _, _, rfl, rfl, e, by rw [List.length_map]; exact Nat.lt_of_lt_of_le s (by decide), by rw [List.map_append] at h; exact h⟩
theorem w_gsub {to ti : TE} {ts : TSet} {N : L2.St → Hp → Prop} (h : to σ H fun o H1 => ti σ H1 fun i H2 => ts o i v H2 fun H3 => N σ H3) : gSub to ti ts v σ H N := h
theorem ixN_in {n : Nat} {k : Int} (h : 0 ≤ k ∧ k.toNat < n) : ixN n k = some k.toNat := by unfold ixN; rw [if_pos h.1, if_pos (by omega)]
theorem w_setL {p : Addr} {xs : List V} {k : Int} {N : Hp → Prop} (e : H p = some (.lst xs)) (h0 : 0 ≤ k ∧ k.toNat < xs.length) (h : N (upd H p (.lst (xs.set k.toNat y)))) : uSet (.ref p) (.int k) y H N := .inl ⟨xs, _, e, ixN_in h0, h⟩
theorem w_ixA {p : Addr} {xs : List V} {n : Int} (e : SqL K H p xs) (h0 : 0 ≤ n ∧ n.toNat < xs.length) (h : ∀ v, xs[n.toNat]? = some v → Q v H) : uIx K (.ref p) (.int n) H Q :=
  ⟨xs, xs[n.toNat]'h0.2, .inl e, by
    have y := atI_nat (List.getElem?_eq_getElem h0.2)
    rw [show ((n.toNat : Nat) : Int) = n by omega] at y
    exact y, h _ (List.getElem?_eq_getElem h0.2)⟩
def partQ (x : V) (H1 : Hp) (Q : Option Int → Hp → Prop) : Prop := ∃ i, x = .int i ∧ Q (some i) H1
theorem w_sl {rs : V → Option Int → Option Int → Hp → VK → Prop} {tl th : TO} (h : te σ H fun x H1 => tl σ H1 fun l H2 => th σ H2 fun u H3 => rs x l u H3 Q) : tSl rs te tl th σ H Q := h
theorem w_part {Q : Option Int → Hp → Prop} (h : te σ H fun x H1 => partQ x H1 Q) : tPart te σ H Q := h
theorem w_partI {Q : Option Int → Hp → Prop} {n : Int} (h : Q (some n) H) : partQ (.int n) H Q := ⟨n, rfl, h⟩
theorem w_noPart {Q : Option Int → Hp → Prop} (h : Q none H) : tNoPart σ H Q := h
theorem cut_take (xs : List V) (k : Nat) : cutV xs none (some (k : Int)) = xs.take k := by
  unfold cutV
  rw [HT.sIx_nat, HT.sIx_none, List.drop_zero, Nat.sub_zero, ← List.take_take, List.take_length]
theorem cut_drop (xs : List V) (k : Nat) : cutV xs (some (k : Int)) none = xs.drop k := by
  unfold cutV
  rw [HT.sIx_nat, HT.sIx_none]
  rcases Nat.le_total k xs.length with h | h
  · rw [Nat.min_eq_left h]; exact List.take_of_length_le (by rw [List.length_drop]; exact Nat.le_refl _)
  · rw [Nat.min_eq_right h, List.drop_length, List.drop_eq_nil_of_le h, List.take_nil]
theorem w_slL {p : Addr} {xs : List V} {lo hi : Option Int} (e : SqL K H p xs) (h : ∀ q, H q = none → Q (.ref q) (upd H q (.lst (cutV xs lo hi)))) : uSl K (.ref p) lo hi H Q := .inl ⟨p, xs, rfl, e, h⟩
theorem w_ixTl {p : Addr} {xs : List V} {n : Int} (e : SqT K H p xs) (ev : xs[n.toNat]? = some v) (h0 : 0 ≤ n) (h : Q v H) : uIx K (.ref p) (.int n) H Q := w_ixT (k := n.toNat) e (by omega) ev h
theorem w_ixLl {p : Addr} {xs : List V} {n : Int} (e : SqL K H p xs) (ev : xs[n.toNat]? = some v) (h0 : 0 ≤ n) (h : Q v H) : uIx K (.ref p) (.int n) H Q := w_ixL (k := n.toNat) e (by omega) ev h
theorem w_bm {T : String} {q : V → List V → Hp → VK → Prop} (h : te σ H fun x H1 => bmQ K T q tA σ x H1 Q) : tBM K T q te tA σ H Q := h
theorem w_bmL {q : V → List V → Hp → VK → Prop} {p : Addr} {xs : List V} (e : H p = some (.lst xs)) (h : tA σ H fun vs H2 => q (.ref p) vs H2 Q) : bmQ K "list" q tA σ (.ref p) H Q := ⟨.inl ⟨rfl, _, .inl (.inl e)⟩, h⟩
theorem w_bmS {q : V → List V → Hp → VK → Prop} {z : Str} (h : tA σ H fun vs H2 => q (.str z) vs H2 Q) : bmQ K "str" q tA σ (.str z) H Q := ⟨rfl, h⟩
theorem w_tlist {p : Addr} {xs : List V} (e : SqL K H p xs) (h : ∀ l, H l = none → Q (.ref l) (upd H l (.lst xs))) : uList K [.ref p] H Q := ⟨xs, .inl e, h⟩
theorem w_for {wi : TI} {tb : TS} (h : wi σ H fun J H1 => forQ g tb D σ J H1) : tFor wi g tb D σ H := h
theorem f_range {tb : TS} {lo : Int} {n : Nat} (Pv : Nat → L2.St → Hp → Prop) (h0 : Pv 0 σ H)
    (hs : ∀ i σ H, i < n → Pv i σ H → g (.int (lo + i)) σ H fun σ2 H2 => tb { D with nx := Pv (i + 1), ct := Pv (i + 1), bk := D.nx } σ2 H2) (hd : ∀ σ H, Pv n σ H → D.nx σ H) : forQ g tb D σ (Itr lo n) H := for_range Pv h0 hs hd
theorem f_list {tb : TS} {a : Addr} {xs : List V} (Pv : Nat → L2.St → Hp → Prop) (h0 : Pv 0 σ H) (hl : ∀ i σ H, i ≤ xs.length → Pv i σ H → SqL K H a xs)
    (hs : ∀ i x σ H, xs[i]? = some x → Pv i σ H → g x σ H fun σ2 H2 => tb { D with nx := Pv (i + 1), ct := Pv (i + 1), bk := D.nx } σ2 H2) (hd : ∀ σ H, Pv xs.length σ H → D.nx σ H) : forQ g tb D σ (Itl K a) H := for_list Pv h0 hl hs hd
/-- any source whose turns are told: J yields item i at turn i below n and leaves the heap -/
theorem f_any {tb : TS} {J : It} {n : Nat} {item : Nat → V → Prop} (Pv : Nat → L2.St → Hp → Prop) (h0 : Pv 0 σ H)
    (hgo : ∀ i σ H, i < n → Pv i σ H → J.go i H ∧ ∀ x H', J.yld i H x H' → H' = H ∧ item i x) (hst : ∀ σ H, Pv n σ H → J.stop n H)
    (hs : ∀ i x σ H, i < n → item i x → Pv i σ H → g x σ H fun σ2 H2 => tb { D with nx := Pv (i + 1), ct := Pv (i + 1), bk := D.nx } σ2 H2) (hd : ∀ σ H, Pv n σ H → D.nx σ H) : forQ g tb D σ J H := by
  refine ⟨fun i m σ H => m = n - i ∧ i ≤ n ∧ Pv i σ H, ⟨n, by simp, Nat.zero_le _, h0⟩, fun i m σ H q => ?_⟩
  obtain ⟨rfl, hi, p⟩ := q
  rcases Nat.lt_or_ge i n with hl | hl
  · obtain ⟨a, b⟩ := hgo i σ H hl p
    refine .inr ⟨a, Pv (i + 1), fun σ' H' p' => ⟨n - (i + 1), by omega, rfl, hl, p'⟩, fun x H' y => ?_⟩
    obtain ⟨rfl, c⟩ := b x H' y
    exact hs i x σ _ hl c p
  · obtain rfl : i = n := Nat.le_antisymm hi hl
    exact .inl ⟨hst σ H p, hd σ H p⟩
theorem w_rng1 {R : It → Hp → Prop} (h : tA σ H fun vs H1 => rng1Q vs H1 R) : iRng1 tA σ H R := h
theorem w_rng1v {R : It → Hp → Prop} {n : Int} (h1 : -(2 ^ 62) ≤ n) (h2 : n < 2 ^ 62) (h : R (Itr 0 n.toNat) H) : rng1Q [.int n] H R := ⟨n, rfl, h1, h2, h⟩
theorem w_rng2 {R : It → Hp → Prop} (h : tA σ H fun vs H1 => rng2Q vs H1 R) : iRng2 tA σ H R := h
theorem w_rng2v {R : It → Hp → Prop} {m n : Int} (h1 : -(2 ^ 62) ≤ m ∧ m < 2 ^ 62 ∧ -(2 ^ 62) ≤ n ∧ n < 2 ^ 62) (h : R (Itr m (n - m).toNat) H) : rng2Q [.int m, .int n] H R := ⟨m, n, rfl, h1, h⟩
theorem w_iList {R : It → Hp → Prop} (h : te σ H fun x H1 => listQ K x H1 R) : iList K te σ H R := h
theorem w_iListv {R : It → Hp → Prop} {p : Addr} {xs : List V} (e : SqL K H p xs) (h : R (Itl K p) H) : listQ K (.ref p) H R := ⟨p, rfl, ⟨xs, e⟩, h⟩
theorem w_iTup {R : It → Hp → Prop} (h : te σ H fun x H1 => tupQ K x H1 R) : iTup K te σ H R := h
theorem w_iTupv {R : It → Hp → Prop} {p : Addr} {xs : List V} (e : SqT K H p xs) (h : R (Itt K p) H) : tupQ K (.ref p) H R := ⟨p, rfl, ⟨xs, e⟩, h⟩
theorem w_iStr {R : It → Hp → Prop} (h : te σ H fun x H1 => strQ x H1 R) : iStr te σ H R := h
theorem w_iStrv {R : It → Hp → Prop} {z : Str} (h : R (Its z) H) : strQ (.str z) H R := ⟨z, rfl, h⟩
theorem w_iRev {R : It → Hp → Prop} (h : tA σ H fun vs H1 => revQ K vs H1 R) : iRev K tA σ H R := h
theorem w_iRevv {R : It → Hp → Prop} {p : Addr} {xs : List V} (e : SqL K H p xs) (h : R (Itv K p xs.length) H) : revQ K [.ref p] H R := ⟨p, xs, rfl, e, h⟩
theorem w_raise {C : Addr} (h : W (.ref C) none σ H) : uRaise C W D σ H := h
theorem w_fld {C : Addr} (h : te σ H fun x H1 => fldQ C f x H1 Q) : uFld C f te σ H Q := h
theorem w_fldv {C p dx : Addr} {fs : List (Str × V)} (e : H p = some (.ins C dx fs)) (l : fs.lookup f = some v) (h : Q v H) : fldQ C f (.ref p) H Q := ⟨p, dx, fs, v, rfl, e, l, h⟩
theorem w_meth {C : Addr} {m : Str} (h : te σ H fun x H1 => methQ C m sp W tA σ x H1 Q) : uMeth C m sp W te tA σ H Q := h
theorem w_methv {C p dx : Addr} {m : Str} {fs : List (Str × V)} (e : H p = some (.ins C dx fs)) (l : fs.lookup m = none) (h : tA σ H fun vs H2 => sp (.ref p :: vs) H2 Q fun c d H3 => W c d σ H3) : methQ C m sp W tA σ (.ref p) H Q := ⟨p, dx, fs, rfl, e, l, h⟩
theorem w_setf {C : Addr} (h : tv σ H fun y H1 => te σ H1 fun x H2 => setfQ C f x y H2 (D.nx σ)) : uSetF C f te tv D σ H := h
theorem w_setfv {C p dx : Addr} {fs fs' : List (Str × V)} {N : Hp → Prop} (e : H p = some (.ins C dx fs)) (l : fs.length < 1000) (e2 : putF f y fs = fs') (h : N (upd H p (.ins C dx fs'))) : setfQ C f (.ref p) y H N := ⟨p, dx, fs, rfl, e, l, by rw [e2]; exact h⟩
theorem ifP {p A B : Prop} [Decidable p] (h1 : p → A) (h2 : ¬ p → B) : if decide p = true then A else B := by
  by_cases h : p
  · rw [if_pos (decide_eq_true h)]; exact h1 h
  · rw [if_neg (by rw [decide_eq_false h]; decide)]; exact h2 h
theorem ifN {p A B : Prop} [Decidable p] (h2 : ¬ p → A) (h1 : p → B) : if (!decide p) = true then A else B := by
  by_cases h : p
  · rw [if_neg (by rw [decide_eq_true h]; decide)]; exact h1 h
  · rw [if_pos (by rw [decide_eq_false h]; rfl)]; exact h2 h
theorem ifBN {A B : Prop} (h1 : b = false → A) (h2 : b = true → B) : if (!b) = true then A else B := by
  cases b
  · exact iteT (h1 rfl)
  · exact iteF (h2 rfl)
end steps
section heaps
variable {K : PySem.W.Frag} {H H' : Hp} {p q : Addr} {o u : HO} {xs : List V}
theorem upd_old (h : H q = some u) (n : H p = none) : upd H p o q = some u := by rw [upd_ne (ne_of_none h n)]; exact h
theorem upd_oth (h : H q = some u) (n : q ≠ p) : upd H p o q = some u := by rw [upd_ne n]; exact h
theorem none_of_upd (h : upd H p o q = none) : H q = none ∧ q ≠ p := by
  unfold upd at h
  split at h
  · cases h
  · exact ⟨h, by assumption⟩
theorem rd_old (h : Rd H q u) (n : H p = none) : Rd (upd H p o) q u := by
  rcases h with h | ⟨o', h⟩
  · exact .inl (upd_old h n)
  · exact .inr ⟨o', upd_old h n⟩
theorem rd_oth (h : Rd H q u) (n : q ≠ p) : Rd (upd H p o) q u := by
  rcases h with h | ⟨o', h⟩
  · exact .inl (upd_oth h n)
  · exact .inr ⟨o', upd_oth h n⟩
theorem sql_old (h : SqL K H q xs) (n : H p = none) : SqL K (upd H p o) q xs := h.imp (fun h => rd_old h n) id
theorem sql_oth (h : SqL K H q xs) (n : q ≠ p) : SqL K (upd H p o) q xs := h.imp (fun h => rd_oth h n) id
theorem sqt_old (h : SqT K H q xs) (n : H p = none) : SqT K (upd H p o) q xs := h.imp (fun h => rd_old h n) id
/-- a tuple is never the thing that is written -/
theorem sqt_wr {w : HO} (h : SqT K H q xs) (hw : H p = some w) (n : ∀ ys, w ≠ .tup ys) (n2 : ∀ ob ys, w ≠ .frz ob ys) : SqT K (upd H p o) q xs := by
  refine h.imp (fun h => ?_) id
  rcases h with h | ⟨o', h⟩
  · exact .inl (upd_oth h fun e => by subst e; rw [hw] at h; exact n _ (Option.some.inj h))
  · exact .inr ⟨o', upd_oth h fun e => by subst e; rw [hw] at h; exact n2 _ _ (Option.some.inj h)⟩
theorem same_new (n : H p = none) : Same H (upd H p o) := fun b w h => upd_old h n
theorem same_upd {H1 : Hp} (s : Same H H1) (n : H p = none) : Same H (upd H1 p o) := fun b w h => by rw [upd_ne (ne_of_none h n)]; exact s b w h
theorem same_updN {H1 : Hp} (s : Same H H1) (n : H1 p = none) : Same H (upd H1 p o) := fun b w h => upd_old (s b w h) n
theorem Same.sqt (e : Same H H') (h : SqT K H q xs) : SqT K H' q xs := by
  rcases h with (h | ⟨o, h⟩) | h
  · exact .inl (.inl (e _ _ h))
  · exact .inl (.inr ⟨o, e _ _ h⟩)
  · exact .inr h
end heaps
section steps2
variable {K : PySem.W.Frag} {σ : L2.St} {H : Hp} {Q : VK} {C p : Addr} {sp : Sp} {W : WX} {t : TA} {te td ty tv : TE} {x y v : V} {kvs : List (Key × V)} {i : Int} {N : L2.St → Hp → Prop}
def mkQ (C : Addr) (sp : Sp) (W : WX) (σ : L2.St) (vs : List V) (H1 : Hp) (Q : VK) : Prop := ∀ x dx, H1 x = none → H1 dx = none → dx ≠ x → sp (.ref x :: vs) (upd (upd H1 dx (.own x)) x (.ins C dx [])) (fun v H2 => v = .non ∧ Q (.ref x) H2) fun c d H2 => W c d σ H2
theorem w_make (h : t σ H fun vs H1 => mkQ C sp W σ vs H1 Q) : uMake C sp W t σ H Q := h
def dgQ (x y : V) (H : Hp) (Q : VK) : Prop := ∃ a v, x = .ref a ∧ DGet H a y (some v) ∧ Q v H
theorem w_dget (h : td σ H fun x H1 => ty σ H1 fun y H2 => dgQ x y H2 Q) : tDGet td ty σ H Q := h
theorem w_dgetI (e : H p = some (.dK kvs)) (l : valV kvs (.inl i) = some v) (h : Q v H) : dgQ (.ref p) (.int i) H Q := ⟨p, v, rfl, by have z := DGet.k (k := .inl i) e; rw [l] at z; exact z, h⟩
theorem w_inD (e : H p = some (.dK kvs)) (h : Q (.bl (valV kvs (.inl i)).isSome) H) : uIn K (.int i) (.ref p) H Q := .inr ⟨_, DGet.k (k := .inl i) e, h⟩
theorem w_ninD (e : H p = some (.dK kvs)) (h : Q (.bl (!(valV kvs (.inl i)).isSome)) H) : uNin K (.int i) (.ref p) H Q := .inr ⟨_, DGet.k (k := .inl i) e, h⟩
def dpQ (x y v : V) (H : Hp) (N : Hp → Prop) : Prop := ∃ a H4, x = .ref a ∧ DPut H a y v H4 ∧ N H4
theorem w_dput {D : Ends} (h : tv σ H fun v H1 => td σ H1 fun x H2 => ty σ H2 fun y H3 => dpQ x y v H3 (D.nx σ)) : sDPut td ty tv D σ H := h
theorem w_dputI {M : Hp → Prop} (e : H p = some (.dK kvs)) (l : kvs.length < 10000000) (h : M (upd H p (.dK (putK kvs (.inl i) v)))) : dpQ (.ref p) (.int i) v H M := ⟨p, _, rfl, DPut.k (k := .inl i) e (Nat.lt_of_lt_of_le l (by decide)), h⟩
theorem w_newD (h : ∀ p, H p = none → Q (.ref p) (upd H p (.dK []))) : tDNewK σ H Q := h
/-- a list times a number -/
theorem w_rep {xs : List V} {k : Int} (e : H p = some (.lst xs)) (h0 : 0 ≤ k) (h1 : k ≤ 100000) (h2 : xs.length ≤ 100) (h : ∀ q, H q = none → Q (.ref q) (upd H q (.lst (List.replicate k.toNat xs).flatten))) : uMul (.ref p) (.int k) H Q := by
  refine ⟨p, k, xs, rfl, rfl, e, by omega, by omega, ?_, h⟩
  have h3 : k.toNat ≤ 100000 := by omega
  have h4 : xs.length * k.toNat ≤ 100 * 100000 := Nat.mul_le_mul h2 h3
  exact Nat.le_trans h4 (by decide)
theorem rep1 (n : Nat) (z : Int) : (List.replicate n [V.int z]).flatten = (List.replicate n z).map V.int := by
  induction n with
  | zero => rfl
  | succ n ih => rw [List.replicate_succ, List.flatten_cons, ih, List.replicate_succ, List.map_cons]; rfl
theorem w_rep1 {z k : Int} (e : H p = some (.lst [.int z])) (h0 : 0 ≤ k) (h1 : k ≤ 100000) (h : ∀ q, H q = none → Q (.ref q) (upd H q (.lst ((List.replicate k.toNat z).map V.int)))) : uMul (.ref p) (.int k) H Q :=
  w_rep e h0 h1 (by simp) fun q hq => by rw [rep1]; exact h q hq
theorem w_gtup2 {a : Addr} {u : TGs} (e : SqT K H a [x, y]) (h : u [x, y] σ H N) : gTup K 2 u (.ref a) σ H N := ⟨a, _, rfl, e, rfl, h⟩
theorem w_gtup3 {a : Addr} {u : TGs} {z : V} (e : SqT K H a [x, y, z]) (h : u [x, y, z] σ H N) : gTup K 3 u (.ref a) σ H N := ⟨a, _, rfl, e, rfl, h⟩
theorem w_gtup4 {a : Addr} {u : TGs} {z w : V} (e : SqT K H a [x, y, z, w]) (h : u [x, y, z, w] σ H N) : gTup K 4 u (.ref a) σ H N := ⟨a, _, rfl, e, rfl, h⟩
theorem w_gcons {g : TG} {u : TGs} {r : List V} (h : g v σ H fun σ' H' => u r σ' H' N) : gCons g u (v :: r) σ H N := ⟨v, r, rfl, h⟩
theorem w_gnil (h : N σ H) : gNil [] σ H N := ⟨rfl, h⟩
def augQ (C : Addr) (f : Str) (r : V → V → Hp → VK → Prop) (tv : TE) (D : Ends) (σ : L2.St) (x : V) (H1 : Hp) : Prop := ∃ a dx fs v, x = .ref a ∧ H1 a = some (.ins C dx fs) ∧ fs.lookup f = some v ∧
  tv σ H1 fun y H2 => r v y H2 fun z H3 => ∃ dx' fs', H3 a = some (.ins C dx' fs') ∧ fs'.length < 1000 ∧ D.nx σ (upd H3 a (.ins C dx' (putF f z fs')))
theorem w_augf {D : Ends} {f : Str} {r : V → V → Hp → VK → Prop} (h : te σ H fun x H1 => augQ C f r tv D σ x H1) : uAugF C f r te tv D σ H := h
theorem w_augsub {D : Ends} {f : Str} {dx : Addr} {fs : List (Str × V)} {i j : Int} (e : H p = some (.ins C dx fs)) (l : fs.lookup f = some (.int i)) (s : fs.length < 1000) (h : D.nx σ (upd H p (.ins C dx (putF f (.int (i - j)) fs)))) : augQ C f rSub (tC (.int j)) D σ (.ref p) H :=
  ⟨p, dx, fs, _, rfl, e, l, i, j, rfl, rfl, dx, fs, e, s, h⟩
theorem w_augadd {D : Ends} {f : Str} {dx : Addr} {fs : List (Str × V)} {i j : Int} (e : H p = some (.ins C dx fs)) (l : fs.lookup f = some (.int i)) (s : fs.length < 1000) (h : D.nx σ (upd H p (.ins C dx (putF f (.int (i + j)) fs)))) : augQ C f rAdd (tC (.int j)) D σ (.ref p) H :=
  ⟨p, dx, fs, _, rfl, e, l, i, j, rfl, rfl, dx, fs, e, s, h⟩
end steps2
section whiles
variable {D : Ends} {σ : L2.St} {H : Hp} {c : TT} {tb : TS}
def whQ (P : L2.St → Hp → Prop) (μ : L2.St → Hp → Nat) (m : Nat) (tb : TS) (D : Ends) (σ : L2.St) (H : Hp) : Prop :=
  ∃ N : L2.St → Hp → Prop, (∀ σ' H', N σ' H' → ∃ m', m' < m ∧ (m' = μ σ' H' ∧ P σ' H')) ∧ tb { D with nx := N, ct := N, bk := D.nx } σ H
theorem w_wh {P : L2.St → Hp → Prop} {μ : L2.St → Hp → Nat} {m : Nat} (h : tb { D with nx := fun σ' H' => P σ' H' ∧ μ σ' H' < m, ct := fun σ' H' => P σ' H' ∧ μ σ' H' < m, bk := D.nx } σ H) : whQ P μ m tb D σ H := ⟨_, fun _ _ n => ⟨_, n.2, rfl, n.1⟩, h⟩
end whiles
section data
variable {K : PySem.W.Frag} {H : Hp} {Q : VK} {α β : Type} [DecidableEq α] [PySem.W.Datum α] [DecidableEq β] [PySem.W.Datum β]
def Dt (K : PySem.W.Frag) (H : Hp) (v : V) (a : α) : Prop := Dp K H v (PySem.W.Datum.toD a)
def DtAll (K : PySem.W.Frag) (H : Hp) (vs : List V) (as : List α) : Prop := DpAll K H vs (as.map PySem.W.Datum.toD)
theorem Dt.int {i : Int} : Dt K H (.int i) i := Dp.int i
theorem Dt.bl {i : Bool} : Dt K H (.bl i) i := Dp.bl i
theorem Dt.str {i : Str} : Dt K H (.str i) i := Dp.str i
theorem Dt.list {p : Addr} {vs : List V} {as : List α} (e : SqL K H p vs) (h : DtAll K H vs as) : Dt K H (.ref p) as := Dp.lst e h
theorem Dt.tup {p : Addr} {vs : List V} {as : List α} (e : SqT K H p vs) (h : DtAll K H vs as) : Dt K H (.ref p) (PySem.W.Tup.mk as) := Dp.tup e h
theorem DtAll.nil : DtAll K H [] ([] : List α) := DpAll.nil
theorem DtAll.cons {v : V} {vs : List V} {a : α} {as : List α} (h : Dt K H v a) (hs : DtAll K H vs as) : DtAll K H (v :: vs) (a :: as) := DpAll.cons h hs
theorem DtAll.ints : ∀ (ns : List Int), DtAll K H (ns.map V.int) ns
  | [] => DpAll.nil
  | _ :: ns => DpAll.cons (Dp.int _) (DtAll.ints ns)
theorem DtAll.length : ∀ {vs : List V} {as : List α}, DtAll K H vs as → vs.length = as.length
  | [], [], _ => rfl
  | [], _ :: _, h => by cases h
  | _ :: _, [], h => by cases h
  | _ :: vs, _ :: as, h => by
    cases h with
    | cons h1 h2 => rw [List.length_cons, List.length_cons, DtAll.length h2]
theorem w_neD {x y : V} {a b : α} (h1 : Dt K H x a) (h2 : Dt K H y b) (hd : PySem.W.Datum.depth α ≤ 60) (hx : ∃ p, x = .ref p) (h : Q (.bl (!decide (a = b))) H) : uNe K x y H Q := by
  obtain ⟨p, rfl⟩ := hx
  have z : rNeP K (.ref p) y H Q := ⟨_, _, h1, h2, ⟨PySem.W.Datum.plain a, Nat.le_trans (PySem.W.Datum.depth_le a) hd⟩, PySem.W.Datum.plain b, by rw [PySem.W.Datum.eqv]; exact h⟩
  unfold uNe; exact .inr z
mutual
theorem Dp.same {H' : Hp} (s : Same H H') : ∀ {d : PyData} {v : V}, Dp K H v d → Dp K H' v d
  | .none, _, h => by cases h; exact .non
  | .bool _, _, h => by cases h; exact .bl _
  | .int _, _, h => by cases h; exact .int _
  | .str _, _, h => by cases h; exact .str _
  | .list _, _, h => by
    cases h with
    | lst e a => exact .lst (s.seq e) (DpAll.same s a)
  | .tuple _, _, h => by
    cases h with
    | tup e a =>
      refine .tup ?_ (DpAll.same s a)
      rcases e with (e | ⟨o, e⟩) | e
      · exact .inl (.inl (s _ _ e))
      · exact .inl (.inr ⟨o, s _ _ e⟩)
      · exact .inr e
  | .dict _, _, h => by cases h
theorem DpAll.same {H' : Hp} (s : Same H H') : ∀ {ds : List PyData} {vs : List V}, DpAll K H vs ds → DpAll K H' vs ds
  | [], _, h => by cases h; exact .nil
  | _ :: _, _, h => by
    cases h with
    | cons h1 h2 => exact .cons (Dp.same s h1) (DpAll.same s h2)
end
theorem Dt.same {H' : Hp} (s : Same H H') {v : V} {a : α} (h : Dt K H v a) : Dt K H' v a := Dp.same s h
theorem DtAll.same {H' : Hp} (s : Same H H') {vs : List V} {as : List α} (h : DtAll K H vs as) : DtAll K H' vs as := DpAll.same s h
end data
section tups
variable {K : PySem.W.Frag} {H : Hp}
mutual
def tupOnly : PyData → Bool
  | .list _ => false
  | .dict _ => false
  | .tuple ds => tupOnlyAll ds
  | _ => true
def tupOnlyAll : List PyData → Bool
  | [] => true
  | d :: ds => tupOnly d && tupOnlyAll ds
end
mutual
theorem Dp.wr {p : Addr} {w o : HO} (hw : H p = some w) (n : ∀ ys, w ≠ .tup ys) (n2 : ∀ ob ys, w ≠ .frz ob ys) : ∀ {d : PyData} {v : V}, tupOnly d = true → Dp K H v d → Dp K (upd H p o) v d
  | .none, _, _, h => by cases h; exact .non
  | .bool _, _, _, h => by cases h; exact .bl _
  | .int _, _, _, h => by cases h; exact .int _
  | .str _, _, _, h => by cases h; exact .str _
  | .list _, _, t, _ => by simp [tupOnly] at t
  | .tuple ds, _, t, h => by
    cases h with
    | tup e a => exact .tup (sqt_wr e hw n n2) (DpAll.wr hw n n2 (by simpa [tupOnly] using t) a)
  | .dict _, _, _, h => by cases h
theorem DpAll.wr {p : Addr} {w o : HO} (hw : H p = some w) (n : ∀ ys, w ≠ .tup ys) (n2 : ∀ ob ys, w ≠ .frz ob ys) : ∀ {ds : List PyData} {vs : List V}, tupOnlyAll ds = true → DpAll K H vs ds → DpAll K (upd H p o) vs ds
  | [], _, _, h => by cases h; exact .nil
  | d :: ds, _, t, h => by
    have t' := Bool.and_eq_true_iff.mp (show (tupOnly d && tupOnlyAll ds) = true by simpa [tupOnlyAll] using t)
    cases h with
    | cons h1 h2 => exact .cons (Dp.wr hw n n2 t'.1 h1) (DpAll.wr hw n n2 t'.2 h2)
end
end tups
section comps
variable {K : PySem.W.Frag} {σ : L2.St} {H1 : Hp} {Q : VK} {g : TG} {tt : TT} {te : TE} {vs : List Nat}
def lcQ (g : TG) (tt : TT) (te : TE) (vs : List Nat) (σ : L2.St) (J : It) (H1 : Hp) (Q : VK) : Prop := ∀ D, H1 D = none → ∃ W : Nat → Nat → Hp → Prop, (∃ m, W 0 m (upd H1 D (.lst []))) ∧ ∀ i m H, W i m H →
  (J.stop i H ∧ Q (.ref D) H) ∨ (J.go i H ∧ ∃ Nx : Hp → Prop, (∀ H', Nx H' → ∃ m', m' < m ∧ W (i + 1) m' H') ∧ ∀ x H', J.yld i H x H' → g x (wipe σ vs) H' fun σ2 H2 => wipe σ2 vs = wipe σ vs ∧ tt σ2 H2 fun b H3 =>
    if b = true then te σ2 H3 fun y H4 => ∃ acc, H4 D = some (.lst acc) ∧ acc.length < sizeLine ∧ Nx (upd H4 D (.lst (acc ++ [y]))) else Nx H3)
theorem w_lc {wi : TI} (h : wi σ H1 fun J H2 => lcQ g tt te vs σ J H2 Q) : tLc wi g tt te vs σ H1 Q := h
theorem w_yes {QB : Bool → Hp → Prop} (h : QB true H1) : tYes σ H1 QB := h
/-- what a turn of a comprehension wants: the new item, put behind the list at D -/
def putQ (D : Addr) (N : Hp → Prop) (y : V) (H4 : Hp) : Prop := ∃ acc, H4 D = some (.lst acc) ∧ acc.length < sizeLine ∧ N (upd H4 D (.lst (acc ++ [y])))
/-- a comprehension over anything that yields by its place, P the heap between the turns -/
theorem l_any {J : It} {n : Nat} {item : Nat → V → Prop} (P : Addr → Nat → Hp → Prop) (h0 : ∀ D, H1 D = none → P D 0 (upd H1 D (.lst [])))
    (hgo : ∀ D i H, H1 D = none → i < n → P D i H → J.go i H ∧ ∀ x H', J.yld i H x H' → H' = H ∧ item i x) (hst : ∀ D H, H1 D = none → P D n H → J.stop n H)
    (hs : ∀ D i x H, H1 D = none → i < n → item i x → P D i H → g x (wipe σ vs) H fun σ2 H2 => wipe σ2 vs = wipe σ vs ∧ tt σ2 H2 fun b H3 => if b = true then te σ2 H3 (putQ D (P D (i + 1))) else P D (i + 1) H3)
    (hd : ∀ D H, H1 D = none → P D n H → Q (.ref D) H) : lcQ g tt te vs σ J H1 Q := by
  intro D hD
  refine ⟨fun i m H => m = n - i ∧ i ≤ n ∧ P D i H, ⟨n, by simp, Nat.zero_le _, h0 D hD⟩, fun i m H q => ?_⟩
  obtain ⟨rfl, hi, p⟩ := q
  rcases Nat.lt_or_ge i n with hl | hl
  · obtain ⟨a, b⟩ := hgo D i H hD hl p
    refine .inr ⟨a, P D (i + 1), fun H' p' => ⟨n - (i + 1), by omega, rfl, hl, p'⟩, fun x H' y => ?_⟩
    obtain ⟨rfl, c⟩ := b x H' y
    exact hs D i x _ hD hl c p
  · obtain rfl : i = n := Nat.le_antisymm hi hl
    exact .inl ⟨hst D H hD p, hd D H hD p⟩
theorem l_range {lo : Int} {n : Nat} (P : Addr → Nat → Hp → Prop) (h0 : ∀ D, H1 D = none → P D 0 (upd H1 D (.lst [])))
    (hs : ∀ D i H, H1 D = none → i < n → P D i H → g (.int (lo + (i : Nat))) (wipe σ vs) H fun σ2 H2 => wipe σ2 vs = wipe σ vs ∧ tt σ2 H2 fun b H3 => if b = true then te σ2 H3 (putQ D (P D (i + 1))) else P D (i + 1) H3)
    (hd : ∀ D H, H1 D = none → P D n H → Q (.ref D) H) : lcQ g tt te vs σ (Itr lo n) H1 Q :=
  l_any (n := n) (item := fun i x => x = .int (lo + (i : Nat))) P h0 (fun _ i _ _ h _ => ⟨h, fun _ _ y => y⟩) (fun _ _ _ _ => Nat.le_refl _) (fun D i x H a b c p => by rw [c]; exact hs D i H a b p) hd
theorem l_list {a : Addr} {xs : List V} (P : Addr → Nat → Hp → Prop) (h0 : ∀ D, H1 D = none → P D 0 (upd H1 D (.lst []))) (hl : ∀ D i H, H1 D = none → P D i H → SqL K H a xs)
    (hs : ∀ D i x H, H1 D = none → xs[i]? = some x → P D i H → g x (wipe σ vs) H fun σ2 H2 => wipe σ2 vs = wipe σ vs ∧ tt σ2 H2 fun b H3 => if b = true then te σ2 H3 (putQ D (P D (i + 1))) else P D (i + 1) H3)
    (hd : ∀ D H, H1 D = none → P D xs.length H → Q (.ref D) H) : lcQ g tt te vs σ (Itl K a) H1 Q :=
  l_any (n := xs.length) (item := fun i x => xs[i]? = some x) P h0 (fun D i H hD h p => ⟨⟨xs, xs[i], hl D i H hD p, List.getElem?_eq_getElem h⟩, fun x H' y => ⟨y.1, y.2 xs (hl D i H hD p)⟩⟩)
    (fun D H hD p => ⟨xs, hl D _ H hD p, Nat.le_refl _⟩) (fun D i x H a b c p => hs D i x H a c p) hd
end comps
section texts
/-- the text of these signs -/
def tx (l : List Nat) : Str := ⟨l.toArray⟩
theorem tx_list (l : List Nat) : (tx l).cps.toList = l := rfl
theorem tx_len (l : List Nat) : (tx l).length = l.length := by unfold tx Str.length; exact List.size_toArray
theorem tx_app (l m : List Nat) : tx l ++ tx m = tx (l ++ m) := PySem.Str.ext' (by rw [PySem.Str.cps_append]; exact Array.toList_inj.mp (by rw [Array.toList_append]; rfl))
theorem tx_inj {l m : List Nat} : tx l = tx m ↔ l = m := ⟨fun h => by have := congrArg (fun z : Str => z.cps.toList) h; exact this, fun h => by rw [h]⟩
theorem cut_tk (l : List Nat) (k : Nat) : cutS (tx l) none (some (k : Int)) = tx (l.take k) := by
  unfold cutS
  rw [tx_len, HT.sIx_nat, HT.sIx_none, List.drop_zero, Nat.sub_zero, tx_list, ← List.take_take, List.take_length]
  rfl
theorem cut_dp (l : List Nat) (k : Nat) : cutS (tx l) (some (k : Int)) none = tx (l.drop k) := by
  unfold cutS
  rw [tx_len, HT.sIx_nat, HT.sIx_none, tx_list]
  rcases Nat.le_total k l.length with h | h
  · rw [Nat.min_eq_left h, List.take_of_length_le (by rw [List.length_drop]; exact Nat.le_refl _)]; rfl
  · rw [Nat.min_eq_right h, List.drop_length, List.drop_eq_nil_of_le h, List.take_nil]; rfl
theorem fold_rep (c : Nat) : ∀ (n : Nat) (a : Array Nat), (List.replicate n #[c]).foldl (· ++ ·) a = a ++ (List.replicate n c).toArray
  | 0, a => by simp
  | n + 1, a => by
    rw [List.replicate_succ, List.foldl_cons, fold_rep c n]
    apply Array.toList_inj.mp
    simp [List.replicate_succ]
theorem mul_one (c : Nat) (n : Nat) : Txt.mul (tx [c]) (n : Int) = tx (List.replicate n c) := by
  unfold Txt.mul
  by_cases h : (n : Int) < 1
  · rw [if_pos h]; obtain rfl : n = 0 := by omega
    rfl
  · rw [if_neg h]
    by_cases h2 : ((n : Int) == 1 || (tx [c]).length == 0) = true
    · rw [if_pos h2]
      have : (n : Int) = 1 := by
        rcases Bool.or_eq_true_iff.mp h2 with h2 | h2
        · exact eq_of_beq h2
        · cases h2
      obtain rfl : n = 1 := by omega
      rfl
    · rw [if_neg h2, Int.toNat_natCast]
      exact PySem.Str.ext' (by show (List.replicate n #[c]).foldl (· ++ ·) #[] = _; rw [fold_rep]; simp [tx])
theorem mulOk_one (c : Nat) {n : Int} (h0 : 0 ≤ n) (h1 : n ≤ 100000) : MulOk (tx [c]) n := by
  have e : (tx [c]).length = 1 := rfl
  refine ⟨?_, fun h _ => ?_, fun h _ => ?_⟩
  · rw [decide_eq_false (by omega), decide_eq_false (by omega)]; rfl
  · rw [e]
    have : (1 : Int) ≤ (2 ^ 63 - 1) / n := Int.le_ediv_of_mul_le (by omega) (by omega)
    omega
  · rw [e]; unfold Builtin.Str.tooLong
    rw [decide_eq_false]
    have : (100000 : Nat) ≤ sizeLine := by decide
    omega
/-- the first place of a sign in a text, or -1 -/
def ixc (l : List Nat) (c : Nat) : Int := if c ∈ l then (l.idxOf c : Int) else -1
theorem tx_find (l : List Nat) (c : Nat) : Txt.find (tx l) (tx [c]) = ixc l c := by
  unfold Txt.find ixc
  have key : ∀ i, PySem.StrLaws.At (tx l) (tx [c]) (tx l).length i ↔ l[i]? = some c := fun i => PySem.StrLaws.subAt_one (tx l) c i
  rcases PySem.StrLaws.occ_head (tx l) (tx [c]) 1 (Nat.le_refl 1) with ⟨e, hn⟩ | ⟨i, r, e, ha, hn⟩
  · rw [e, if_neg]
    intro hm
    obtain ⟨i, hi⟩ := List.getElem?_of_mem hm
    exact hn i ((key i).mpr hi)
  · rw [e]
    have hi := (key i).mp ha
    rw [if_pos (List.mem_of_getElem? hi)]
    have hl : i < l.length := (List.getElem?_eq_some_iff.mp hi).1
    have hg : l[i] = c := (List.getElem?_eq_some_iff.mp hi).2
    have h1 : l.idxOf c < l.length := List.idxOf_lt_length_iff.mpr (List.mem_of_getElem? hi)
    have h2 : l[l.idxOf c] = c := List.getElem_idxOf h1
    have h3 : ¬ l.idxOf c < i := fun q => hn _ q ((key _).mpr (by rw [List.getElem?_eq_getElem h1, h2]))
    have h4 : ¬ i < l.idxOf c := fun q => by
      have := List.not_of_lt_findIdx (p := (· == c)) (xs := l) (i := i) q
      simp [hg] at this
    have : l.idxOf c = i := by omega
    rw [this]
theorem cnt_eq (c : Nat) : ∀ l : List Nat, PyProof.Rows.cnt c l = (l.count c : Nat)
  | [] => rfl
  | n :: l => by
    rw [PyProof.Rows.cnt_cons, cnt_eq c l, List.count_cons]
    by_cases h : n = c
    · subst h; simp; omega
    · simp [h]
theorem tx_count (l : List Nat) (c : Nat) : Txt.count (tx l) (tx [c]) = (l.count c : Nat) := (PyProof.Rows.count_is (tx l) c).trans (cnt_eq c l)
end texts
section textsteps
variable {X : Cx} {K : PySem.W.Frag} {H : Hp} {Q : VK} {l m : List Nat} {c : Nat} {n : Int}
def uFind : V → List V → Hp → VK → Prop := fun x xs H Q => match x, xs with
  | .str a, [.str b] => Q (.int (Txt.find a b)) H
  | _, _ => False
def uCount : V → List V → Hp → VK → Prop := fun x xs H Q => match x, xs with
  | .str a, [.str b] => Q (.int (Txt.count a b)) H
  | _, _ => False
theorem w_addX (s : l.length + m.length ≤ 100000) (h : Q (.str (tx (l ++ m))) H) : uAdd K (.str (tx l)) (.str (tx m)) H Q := ⟨by rw [tx_len, tx_len]; exact small9 s, by rw [tx_app]; exact h⟩
theorem w_mulX (h0 : 0 ≤ n) (h1 : n ≤ 100000) (h : Q (.str (tx (List.replicate n.toNat c))) H) : uMul (.str (tx [c])) (.int n) H Q := by
  obtain ⟨k, rfl⟩ := Int.eq_ofNat_of_zero_le h0
  exact ⟨mulOk_one c h0 h1, by rw [mul_one]; exact h⟩
theorem w_lenX (s : l.length ≤ 100000) (h : Q (.int l.length) H) : uLen K [.str (tx l)] H Q := ⟨by rw [tx_len]; exact small9 s, by rw [tx_len]; exact h⟩
theorem w_truX {QB : Bool → Hp → Prop} (s : l.length ≤ 100000) (h : QB (!decide (l.length = 0)) H) : truV K (.str (tx l)) H QB := ⟨by rw [tx_len]; exact small9 s, by rw [tx_len]; exact h⟩
theorem d_tx : decide (tx l = tx m) = decide (l = m) := decide_eq_decide.mpr tx_inj
theorem w_eqX (h : Q (.bl (decide (l = m))) H) : uEq K (.str (tx l)) (.str (tx m)) H Q := by
  rw [← d_tx] at h; exact h
theorem w_neX (h : Q (.bl (!decide (l = m))) H) : uNe K (.str (tx l)) (.str (tx m)) H Q := by
  rw [← d_tx] at h; exact h
theorem w_tkX (s : l.length ≤ 100000) (h0 : 0 ≤ n) (h : Q (.str (tx (l.take n.toNat))) H) : uSl K (.str (tx l)) none (some n) H Q := by
  obtain ⟨k, rfl⟩ := Int.eq_ofNat_of_zero_le h0
  exact .inr (.inr ⟨_, rfl, by rw [tx_len]; exact small9 s, by rw [cut_tk]; exact h⟩)
theorem w_dpX (s : l.length ≤ 100000) (h0 : 0 ≤ n) (h : Q (.str (tx (l.drop n.toNat))) H) : uSl K (.str (tx l)) (some n) none H Q := by
  obtain ⟨k, rfl⟩ := Int.eq_ofNat_of_zero_le h0
  exact .inr (.inr ⟨_, rfl, by rw [tx_len]; exact small9 s, by rw [cut_dp]; exact h⟩)
theorem w_ixX (s : l.length ≤ 100000) (h0 : 0 ≤ n ∧ n.toNat < l.length) (h : Q (.str (tx [l.getD n.toNat 0])) H) : uIx K (.str (tx l)) (.int n) H Q := by
  refine ⟨by rw [tx_len]; exact small9 s, l.getD n.toNat 0, ?_, h⟩
  have y := atI_nat (show l[n.toNat]? = some (l.getD n.toNat 0) by rw [List.getD_eq_getElem?_getD, List.getElem?_eq_getElem h0.2]; rfl)
  rw [show ((n.toNat : Nat) : Int) = n by omega] at y
  exact y
theorem w_findX (h : Q (.int (ixc l c)) H) : uFind (.str (tx l)) [.str (tx [c])] H Q := by
  rw [← tx_find] at h; exact h
theorem w_countX (h : Q (.int ((l.count c : Nat) : Int)) H) : uCount (.str (tx l)) [.str (tx [c])] H Q := by
  rw [← tx_count] at h; exact h
end textsteps
section steps3
variable {X : Cx} {K : PySem.W.Frag} {H H' H0 : Hp} {Q : VK} {p q : Addr} {xs ys : List V} {o w : HO}
theorem w_cat (e1 : H p = some (.lst xs)) (e2 : H q = some (.lst ys)) (s : xs.length + ys.length ≤ 1000000) (h : ∀ l, H l = none → Q (.ref l) (upd H l (.lst (xs ++ ys)))) : uAdd K (.ref p) (.ref q) H Q :=
  .inl ⟨p, q, xs, ys, rfl, rfl, e1, e2, Nat.le_trans s (by decide), h⟩
theorem getD_mem {l : List Int} {k : Nat} {P : Int → Prop} (h : k < l.length) (hp : ∀ z ∈ l, P z) : P (l.getD k 0) := by
  rw [List.getD_eq_getElem?_getD, List.getElem?_eq_getElem h]
  exact hp _ (List.getElem_mem h)
end steps3
section steps4
variable {X : Cx} {K : PySem.W.Frag} {D : Ends} {σ : L2.St} {H H1 : Hp} {Q : VK} {g : TG} {tb : TS} {tt : TT} {te td ty tx : TE} {tA : TA} {p q a b : Addr} {xs ys : List V} {kvs : List (Key × V)} {x y z v : V} {i : Int} {vs : List Nat}
def enumQ (K : PySem.W.Frag) (vs : List V) (H1 : Hp) (R : It → Hp → Prop) : Prop := ∃ a xs, vs = [.ref a] ∧ SqL K H1 a xs ∧ R (Ite K a) H1
theorem w_iEnum {R : It → Hp → Prop} (h : tA σ H fun vs H1 => enumQ K vs H1 R) : iEnum K tA σ H R := h
theorem w_iEnumv {R : It → Hp → Prop} (e : SqL K H p xs) (h : R (Ite K p) H) : enumQ K [.ref p] H R := ⟨p, xs, rfl, e, h⟩
def zipQ (K : PySem.W.Frag) (vs : List V) (H1 : Hp) (R : It → Hp → Prop) : Prop := ∃ a b xs ys, vs = [.ref a, .ref b] ∧ SqL K H1 a xs ∧ SqL K H1 b ys ∧ R (Itz K a b) H1
theorem w_iZip {R : It → Hp → Prop} (h : tA σ H fun vs H1 => zipQ K vs H1 R) : iZip K tA σ H R := h
theorem w_iZipv {R : It → Hp → Prop} (e : SqL K H p xs) (e2 : SqL K H q ys) (h : R (Itz K p q) H) : zipQ K [.ref p, .ref q] H R := ⟨p, q, xs, ys, rfl, e, e2, h⟩
theorem f_enum (Pv : Nat → L2.St → Hp → Prop) (h0 : Pv 0 σ H) (hl : ∀ i σ H, i ≤ xs.length → Pv i σ H → SqL K H a xs)
    (hs : ∀ i x σ H T, xs[i]? = some x → Pv i σ H → H T = none → g (.ref T) σ (upd H T (.tup [.int (i : Nat), x])) fun σ2 H2 => tb { D with nx := Pv (i + 1), ct := Pv (i + 1), bk := D.nx } σ2 H2) (hd : ∀ σ H, Pv xs.length σ H → D.nx σ H) : forQ g tb D σ (Ite K a) H := by
  refine ⟨fun i m σ H => m = xs.length - i ∧ i ≤ xs.length ∧ Pv i σ H, ⟨_, rfl, Nat.zero_le _, h0⟩, fun i m σ H q => ?_⟩
  obtain ⟨rfl, hi, p⟩ := q
  have e := hl i σ H hi p
  rcases Nat.lt_or_ge i xs.length with hlt | hge
  · refine .inr ⟨⟨xs, xs[i], e, List.getElem?_eq_getElem hlt⟩, Pv (i + 1), fun σ' H' p' => ⟨_, by omega, rfl, hlt, p'⟩, fun x H' y => ?_⟩
    obtain ⟨T, x', rfl, hT, rfl, hx⟩ := y
    exact hs i x' σ H T (hx xs e) p hT
  · obtain rfl : i = xs.length := by omega
    exact .inl ⟨⟨xs, e, Nat.le_refl _⟩, hd σ H p⟩
def keysQ (x : V) (H1 : Hp) (R : It → Hp → Prop) : Prop := ∃ d o, x = .ref d ∧ ((∃ kvs, H1 d = some (.frz o (.dK kvs)) ∧ R (Itk d o kvs) H1) ∨ ∃ kvs, H1 d = some (.frz o (.dT kvs)) ∧ R (Itkt d o kvs) H1)
theorem w_iKeys {R : It → Hp → Prop} (h : te σ H fun x H1 => keysQ x H1 R) : iKeys te σ H R := h
/-- d.get(k, e), d.get(k) -/
def get2Q (ty tx : TE) (σ : L2.St) (x : V) (H1 : Hp) (Q : VK) : Prop := ∃ a, x = .ref a ∧ IsD H1 a ∧ ty σ H1 fun y H2 => tx σ H2 fun z H3 => ∃ o, DGet H3 a y o ∧ Q (o.getD z) H3
def getQ (p : Addr) (y z : V) (H : Hp) (Q : VK) : Prop := ∃ o, DGet H p y o ∧ Q (o.getD z) H
theorem w_dget2 (h : td σ H fun x H1 => get2Q ty tx σ x H1 Q) : tDGet2 td ty tx σ H Q := h
theorem w_dget2v (e : H p = some (.dK kvs)) (h : ty σ H fun y H2 => tx σ H2 fun z H3 => getQ p y z H3 Q) : get2Q ty tx σ (.ref p) H Q := ⟨p, rfl, .inl ⟨kvs, .inl e⟩, h⟩
def get1Q (ty : TE) (σ : L2.St) (x : V) (H1 : Hp) (Q : VK) : Prop := ∃ a, x = .ref a ∧ IsD H1 a ∧ ty σ H1 fun y H2 => getQ a y .non H2 Q
theorem w_dget1 (h : td σ H fun x H1 => get1Q ty σ x H1 Q) : tDGet1 td ty σ H Q := h
theorem w_dget1v (e : H p = some (.dK kvs)) (h : ty σ H fun y H2 => getQ p y .non H2 Q) : get1Q ty σ (.ref p) H Q := ⟨p, rfl, .inl ⟨kvs, .inl e⟩, h⟩
theorem w_getI (e : H p = some (.dK kvs)) (h : Q ((valV kvs (.inl i)).getD z) H) : getQ p (.int i) z H Q := ⟨_, DGet.k (k := .inl i) e, h⟩
/-- d.pop(k) -/
def pop1Q (ty : TE) (σ : L2.St) (x : V) (H1 : Hp) (Q : VK) : Prop := ∃ a, x = .ref a ∧ IsD H1 a ∧ ty σ H1 fun y H2 => popQ1 a y H2 Q
where popQ1 (a : Addr) (y : V) (H2 : Hp) (Q : VK) : Prop := ∃ kvs k v, H2 a = some (.dK kvs) ∧ y = kV k ∧ valV kvs k = some v ∧ Q v (upd H2 a (.dK (dropK kvs k)))
theorem w_dpop1 (h : td σ H fun x H1 => pop1Q ty σ x H1 Q) : tDPop1 td ty σ H Q := h
theorem w_dpop1v (e : H p = some (.dK kvs)) (h : ty σ H fun y H2 => pop1Q.popQ1 p y H2 Q) : pop1Q ty σ (.ref p) H Q := ⟨p, rfl, .inl ⟨kvs, .inl e⟩, h⟩
/-- del d[k] -/
def delQ (x y : V) (H2 : Hp) (N : Hp → Prop) : Prop := ∃ a kvs k, x = .ref a ∧ H2 a = some (.dK kvs) ∧ y = kV k ∧ (valV kvs k).isSome = true ∧ N (upd H2 a (.dK (dropK kvs k)))
theorem w_ddel (h : td σ H fun x H1 => ty σ H1 fun y H2 => delQ x y H2 (D.nx σ)) : sDDel td ty D σ H := h
/-- dict(d) -/
def uDict : List V → Hp → VK → Prop := fun xs H Q => ∃ (a : Addr) (kvs : List (Key × V)), xs = [.ref a] ∧ Rd H a (.dK kvs) ∧ ∀ p, H p = none → Q (.ref p) (upd H p (.dK kvs))
theorem c_dict : CallR X (.type "dict") uDict := call_dictD
theorem w_tdict (e : H p = some (.dK kvs)) (h : ∀ l, H l = none → Q (.ref l) (upd H l (.dK kvs))) : uDict [.ref p] H Q := ⟨p, kvs, rfl, .inl e, h⟩
end steps4
section hotdefs
variable {P : Program} {w : World} {K : PySem.W.Frag} {mg : Str → Option Value} {base : Heap}
variable {X : Cx}
def uCallX (a : Addr) (cls : Value) (d : Option Addr) (sp : Addr → Value → Sp) (t : TA) : TE := fun σ H Q => d = none ∧ t σ H fun vs H1 => sp a cls vs H1 Q fun _ _ _ => False
theorem w_callX {a : Addr} {cls : Value} {sp : Addr → Value → Sp} {t : TA} {σ : L2.St} {H : Hp} {Q : VK} (h : t σ H fun vs H1 => sp a cls vs H1 Q fun _ _ _ => False) : uCallX a cls none sp t σ H Q := ⟨rfl, h⟩
end hotdefs
section steps5
variable {K : PySem.W.Frag} {H : Hp} {Q : VK} {s t : Str} {A B : Prop}
theorem ifSF (h : decide (s = t) = false) (k : B) : if decide (s = t) = true then A else B := by rw [h]; exact iteF k
theorem ifST (h : decide (s = t) = true) (k : A) : if decide (s = t) = true then A else B := by rw [h]; exact iteT k
theorem ifSNF (h : decide (s = t) = true) (k : B) : if (!decide (s = t)) = true then A else B := by rw [h]; exact iteF k
theorem ifSNT (h : decide (s = t) = false) (k : A) : if (!decide (s = t)) = true then A else B := by rw [h]; exact iteT k
theorem w_neNN (h : Q (.bl false) H) : uNe K .non .non H Q := .inl ⟨rfl, h⟩
theorem w_eqNN (h : Q (.bl true) H) : uEq K .non .non H Q := .inl ⟨rfl, h⟩
end steps5
section steps6
variable {K : PySem.W.Frag} {H : Hp} {Q : VK} {p : Addr} {n : Int}
theorem w_ixBl {bs : List Bool} (e : SqL K H p (bs.map V.bl)) (h0 : 0 ≤ n ∧ n.toNat < bs.length) (h : Q (.bl (bs.getD n.toNat false)) H) : uIx K (.ref p) (.int n) H Q :=
  ⟨_, .bl (bs.getD n.toNat false), .inl e, by
    have z : (bs.map V.bl)[n.toNat]? = some (.bl (bs.getD n.toNat false)) := by rw [List.getElem?_map, List.getElem?_eq_getElem h0.2, List.getD_eq_getElem?_getD, List.getElem?_eq_getElem h0.2]; rfl
    have y := atI_nat z
    rw [show ((n.toNat : Nat) : Int) = n by omega] at y
    exact y, h⟩
def augSQ (ti te : TE) (g : V → V → Hp → VK → Prop) (op : TIp) (ts : TSet) (D : Ends) (σ : L2.St) (x : V) (H1 : Hp) : Prop := ti σ H1 fun i H2 => g x i H2 fun v H3 => te σ H3 fun y H4 => op v y H4 fun z H5 => ts x i z H5 fun H6 => D.nx σ H6
theorem w_getI2 {ns : List Int} (e : SqL K H p (ns.map V.int)) (h0 : 0 ≤ n ∧ n.toNat < ns.length) (h : Q (.int (ns.getD n.toNat 0)) H) : uGet K (.ref p) (.int n) H Q :=
  .inl ⟨h0.1, _, .int (ns.getD n.toNat 0), e, by rw [List.getElem?_map, List.getElem?_eq_getElem h0.2, List.getD_eq_getElem?_getD, List.getElem?_eq_getElem h0.2]; rfl, h⟩
theorem w_augS {D : Ends} {σ : L2.St} {to ti te : TE} {g : V → V → Hp → VK → Prop} {op : TIp} {ts : TSet} (h : to σ H fun o H1 => augSQ ti te g op ts D σ o H1) : tAugS to ti te g op ts D σ H := h
theorem w_augSQ {D : Ends} {σ : L2.St} {ti te : TE} {g : V → V → Hp → VK → Prop} {op : TIp} {ts : TSet} {x : V} (h : ti σ H fun i H2 => g x i H2 fun v H3 => te σ H3 fun y H4 => op v y H4 fun z H5 => ts x i z H5 fun H6 => D.nx σ H6) : augSQ ti te g op ts D σ x H := h
end steps6
end U
namespace Lam
open PySem PySem.Spec L2 U
local macro_rules | `(tactic| walk_at "te") => `(tactic| fail "no fact")
local macro_rules | `(tactic| walk_at "kt") => `(tactic| fail "no fact")
local macro_rules | `(tactic| walk_at "xc") => `(tactic| fail "no fact")
local macro_rules | `(tactic| walk_at "x") => `(tactic| fail "no step")
local macro_rules | `(tactic| walk_at "hk") => `(tactic| first
  | assumption | exact upd_same | exact SqL.of upd_same | exact SqT.of upd_same
  | (apply sql_old; (· walk_at "hk"); (· assumption)) | (apply upd_old; (· walk_at "hk"); (· assumption)) | (apply sqt_old; (· walk_at "hk"); (· assumption))
  | exact L2.Same.seq (by assumption) (by assumption) | exact U.Same.sqt (by assumption) (by assumption) | exact (by assumption : L2.Same _ _) _ _ (by assumption)
  | (apply SqL.of; walk_at "hk") | (apply SqT.of; walk_at "hk"))
local macro_rules | `(tactic| walk_at "nn") => `(tactic| first | assumption | exact L2.Same.free (by assumption) (by assumption) | exact (none_of_upd (by assumption)).1)
local macro_rules | `(tactic| walk_at "sm") => `(tactic| first | assumption | exact L2.Same.refl _ | (apply same_updN; (· walk_at "sm"); (· assumption)) | (apply same_upd; (· walk_at "sm"); (· walk_at "nn")) | exact L2.Same.trans (by assumption) (by assumption))
local macro_rules | `(tactic| walk_at "s") => `(tactic| first
    | with_reducible refine w_seq ?_
    | with_reducible refine w_op ?_
    | with_reducible refine w_asg ?_
    | with_reducible refine w_name ?_
    | with_reducible refine w_c ?_
    | with_reducible refine w_if ?_
    | with_reducible refine w_test ?_
    | with_reducible refine w_blP ?_
    | with_reducible refine w_cons ?_
    | with_reducible refine w_nil ?_
    | with_reducible refine w_ret ?_
    | with_reducible refine w_call ?_
    | ((with_reducible refine' w_var ?e ?_); (case e => rfl))
    | ((with_reducible refine ifST ?h ?_); (case h => decide +kernel))
    | ((with_reducible refine ifSF ?h ?_); (case h => decide +kernel))
    | ((with_reducible refine ifSNT ?h ?_); (case h => decide +kernel))
    | ((with_reducible refine ifSNF ?h ?_); (case h => decide +kernel))
    | with_reducible refine iteT ?_
    | with_reducible refine iteF ?_
    | with_reducible refine ifNT ?_
    | with_reducible refine ifNF ?_
    | (((with_reducible show @ite Prop (_ = true) _ _ _); refine @ifP _ _ _ _ ?_ ?_) <;> intro h <;> first | (with_reducible exact absurd rfl h) | skip)
    | (((with_reducible show @ite Prop (_ = true) _ _ _); refine @ifN _ _ _ _ ?_ ?_) <;> intro h <;> first | (with_reducible exact absurd rfl h) | skip)
    | with_reducible refine w_eqX ?_
    | with_reducible refine w_neX ?_
    | with_reducible refine w_add ?_
    | with_reducible refine w_sub ?_
    | with_reducible refine w_eqI ?_
    | with_reducible refine w_neI ?_
    | with_reducible refine w_lt ?_
    | with_reducible refine w_le ?_
    | with_reducible refine w_gt ?_
    | with_reducible refine w_ge ?_
    | with_reducible refine w_eqS ?_
    | with_reducible refine w_eqB ?_
    | with_reducible refine w_neS ?_
    | with_reducible refine w_neB ?_
    | with_reducible refine w_cb ?_
    | with_reducible refine w_tup ?_
    | with_reducible refine w_lst ?_
    | with_reducible refine w_next ?_
    | with_reducible refine w_drop ?_
    | with_reducible refine w_not ?_
    | with_reducible refine w_tru ?_
    | with_reducible refine w_and ?_
    | with_reducible refine w_or ?_
    | with_reducible refine w_andV ?_
    | with_reducible refine w_orV ?_
    | with_reducible refine w_notV ?_
    | with_reducible refine w_ifE ?_
    | with_reducible refine w_chain ?_
    | with_reducible refine w_retN ?_
    | with_reducible refine w_bm ?_
    | with_reducible refine w_raise ?_
    | with_reducible refine w_fld ?_
    | with_reducible refine w_meth ?_
    | with_reducible refine w_setf ?_
    | with_reducible refine w_for ?_
    | with_reducible refine w_rng1 ?_
    | with_reducible refine w_rng2 ?_
    | with_reducible refine w_iList ?_
    | with_reducible refine w_iTup ?_
    | with_reducible refine w_iStr ?_
    | with_reducible refine w_iRev ?_
    | with_reducible refine w_brk ?_
    | with_reducible refine w_cont ?_
    | with_reducible refine w_un ?_
    | with_reducible refine w_lc ?_
    | with_reducible refine w_yes ?_
    | with_reducible refine w_gsub ?_
    | with_reducible refine w_sl ?_
    | with_reducible refine w_part ?_
    | with_reducible refine w_noPart ?_
    | with_reducible refine w_wh ?_
    | with_reducible refine w_tryAs ?_
    | with_reducible refine w_try ?_
    | with_reducible refine w_make ?_
    | with_reducible refine w_dget ?_
    | with_reducible refine w_dput ?_
    | with_reducible refine w_gcons ?_
    | with_reducible refine w_gnil ?_
    | with_reducible refine w_augf ?_
    | with_reducible refine w_iEnum ?_
    | with_reducible refine w_iZip ?_
    | with_reducible refine w_iKeys ?_
    | with_reducible refine w_dget2 ?_
    | with_reducible refine w_dget1 ?_
    | with_reducible refine w_dpop1 ?_
    | with_reducible refine w_ddel ?_
    | with_reducible refine w_callX ?_
    | with_reducible refine w_augS ?_
    | with_reducible refine w_augSQ ?_
    | ((with_reducible refine' w_aug ?e ?_); (case e => rfl))
    | ((with_reducible refine w_mul ?s ?_); (case s => first | exact Or.inr ⟨by omega, by omega⟩ | exact Or.inl ⟨by omega, by omega⟩))
    | ((with_reducible refine w_div ?s ?_); (case s => omega))
    | ((with_reducible refine w_mod ?s ?_); (case s => first | omega | decide))
    | ((with_reducible refine w_pow ?s ?_); (case s => first | exact ⟨by decide, by decide, by decide⟩ | exact ⟨by decide, by decide, by omega⟩))
    | ((with_reducible refine w_newL ?s ?_); (case s => (first | exact (by decide) | (simp only [List.length_cons, List.length_nil]; omega))); intro _ _)
    | ((with_reducible refine w_newT ?s ?_); (case s => (first | exact (by decide) | (simp only [List.length_cons, List.length_nil]; omega))); intro _ _)
    | with_reducible refine w_eqX ?_
    | with_reducible refine w_neX ?_
    | with_reducible refine w_findX ?_
    | with_reducible refine w_countX ?_
    | ((with_reducible refine w_lenX ?s ?_); (case s => (first | omega | (simp only [List.length_append, List.length_cons, List.length_nil, List.length_take, List.length_drop, List.length_replicate, List.length_map, List.length_range] at *; omega) | (simp only [List.length_append, List.length_cons, List.length_nil, List.length_take, List.length_drop, List.length_replicate, List.length_map, List.length_range]; omega) | decide)))
    | ((with_reducible refine w_truX ?s ?_); (case s => (first | omega | (simp only [List.length_append, List.length_cons, List.length_nil, List.length_take, List.length_drop, List.length_replicate, List.length_map, List.length_range] at *; omega) | (simp only [List.length_append, List.length_cons, List.length_nil, List.length_take, List.length_drop, List.length_replicate, List.length_map, List.length_range]; omega) | decide)))
    | ((with_reducible refine w_addX ?s ?_); (case s => (first | omega | (simp only [List.length_append, List.length_cons, List.length_nil, List.length_take, List.length_drop, List.length_replicate, List.length_map, List.length_range] at *; omega) | (simp only [List.length_append, List.length_cons, List.length_nil, List.length_take, List.length_drop, List.length_replicate, List.length_map, List.length_range]; omega) | decide)))
    | ((with_reducible refine w_mulX ?h0 ?h1 ?_); (case h0 => (first | omega | (simp only [List.length_append, List.length_cons, List.length_nil, List.length_take, List.length_drop, List.length_replicate, List.length_map, List.length_range] at *; omega) | (simp only [List.length_append, List.length_cons, List.length_nil, List.length_take, List.length_drop, List.length_replicate, List.length_map, List.length_range]; omega) | decide)); (case h1 => (first | omega | (simp only [List.length_append, List.length_cons, List.length_nil, List.length_take, List.length_drop, List.length_replicate, List.length_map, List.length_range] at *; omega) | (simp only [List.length_append, List.length_cons, List.length_nil, List.length_take, List.length_drop, List.length_replicate, List.length_map, List.length_range]; omega) | decide)))
    | ((with_reducible refine w_tkX ?s ?h0 ?_); (case s => (first | omega | (simp only [List.length_append, List.length_cons, List.length_nil, List.length_take, List.length_drop, List.length_replicate, List.length_map, List.length_range] at *; omega) | (simp only [List.length_append, List.length_cons, List.length_nil, List.length_take, List.length_drop, List.length_replicate, List.length_map, List.length_range]; omega) | decide)); (case h0 => (first | omega | (simp only [List.length_append, List.length_cons, List.length_nil, List.length_take, List.length_drop, List.length_replicate, List.length_map, List.length_range] at *; omega) | (simp only [List.length_append, List.length_cons, List.length_nil, List.length_take, List.length_drop, List.length_replicate, List.length_map, List.length_range]; omega) | decide)))
    | ((with_reducible refine w_dpX ?s ?h0 ?_); (case s => (first | omega | (simp only [List.length_append, List.length_cons, List.length_nil, List.length_take, List.length_drop, List.length_replicate, List.length_map, List.length_range] at *; omega) | (simp only [List.length_append, List.length_cons, List.length_nil, List.length_take, List.length_drop, List.length_replicate, List.length_map, List.length_range]; omega) | decide)); (case h0 => (first | omega | (simp only [List.length_append, List.length_cons, List.length_nil, List.length_take, List.length_drop, List.length_replicate, List.length_map, List.length_range] at *; omega) | (simp only [List.length_append, List.length_cons, List.length_nil, List.length_take, List.length_drop, List.length_replicate, List.length_map, List.length_range]; omega) | decide)))
    | ((with_reducible refine w_ixX ?s ?h0 ?_); (case s => (first | omega | (simp only [List.length_append, List.length_cons, List.length_nil, List.length_take, List.length_drop, List.length_replicate, List.length_map, List.length_range] at *; omega) | (simp only [List.length_append, List.length_cons, List.length_nil, List.length_take, List.length_drop, List.length_replicate, List.length_map, List.length_range]; omega) | decide)); (case h0 => (first | omega | (simp only [List.length_append, List.length_cons, List.length_nil, List.length_take, List.length_drop, List.length_replicate, List.length_map, List.length_range] at *; omega) | (simp only [List.length_append, List.length_cons, List.length_nil, List.length_take, List.length_drop, List.length_replicate, List.length_map, List.length_range]; omega) | decide)))
    | with_reducible refine w_max ?_
    | with_reducible refine w_min ?_
    | with_reducible refine w_eqNI ?_
    | with_reducible refine w_neNI ?_
    | with_reducible refine w_eqIN ?_
    | with_reducible refine w_neIN ?_
    | with_reducible refine w_neNN ?_
    | with_reducible refine w_eqNN ?_
    | with_reducible refine w_abs ?_
    | with_reducible refine w_intI ?_
    | with_reducible refine w_intB ?_
    | with_reducible refine w_ipI ?_
    | with_reducible refine w_bmS ?_
    | with_reducible refine w_iStrv ?_
    | with_reducible refine w_neg ?_
    | with_reducible refine w_partI ?_
    | with_reducible refine w_truB ?_
    | with_reducible refine w_truN ?_
    | with_reducible refine w_truI ?_
    | with_reducible refine w_isi_int_int ?_
    | with_reducible refine w_isi_int_bl ?_
    | with_reducible refine w_isi_int_str ?_
    | with_reducible refine w_isi_int_non ?_
    | with_reducible refine w_isi_bool_int ?_
    | with_reducible refine w_isi_bool_bl ?_
    | with_reducible refine w_isi_bool_str ?_
    | with_reducible refine w_isi_bool_non ?_
    | with_reducible refine w_isi_str_int ?_
    | with_reducible refine w_isi_str_bl ?_
    | with_reducible refine w_isi_str_str ?_
    | with_reducible refine w_isi_str_non ?_
    | with_reducible refine w_isi_list_int ?_
    | with_reducible refine w_isi_list_bl ?_
    | with_reducible refine w_isi_list_str ?_
    | with_reducible refine w_isi_list_non ?_
    | with_reducible refine w_isi_tuple_int ?_
    | with_reducible refine w_isi_tuple_bl ?_
    | with_reducible refine w_isi_tuple_str ?_
    | with_reducible refine w_isi_tuple_non ?_
    | with_reducible refine w_is_int ?_
    | with_reducible refine w_isnt_int ?_
    | with_reducible refine w_is_bl ?_
    | with_reducible refine w_isnt_bl ?_
    | with_reducible refine w_is_str ?_
    | with_reducible refine w_isnt_str ?_
    | with_reducible refine w_is_non ?_
    | with_reducible refine w_isnt_non ?_
    | with_reducible refine w_is_ref ?_
    | with_reducible refine w_isnt_ref ?_
    | ((with_reducible refine w_asT ?e ?_); (case e => walk_at "te"); intro _ _)
    | ((with_reducible refine w_onT ?e ?_); (case e => walk_at "te"); intro _ _)
    | ((with_reducible refine w_asF ?e ?_); (case e => walk_at "te"))
    | ((with_reducible refine w_onF ?e ?_); (case e => walk_at "te"))
    | ((with_reducible apply w_isE); (· walk_at "xc"); (· walk_at "kt"))
    | ((with_reducible apply w_lenL); (· walk_at "hk"))
    | ((with_reducible apply w_lenT); (· walk_at "hk"))
    | ((with_reducible apply w_bmL); (· walk_at "hk"))
    | ((with_reducible refine w_rng1v ?h1 ?h2 ?_); (case h1 => (first | omega | (simp only [List.length_map] at *; omega))); (case h2 => (first | omega | (simp only [List.length_map] at *; omega))))
    | ((with_reducible refine w_rng2v ?h1 ?_); (case h1 => (first | omega | (simp only [List.length_map] at *; omega))))
    | ((with_reducible apply w_ixI); (· walk_at "hk"); (· (first | omega | (simp only [List.length_map] at *; omega))))
    | ((with_reducible apply w_ixTI); (· walk_at "hk"); (· (first | omega | (simp only [List.length_map] at *; omega))))
    | ((with_reducible apply w_ixBl); (· walk_at "hk"); (· (first | omega | (simp only [List.length_map] at *; omega))))
    | ((with_reducible apply w_getI2); (· walk_at "hk"); (· (first | omega | (simp only [List.length_map] at *; omega))))
    | ((with_reducible apply w_ixTl); (· walk_at "hk"); (· rfl); (· decide))
    | ((with_reducible apply w_ixLl); (· walk_at "hk"); (· rfl); (· decide))
    | ((with_reducible apply w_appI); (· walk_at "hk"); (· (first | omega | (simp only [List.length_append, List.length_cons, List.length_nil]; omega))))
    | ((with_reducible apply w_iListv); (· walk_at "hk"))
    | ((with_reducible apply w_iTupv); (· walk_at "hk"))
    | ((with_reducible apply w_iRevv); (· walk_at "hk"))
    | ((with_reducible apply w_iEnumv); (· walk_at "hk"))
    | ((with_reducible apply w_iZipv); (· walk_at "hk"); (· walk_at "hk"))
    | ((with_reducible apply w_dget2v); (· walk_at "hk"))
    | ((with_reducible apply w_dget1v); (· walk_at "hk"))
    | ((with_reducible apply w_dpop1v); (· walk_at "hk"))
    | ((with_reducible apply w_getI); (· walk_at "hk"))
    | ((with_reducible apply w_inD); (· walk_at "hk"))
    | ((with_reducible apply w_ninD); (· walk_at "hk"))
    | ((with_reducible apply w_rep1); (· walk_at "hk"); (· (first | omega | (simp only [List.length_append, List.length_cons, List.length_nil, List.length_take, List.length_drop, List.length_replicate, List.length_map, List.length_range] at *; omega) | (simp only [List.length_append, List.length_cons, List.length_nil, List.length_take, List.length_drop, List.length_replicate, List.length_map, List.length_range]; omega) | decide)); (· (first | omega | (simp only [List.length_append, List.length_cons, List.length_nil, List.length_take, List.length_drop, List.length_replicate, List.length_map, List.length_range] at *; omega) | (simp only [List.length_append, List.length_cons, List.length_nil, List.length_take, List.length_drop, List.length_replicate, List.length_map, List.length_range]; omega) | decide)); intro _ _)
    | ((with_reducible apply w_gtup2); (· walk_at "hk"))
    | ((with_reducible apply w_gtup3); (· walk_at "hk"))
    | ((with_reducible apply w_gtup4); (· walk_at "hk"))
    | ((with_reducible refine w_newD ?_); intro _ _)
    | ((with_reducible apply w_augsub); (· walk_at "hk"); (· rfl); (· exact Nat.le_of_ble_eq_true rfl))
    | ((with_reducible apply w_augadd); (· walk_at "hk"); (· rfl); (· exact Nat.le_of_ble_eq_true rfl))
    | ((with_reducible apply w_fldv); (· walk_at "hk"); (· rfl))
    | ((with_reducible apply w_methv); (· walk_at "hk"); (· rfl))
    | ((with_reducible apply w_setfv); (· walk_at "hk"); (· exact Nat.le_of_ble_eq_true rfl); (· rfl))
    | walk_at "x")
local macro_rules | `(tactic| walk_at "run1") => `(tactic| repeat (first
    | with_reducible refine w_seq ?_
    | with_reducible refine w_op ?_
    | with_reducible refine w_asg ?_
    | with_reducible refine w_name ?_
    | with_reducible refine w_c ?_
    | with_reducible refine w_if ?_
    | with_reducible refine w_test ?_
    | with_reducible refine w_blP ?_
    | with_reducible refine w_cons ?_
    | with_reducible refine w_nil ?_
    | with_reducible refine w_ret ?_
    | with_reducible refine w_call ?_
    | ((with_reducible refine' w_var ?e ?_); (case e => rfl))
    | ((with_reducible refine ifST ?h ?_); (case h => decide +kernel))
    | ((with_reducible refine ifSF ?h ?_); (case h => decide +kernel))
    | ((with_reducible refine ifSNT ?h ?_); (case h => decide +kernel))
    | ((with_reducible refine ifSNF ?h ?_); (case h => decide +kernel))
    | with_reducible refine iteT ?_
    | with_reducible refine iteF ?_
    | with_reducible refine ifNT ?_
    | with_reducible refine ifNF ?_
    | (((with_reducible show @ite Prop (_ = true) _ _ _); refine @ifP _ _ _ _ ?_ ?_) <;> intro h <;> first | (with_reducible exact absurd rfl h) | skip)
    | (((with_reducible show @ite Prop (_ = true) _ _ _); refine @ifN _ _ _ _ ?_ ?_) <;> intro h <;> first | (with_reducible exact absurd rfl h) | skip)
    | with_reducible refine w_eqX ?_
    | with_reducible refine w_neX ?_
    | with_reducible refine w_add ?_
    | with_reducible refine w_sub ?_
    | with_reducible refine w_eqI ?_
    | with_reducible refine w_neI ?_
    | with_reducible refine w_lt ?_
    | with_reducible refine w_le ?_
    | with_reducible refine w_gt ?_
    | with_reducible refine w_ge ?_
    | with_reducible refine w_eqS ?_
    | with_reducible refine w_eqB ?_
    | with_reducible refine w_neS ?_
    | with_reducible refine w_neB ?_
    | with_reducible refine w_cb ?_
    | with_reducible refine w_tup ?_
    | with_reducible refine w_lst ?_
    | with_reducible refine w_next ?_
    | with_reducible refine w_drop ?_
    | with_reducible refine w_not ?_
    | with_reducible refine w_tru ?_
    | with_reducible refine w_and ?_
    | with_reducible refine w_or ?_
    | with_reducible refine w_andV ?_
    | with_reducible refine w_orV ?_
    | with_reducible refine w_notV ?_
    | with_reducible refine w_ifE ?_
    | with_reducible refine w_chain ?_
    | with_reducible refine w_retN ?_
    | with_reducible refine w_bm ?_
    | with_reducible refine w_raise ?_
    | with_reducible refine w_fld ?_
    | with_reducible refine w_meth ?_
    | with_reducible refine w_setf ?_
    | with_reducible refine w_for ?_
    | with_reducible refine w_rng1 ?_
    | with_reducible refine w_rng2 ?_
    | with_reducible refine w_iList ?_
    | with_reducible refine w_iTup ?_
    | with_reducible refine w_iStr ?_
    | with_reducible refine w_iRev ?_
    | with_reducible refine w_brk ?_
    | with_reducible refine w_cont ?_
    | with_reducible refine w_un ?_
    | with_reducible refine w_lc ?_
    | with_reducible refine w_yes ?_
    | with_reducible refine w_gsub ?_
    | with_reducible refine w_sl ?_
    | with_reducible refine w_part ?_
    | with_reducible refine w_noPart ?_
    | with_reducible refine w_wh ?_
    | with_reducible refine w_tryAs ?_
    | with_reducible refine w_try ?_
    | with_reducible refine w_make ?_
    | with_reducible refine w_dget ?_
    | with_reducible refine w_dput ?_
    | with_reducible refine w_gcons ?_
    | with_reducible refine w_gnil ?_
    | with_reducible refine w_augf ?_
    | with_reducible refine w_iEnum ?_
    | with_reducible refine w_iZip ?_
    | with_reducible refine w_iKeys ?_
    | with_reducible refine w_dget2 ?_
    | with_reducible refine w_dget1 ?_
    | with_reducible refine w_dpop1 ?_
    | with_reducible refine w_ddel ?_
    | with_reducible refine w_callX ?_
    | with_reducible refine w_augS ?_
    | with_reducible refine w_augSQ ?_
    | ((with_reducible refine' w_aug ?e ?_); (case e => rfl))
    | ((with_reducible refine w_mul ?s ?_); (case s => first | exact Or.inr ⟨by omega, by omega⟩ | exact Or.inl ⟨by omega, by omega⟩))
    | ((with_reducible refine w_div ?s ?_); (case s => omega))
    | ((with_reducible refine w_mod ?s ?_); (case s => first | omega | decide))
    | ((with_reducible refine w_pow ?s ?_); (case s => first | exact ⟨by decide, by decide, by decide⟩ | exact ⟨by decide, by decide, by omega⟩))
    | ((with_reducible refine w_newL ?s ?_); (case s => (first | exact (by decide) | (simp only [List.length_cons, List.length_nil]; omega))); intro _ _)
    | ((with_reducible refine w_newT ?s ?_); (case s => (first | exact (by decide) | (simp only [List.length_cons, List.length_nil]; omega))); intro _ _)
    | with_reducible refine w_eqX ?_
    | with_reducible refine w_neX ?_
    | with_reducible refine w_findX ?_
    | with_reducible refine w_countX ?_
    | ((with_reducible refine w_lenX ?s ?_); (case s => (first | omega | (simp only [List.length_append, List.length_cons, List.length_nil, List.length_take, List.length_drop, List.length_replicate, List.length_map, List.length_range] at *; omega) | (simp only [List.length_append, List.length_cons, List.length_nil, List.length_take, List.length_drop, List.length_replicate, List.length_map, List.length_range]; omega) | decide)))
    | ((with_reducible refine w_truX ?s ?_); (case s => (first | omega | (simp only [List.length_append, List.length_cons, List.length_nil, List.length_take, List.length_drop, List.length_replicate, List.length_map, List.length_range] at *; omega) | (simp only [List.length_append, List.length_cons, List.length_nil, List.length_take, List.length_drop, List.length_replicate, List.length_map, List.length_range]; omega) | decide)))
    | ((with_reducible refine w_addX ?s ?_); (case s => (first | omega | (simp only [List.length_append, List.length_cons, List.length_nil, List.length_take, List.length_drop, List.length_replicate, List.length_map, List.length_range] at *; omega) | (simp only [List.length_append, List.length_cons, List.length_nil, List.length_take, List.length_drop, List.length_replicate, List.length_map, List.length_range]; omega) | decide)))
    | ((with_reducible refine w_mulX ?h0 ?h1 ?_); (case h0 => (first | omega | (simp only [List.length_append, List.length_cons, List.length_nil, List.length_take, List.length_drop, List.length_replicate, List.length_map, List.length_range] at *; omega) | (simp only [List.length_append, List.length_cons, List.length_nil, List.length_take, List.length_drop, List.length_replicate, List.length_map, List.length_range]; omega) | decide)); (case h1 => (first | omega | (simp only [List.length_append, List.length_cons, List.length_nil, List.length_take, List.length_drop, List.length_replicate, List.length_map, List.length_range] at *; omega) | (simp only [List.length_append, List.length_cons, List.length_nil, List.length_take, List.length_drop, List.length_replicate, List.length_map, List.length_range]; omega) | decide)))
    | ((with_reducible refine w_tkX ?s ?h0 ?_); (case s => (first | omega | (simp only [List.length_append, List.length_cons, List.length_nil, List.length_take, List.length_drop, List.length_replicate, List.length_map, List.length_range] at *; omega) | (simp only [List.length_append, List.length_cons, List.length_nil, List.length_take, List.length_drop, List.length_replicate, List.length_map, List.length_range]; omega) | decide)); (case h0 => (first | omega | (simp only [List.length_append, List.length_cons, List.length_nil, List.length_take, List.length_drop, List.length_replicate, List.length_map, List.length_range] at *; omega) | (simp only [List.length_append, List.length_cons, List.length_nil, List.length_take, List.length_drop, List.length_replicate, List.length_map, List.length_range]; omega) | decide)))
    | ((with_reducible refine w_dpX ?s ?h0 ?_); (case s => (first | omega | (simp only [List.length_append, List.length_cons, List.length_nil, List.length_take, List.length_drop, List.length_replicate, List.length_map, List.length_range] at *; omega) | (simp only [List.length_append, List.length_cons, List.length_nil, List.length_take, List.length_drop, List.length_replicate, List.length_map, List.length_range]; omega) | decide)); (case h0 => (first | omega | (simp only [List.length_append, List.length_cons, List.length_nil, List.length_take, List.length_drop, List.length_replicate, List.length_map, List.length_range] at *; omega) | (simp only [List.length_append, List.length_cons, List.length_nil, List.length_take, List.length_drop, List.length_replicate, List.length_map, List.length_range]; omega) | decide)))
    | ((with_reducible refine w_ixX ?s ?h0 ?_); (case s => (first | omega | (simp only [List.length_append, List.length_cons, List.length_nil, List.length_take, List.length_drop, List.length_replicate, List.length_map, List.length_range] at *; omega) | (simp only [List.length_append, List.length_cons, List.length_nil, List.length_take, List.length_drop, List.length_replicate, List.length_map, List.length_range]; omega) | decide)); (case h0 => (first | omega | (simp only [List.length_append, List.length_cons, List.length_nil, List.length_take, List.length_drop, List.length_replicate, List.length_map, List.length_range] at *; omega) | (simp only [List.length_append, List.length_cons, List.length_nil, List.length_take, List.length_drop, List.length_replicate, List.length_map, List.length_range]; omega) | decide)))
    | with_reducible refine w_max ?_
    | with_reducible refine w_min ?_
    | with_reducible refine w_eqNI ?_
    | with_reducible refine w_neNI ?_
    | with_reducible refine w_eqIN ?_
    | with_reducible refine w_neIN ?_
    | with_reducible refine w_neNN ?_
    | with_reducible refine w_eqNN ?_
    | with_reducible refine w_abs ?_
    | with_reducible refine w_intI ?_
    | with_reducible refine w_intB ?_
    | with_reducible refine w_ipI ?_
    | with_reducible refine w_bmS ?_
    | with_reducible refine w_iStrv ?_
    | with_reducible refine w_neg ?_
    | with_reducible refine w_partI ?_
    | with_reducible refine w_truB ?_
    | with_reducible refine w_truN ?_
    | with_reducible refine w_truI ?_
    | with_reducible refine w_isi_int_int ?_
    | with_reducible refine w_isi_int_bl ?_
    | with_reducible refine w_isi_int_str ?_
    | with_reducible refine w_isi_int_non ?_
    | with_reducible refine w_isi_bool_int ?_
    | with_reducible refine w_isi_bool_bl ?_
    | with_reducible refine w_isi_bool_str ?_
    | with_reducible refine w_isi_bool_non ?_
    | with_reducible refine w_isi_str_int ?_
    | with_reducible refine w_isi_str_bl ?_
    | with_reducible refine w_isi_str_str ?_
    | with_reducible refine w_isi_str_non ?_
    | with_reducible refine w_isi_list_int ?_
    | with_reducible refine w_isi_list_bl ?_
    | with_reducible refine w_isi_list_str ?_
    | with_reducible refine w_isi_list_non ?_
    | with_reducible refine w_isi_tuple_int ?_
    | with_reducible refine w_isi_tuple_bl ?_
    | with_reducible refine w_isi_tuple_str ?_
    | with_reducible refine w_isi_tuple_non ?_
    | with_reducible refine w_is_int ?_
    | with_reducible refine w_isnt_int ?_
    | with_reducible refine w_is_bl ?_
    | with_reducible refine w_isnt_bl ?_
    | with_reducible refine w_is_str ?_
    | with_reducible refine w_isnt_str ?_
    | with_reducible refine w_is_non ?_
    | with_reducible refine w_isnt_non ?_
    | with_reducible refine w_is_ref ?_
    | with_reducible refine w_isnt_ref ?_
    | ((with_reducible refine w_asT ?e ?_); (case e => walk_at "te"); intro _ _)
    | ((with_reducible refine w_onT ?e ?_); (case e => walk_at "te"); intro _ _)
    | ((with_reducible refine w_asF ?e ?_); (case e => walk_at "te"))
    | ((with_reducible refine w_onF ?e ?_); (case e => walk_at "te"))
    | ((with_reducible apply w_isE); (· walk_at "xc"); (· walk_at "kt"))
    | ((with_reducible apply w_lenL); (· walk_at "hk"))
    | ((with_reducible apply w_lenT); (· walk_at "hk"))
    | ((with_reducible apply w_bmL); (· walk_at "hk"))
    | ((with_reducible refine w_rng1v ?h1 ?h2 ?_); (case h1 => (first | omega | (simp only [List.length_map] at *; omega))); (case h2 => (first | omega | (simp only [List.length_map] at *; omega))))
    | ((with_reducible refine w_rng2v ?h1 ?_); (case h1 => (first | omega | (simp only [List.length_map] at *; omega))))
    | ((with_reducible apply w_ixI); (· walk_at "hk"); (· (first | omega | (simp only [List.length_map] at *; omega))))
    | ((with_reducible apply w_ixTI); (· walk_at "hk"); (· (first | omega | (simp only [List.length_map] at *; omega))))
    | ((with_reducible apply w_ixBl); (· walk_at "hk"); (· (first | omega | (simp only [List.length_map] at *; omega))))
    | ((with_reducible apply w_getI2); (· walk_at "hk"); (· (first | omega | (simp only [List.length_map] at *; omega))))
    | ((with_reducible apply w_ixTl); (· walk_at "hk"); (· rfl); (· decide))
    | ((with_reducible apply w_ixLl); (· walk_at "hk"); (· rfl); (· decide))
    | ((with_reducible apply w_appI); (· walk_at "hk"); (· (first | omega | (simp only [List.length_append, List.length_cons, List.length_nil]; omega))))
    | ((with_reducible apply w_iListv); (· walk_at "hk"))
    | ((with_reducible apply w_iTupv); (· walk_at "hk"))
    | ((with_reducible apply w_iRevv); (· walk_at "hk"))
    | ((with_reducible apply w_iEnumv); (· walk_at "hk"))
    | ((with_reducible apply w_iZipv); (· walk_at "hk"); (· walk_at "hk"))
    | ((with_reducible apply w_dget2v); (· walk_at "hk"))
    | ((with_reducible apply w_dget1v); (· walk_at "hk"))
    | ((with_reducible apply w_dpop1v); (· walk_at "hk"))
    | ((with_reducible apply w_getI); (· walk_at "hk"))
    | ((with_reducible apply w_inD); (· walk_at "hk"))
    | ((with_reducible apply w_ninD); (· walk_at "hk"))
    | ((with_reducible apply w_rep1); (· walk_at "hk"); (· (first | omega | (simp only [List.length_append, List.length_cons, List.length_nil, List.length_take, List.length_drop, List.length_replicate, List.length_map, List.length_range] at *; omega) | (simp only [List.length_append, List.length_cons, List.length_nil, List.length_take, List.length_drop, List.length_replicate, List.length_map, List.length_range]; omega) | decide)); (· (first | omega | (simp only [List.length_append, List.length_cons, List.length_nil, List.length_take, List.length_drop, List.length_replicate, List.length_map, List.length_range] at *; omega) | (simp only [List.length_append, List.length_cons, List.length_nil, List.length_take, List.length_drop, List.length_replicate, List.length_map, List.length_range]; omega) | decide)); intro _ _)
    | ((with_reducible apply w_gtup2); (· walk_at "hk"))
    | ((with_reducible apply w_gtup3); (· walk_at "hk"))
    | ((with_reducible apply w_gtup4); (· walk_at "hk"))
    | ((with_reducible refine w_newD ?_); intro _ _)
    | ((with_reducible apply w_augsub); (· walk_at "hk"); (· rfl); (· exact Nat.le_of_ble_eq_true rfl))
    | ((with_reducible apply w_augadd); (· walk_at "hk"); (· rfl); (· exact Nat.le_of_ble_eq_true rfl))
    | ((with_reducible apply w_fldv); (· walk_at "hk"); (· rfl))
    | ((with_reducible apply w_methv); (· walk_at "hk"); (· rfl))
    | ((with_reducible apply w_setfv); (· walk_at "hk"); (· exact Nat.le_of_ble_eq_true rfl); (· rfl))
    | walk_at "x"))
local macro_rules | `(tactic| walk_at "run") => `(tactic| repeat' (first
    | with_reducible refine w_seq ?_
    | with_reducible refine w_op ?_
    | with_reducible refine w_asg ?_
    | with_reducible refine w_name ?_
    | with_reducible refine w_c ?_
    | with_reducible refine w_if ?_
    | with_reducible refine w_test ?_
    | with_reducible refine w_blP ?_
    | with_reducible refine w_cons ?_
    | with_reducible refine w_nil ?_
    | with_reducible refine w_ret ?_
    | with_reducible refine w_call ?_
    | ((with_reducible refine' w_var ?e ?_); (case e => rfl))
    | ((with_reducible refine ifST ?h ?_); (case h => decide +kernel))
    | ((with_reducible refine ifSF ?h ?_); (case h => decide +kernel))
    | ((with_reducible refine ifSNT ?h ?_); (case h => decide +kernel))
    | ((with_reducible refine ifSNF ?h ?_); (case h => decide +kernel))
    | with_reducible refine iteT ?_
    | with_reducible refine iteF ?_
    | with_reducible refine ifNT ?_
    | with_reducible refine ifNF ?_
    | (((with_reducible show @ite Prop (_ = true) _ _ _); refine @ifP _ _ _ _ ?_ ?_) <;> intro h <;> first | (with_reducible exact absurd rfl h) | skip)
    | (((with_reducible show @ite Prop (_ = true) _ _ _); refine @ifN _ _ _ _ ?_ ?_) <;> intro h <;> first | (with_reducible exact absurd rfl h) | skip)
    | with_reducible refine w_eqX ?_
    | with_reducible refine w_neX ?_
    | with_reducible refine w_add ?_
    | with_reducible refine w_sub ?_
    | with_reducible refine w_eqI ?_
    | with_reducible refine w_neI ?_
    | with_reducible refine w_lt ?_
    | with_reducible refine w_le ?_
    | with_reducible refine w_gt ?_
    | with_reducible refine w_ge ?_
    | with_reducible refine w_eqS ?_
    | with_reducible refine w_eqB ?_
    | with_reducible refine w_neS ?_
    | with_reducible refine w_neB ?_
    | with_reducible refine w_cb ?_
    | with_reducible refine w_tup ?_
    | with_reducible refine w_lst ?_
    | with_reducible refine w_next ?_
    | with_reducible refine w_drop ?_
    | with_reducible refine w_not ?_
    | with_reducible refine w_tru ?_
    | with_reducible refine w_and ?_
    | with_reducible refine w_or ?_
    | with_reducible refine w_andV ?_
    | with_reducible refine w_orV ?_
    | with_reducible refine w_notV ?_
    | with_reducible refine w_ifE ?_
    | with_reducible refine w_chain ?_
    | with_reducible refine w_retN ?_
    | with_reducible refine w_bm ?_
    | with_reducible refine w_raise ?_
    | with_reducible refine w_fld ?_
    | with_reducible refine w_meth ?_
    | with_reducible refine w_setf ?_
    | with_reducible refine w_for ?_
    | with_reducible refine w_rng1 ?_
    | with_reducible refine w_rng2 ?_
    | with_reducible refine w_iList ?_
    | with_reducible refine w_iTup ?_
    | with_reducible refine w_iStr ?_
    | with_reducible refine w_iRev ?_
    | with_reducible refine w_brk ?_
    | with_reducible refine w_cont ?_
    | with_reducible refine w_un ?_
    | with_reducible refine w_lc ?_
    | with_reducible refine w_yes ?_
    | with_reducible refine w_gsub ?_
    | with_reducible refine w_sl ?_
    | with_reducible refine w_part ?_
    | with_reducible refine w_noPart ?_
    | with_reducible refine w_wh ?_
    | with_reducible refine w_tryAs ?_
    | with_reducible refine w_try ?_
    | with_reducible refine w_make ?_
    | with_reducible refine w_dget ?_
    | with_reducible refine w_dput ?_
    | with_reducible refine w_gcons ?_
    | with_reducible refine w_gnil ?_
    | with_reducible refine w_augf ?_
    | with_reducible refine w_iEnum ?_
    | with_reducible refine w_iZip ?_
    | with_reducible refine w_iKeys ?_
    | with_reducible refine w_dget2 ?_
    | with_reducible refine w_dget1 ?_
    | with_reducible refine w_dpop1 ?_
    | with_reducible refine w_ddel ?_
    | with_reducible refine w_callX ?_
    | with_reducible refine w_augS ?_
    | with_reducible refine w_augSQ ?_
    | ((with_reducible refine' w_aug ?e ?_); (case e => rfl))
    | ((with_reducible refine w_mul ?s ?_); (case s => first | exact Or.inr ⟨by omega, by omega⟩ | exact Or.inl ⟨by omega, by omega⟩))
    | ((with_reducible refine w_div ?s ?_); (case s => omega))
    | ((with_reducible refine w_mod ?s ?_); (case s => first | omega | decide))
    | ((with_reducible refine w_pow ?s ?_); (case s => first | exact ⟨by decide, by decide, by decide⟩ | exact ⟨by decide, by decide, by omega⟩))
    | ((with_reducible refine w_newL ?s ?_); (case s => (first | exact (by decide) | (simp only [List.length_cons, List.length_nil]; omega))); intro _ _)
    | ((with_reducible refine w_newT ?s ?_); (case s => (first | exact (by decide) | (simp only [List.length_cons, List.length_nil]; omega))); intro _ _)
    | with_reducible refine w_eqX ?_
    | with_reducible refine w_neX ?_
    | with_reducible refine w_findX ?_
    | with_reducible refine w_countX ?_
    | ((with_reducible refine w_lenX ?s ?_); (case s => (first | omega | (simp only [List.length_append, List.length_cons, List.length_nil, List.length_take, List.length_drop, List.length_replicate, List.length_map, List.length_range] at *; omega) | (simp only [List.length_append, List.length_cons, List.length_nil, List.length_take, List.length_drop, List.length_replicate, List.length_map, List.length_range]; omega) | decide)))
    | ((with_reducible refine w_truX ?s ?_); (case s => (first | omega | (simp only [List.length_append, List.length_cons, List.length_nil, List.length_take, List.length_drop, List.length_replicate, List.length_map, List.length_range] at *; omega) | (simp only [List.length_append, List.length_cons, List.length_nil, List.length_take, List.length_drop, List.length_replicate, List.length_map, List.length_range]; omega) | decide)))
    | ((with_reducible refine w_addX ?s ?_); (case s => (first | omega | (simp only [List.length_append, List.length_cons, List.length_nil, List.length_take, List.length_drop, List.length_replicate, List.length_map, List.length_range] at *; omega) | (simp only [List.length_append, List.length_cons, List.length_nil, List.length_take, List.length_drop, List.length_replicate, List.length_map, List.length_range]; omega) | decide)))
    | ((with_reducible refine w_mulX ?h0 ?h1 ?_); (case h0 => (first | omega | (simp only [List.length_append, List.length_cons, List.length_nil, List.length_take, List.length_drop, List.length_replicate, List.length_map, List.length_range] at *; omega) | (simp only [List.length_append, List.length_cons, List.length_nil, List.length_take, List.length_drop, List.length_replicate, List.length_map, List.length_range]; omega) | decide)); (case h1 => (first | omega | (simp only [List.length_append, List.length_cons, List.length_nil, List.length_take, List.length_drop, List.length_replicate, List.length_map, List.length_range] at *; omega) | (simp only [List.length_append, List.length_cons, List.length_nil, List.length_take, List.length_drop, List.length_replicate, List.length_map, List.length_range]; omega) | decide)))
    | ((with_reducible refine w_tkX ?s ?h0 ?_); (case s => (first | omega | (simp only [List.length_append, List.length_cons, List.length_nil, List.length_take, List.length_drop, List.length_replicate, List.length_map, List.length_range] at *; omega) | (simp only [List.length_append, List.length_cons, List.length_nil, List.length_take, List.length_drop, List.length_replicate, List.length_map, List.length_range]; omega) | decide)); (case h0 => (first | omega | (simp only [List.length_append, List.length_cons, List.length_nil, List.length_take, List.length_drop, List.length_replicate, List.length_map, List.length_range] at *; omega) | (simp only [List.length_append, List.length_cons, List.length_nil, List.length_take, List.length_drop, List.length_replicate, List.length_map, List.length_range]; omega) | decide)))
    | ((with_reducible refine w_dpX ?s ?h0 ?_); (case s => (first | omega | (simp only [List.length_append, List.length_cons, List.length_nil, List.length_take, List.length_drop, List.length_replicate, List.length_map, List.length_range] at *; omega) | (simp only [List.length_append, List.length_cons, List.length_nil, List.length_take, List.length_drop, List.length_replicate, List.length_map, List.length_range]; omega) | decide)); (case h0 => (first | omega | (simp only [List.length_append, List.length_cons, List.length_nil, List.length_take, List.length_drop, List.length_replicate, List.length_map, List.length_range] at *; omega) | (simp only [List.length_append, List.length_cons, List.length_nil, List.length_take, List.length_drop, List.length_replicate, List.length_map, List.length_range]; omega) | decide)))
    | ((with_reducible refine w_ixX ?s ?h0 ?_); (case s => (first | omega | (simp only [List.length_append, List.length_cons, List.length_nil, List.length_take, List.length_drop, List.length_replicate, List.length_map, List.length_range] at *; omega) | (simp only [List.length_append, List.length_cons, List.length_nil, List.length_take, List.length_drop, List.length_replicate, List.length_map, List.length_range]; omega) | decide)); (case h0 => (first | omega | (simp only [List.length_append, List.length_cons, List.length_nil, List.length_take, List.length_drop, List.length_replicate, List.length_map, List.length_range] at *; omega) | (simp only [List.length_append, List.length_cons, List.length_nil, List.length_take, List.length_drop, List.length_replicate, List.length_map, List.length_range]; omega) | decide)))
    | with_reducible refine w_max ?_
    | with_reducible refine w_min ?_
    | with_reducible refine w_eqNI ?_
    | with_reducible refine w_neNI ?_
    | with_reducible refine w_eqIN ?_
    | with_reducible refine w_neIN ?_
    | with_reducible refine w_neNN ?_
    | with_reducible refine w_eqNN ?_
    | with_reducible refine w_abs ?_
    | with_reducible refine w_intI ?_
    | with_reducible refine w_intB ?_
    | with_reducible refine w_ipI ?_
    | with_reducible refine w_bmS ?_
    | with_reducible refine w_iStrv ?_
    | with_reducible refine w_neg ?_
    | with_reducible refine w_partI ?_
    | with_reducible refine w_truB ?_
    | with_reducible refine w_truN ?_
    | with_reducible refine w_truI ?_
    | with_reducible refine w_isi_int_int ?_
    | with_reducible refine w_isi_int_bl ?_
    | with_reducible refine w_isi_int_str ?_
    | with_reducible refine w_isi_int_non ?_
    | with_reducible refine w_isi_bool_int ?_
    | with_reducible refine w_isi_bool_bl ?_
    | with_reducible refine w_isi_bool_str ?_
    | with_reducible refine w_isi_bool_non ?_
    | with_reducible refine w_isi_str_int ?_
    | with_reducible refine w_isi_str_bl ?_
    | with_reducible refine w_isi_str_str ?_
    | with_reducible refine w_isi_str_non ?_
    | with_reducible refine w_isi_list_int ?_
    | with_reducible refine w_isi_list_bl ?_
    | with_reducible refine w_isi_list_str ?_
    | with_reducible refine w_isi_list_non ?_
    | with_reducible refine w_isi_tuple_int ?_
    | with_reducible refine w_isi_tuple_bl ?_
    | with_reducible refine w_isi_tuple_str ?_
    | with_reducible refine w_isi_tuple_non ?_
    | with_reducible refine w_is_int ?_
    | with_reducible refine w_isnt_int ?_
    | with_reducible refine w_is_bl ?_
    | with_reducible refine w_isnt_bl ?_
    | with_reducible refine w_is_str ?_
    | with_reducible refine w_isnt_str ?_
    | with_reducible refine w_is_non ?_
    | with_reducible refine w_isnt_non ?_
    | with_reducible refine w_is_ref ?_
    | with_reducible refine w_isnt_ref ?_
    | ((with_reducible refine w_asT ?e ?_); (case e => walk_at "te"); intro _ _)
    | ((with_reducible refine w_onT ?e ?_); (case e => walk_at "te"); intro _ _)
    | ((with_reducible refine w_asF ?e ?_); (case e => walk_at "te"))
    | ((with_reducible refine w_onF ?e ?_); (case e => walk_at "te"))
    | ((with_reducible apply w_isE); (· walk_at "xc"); (· walk_at "kt"))
    | ((with_reducible apply w_lenL); (· walk_at "hk"))
    | ((with_reducible apply w_lenT); (· walk_at "hk"))
    | ((with_reducible apply w_bmL); (· walk_at "hk"))
    | ((with_reducible refine w_rng1v ?h1 ?h2 ?_); (case h1 => (first | omega | (simp only [List.length_map] at *; omega))); (case h2 => (first | omega | (simp only [List.length_map] at *; omega))))
    | ((with_reducible refine w_rng2v ?h1 ?_); (case h1 => (first | omega | (simp only [List.length_map] at *; omega))))
    | ((with_reducible apply w_ixI); (· walk_at "hk"); (· (first | omega | (simp only [List.length_map] at *; omega))))
    | ((with_reducible apply w_ixTI); (· walk_at "hk"); (· (first | omega | (simp only [List.length_map] at *; omega))))
    | ((with_reducible apply w_ixBl); (· walk_at "hk"); (· (first | omega | (simp only [List.length_map] at *; omega))))
    | ((with_reducible apply w_getI2); (· walk_at "hk"); (· (first | omega | (simp only [List.length_map] at *; omega))))
    | ((with_reducible apply w_ixTl); (· walk_at "hk"); (· rfl); (· decide))
    | ((with_reducible apply w_ixLl); (· walk_at "hk"); (· rfl); (· decide))
    | ((with_reducible apply w_appI); (· walk_at "hk"); (· (first | omega | (simp only [List.length_append, List.length_cons, List.length_nil]; omega))))
    | ((with_reducible apply w_iListv); (· walk_at "hk"))
    | ((with_reducible apply w_iTupv); (· walk_at "hk"))
    | ((with_reducible apply w_iRevv); (· walk_at "hk"))
    | ((with_reducible apply w_iEnumv); (· walk_at "hk"))
    | ((with_reducible apply w_iZipv); (· walk_at "hk"); (· walk_at "hk"))
    | ((with_reducible apply w_dget2v); (· walk_at "hk"))
    | ((with_reducible apply w_dget1v); (· walk_at "hk"))
    | ((with_reducible apply w_dpop1v); (· walk_at "hk"))
    | ((with_reducible apply w_getI); (· walk_at "hk"))
    | ((with_reducible apply w_inD); (· walk_at "hk"))
    | ((with_reducible apply w_ninD); (· walk_at "hk"))
    | ((with_reducible apply w_rep1); (· walk_at "hk"); (· (first | omega | (simp only [List.length_append, List.length_cons, List.length_nil, List.length_take, List.length_drop, List.length_replicate, List.length_map, List.length_range] at *; omega) | (simp only [List.length_append, List.length_cons, List.length_nil, List.length_take, List.length_drop, List.length_replicate, List.length_map, List.length_range]; omega) | decide)); (· (first | omega | (simp only [List.length_append, List.length_cons, List.length_nil, List.length_take, List.length_drop, List.length_replicate, List.length_map, List.length_range] at *; omega) | (simp only [List.length_append, List.length_cons, List.length_nil, List.length_take, List.length_drop, List.length_replicate, List.length_map, List.length_range]; omega) | decide)); intro _ _)
    | ((with_reducible apply w_gtup2); (· walk_at "hk"))
    | ((with_reducible apply w_gtup3); (· walk_at "hk"))
    | ((with_reducible apply w_gtup4); (· walk_at "hk"))
    | ((with_reducible refine w_newD ?_); intro _ _)
    | ((with_reducible apply w_augsub); (· walk_at "hk"); (· rfl); (· exact Nat.le_of_ble_eq_true rfl))
    | ((with_reducible apply w_augadd); (· walk_at "hk"); (· rfl); (· exact Nat.le_of_ble_eq_true rfl))
    | ((with_reducible apply w_fldv); (· walk_at "hk"); (· rfl))
    | ((with_reducible apply w_methv); (· walk_at "hk"); (· rfl))
    | ((with_reducible apply w_setfv); (· walk_at "hk"); (· exact Nat.le_of_ble_eq_true rfl); (· rfl))
    | walk_at "x"))
/-- the addresses that the readings speak of -/
structure Ex where
  (LaminaError NotValid PowerOff NoProcess BadHandle NoVolume ReadOnly BadName Missing WrongKind Exists LoopFound CrossVolume Busy NotEmpty TooMany TooLong OverQuota NoSpace BadImage : Addr := 0)
  (Disk Head Space Store OpenFiles Handles Processes Log Accounts Session System : Addr := 0)
  (POINTER_KINDS MODES LENGTHS : Addr := 0)
/-- what is known of the exceptions' classes -/
structure Fa (K : PySem.W.Frag) (C : Ex) : Prop where
  fa0 : True
  te_LaminaError_LaminaError : PySem.W.exmOne K (.ref C.LaminaError) (.ref C.LaminaError) = some true
  te_NotValid_LaminaError : PySem.W.exmOne K (.ref C.NotValid) (.ref C.LaminaError) = some true
  te_PowerOff_LaminaError : PySem.W.exmOne K (.ref C.PowerOff) (.ref C.LaminaError) = some true
  te_BadImage_LaminaError : PySem.W.exmOne K (.ref C.BadImage) (.ref C.LaminaError) = some true
  kt_LaminaError_NotValid : PySem.W.kitOne K (.ref C.LaminaError) (.ref C.NotValid) = some false
  kt_NotValid_NotValid : PySem.W.kitOne K (.ref C.NotValid) (.ref C.NotValid) = some true
  kt_PowerOff_NotValid : PySem.W.kitOne K (.ref C.PowerOff) (.ref C.NotValid) = some false
  kt_BadImage_NotValid : PySem.W.kitOne K (.ref C.BadImage) (.ref C.NotValid) = some false
  kt_LaminaError_BadImage : PySem.W.kitOne K (.ref C.LaminaError) (.ref C.BadImage) = some false
  kt_NotValid_BadImage : PySem.W.kitOne K (.ref C.NotValid) (.ref C.BadImage) = some false
  kt_PowerOff_BadImage : PySem.W.kitOne K (.ref C.PowerOff) (.ref C.BadImage) = some false
  kt_BadImage_BadImage : PySem.W.kitOne K (.ref C.BadImage) (.ref C.BadImage) = some true
  xc_LaminaError : ExcC K C.LaminaError
  xc_NotValid : ExcC K C.NotValid
  xc_PowerOff : ExcC K C.PowerOff
  xc_BadImage : ExcC K C.BadImage
local macro_rules | `(tactic| walk_at "te") => `(tactic| first | exact Fa.te_LaminaError_LaminaError (by assumption) | exact Fa.te_NotValid_LaminaError (by assumption) | exact Fa.te_PowerOff_LaminaError (by assumption) | exact Fa.te_BadImage_LaminaError (by assumption))
local macro_rules | `(tactic| walk_at "kt") => `(tactic| first | exact Fa.kt_LaminaError_NotValid (by assumption) | exact Fa.kt_NotValid_NotValid (by assumption) | exact Fa.kt_PowerOff_NotValid (by assumption) | exact Fa.kt_BadImage_NotValid (by assumption) | exact Fa.kt_LaminaError_BadImage (by assumption) | exact Fa.kt_NotValid_BadImage (by assumption) | exact Fa.kt_PowerOff_BadImage (by assumption) | exact Fa.kt_BadImage_BadImage (by assumption))
local macro_rules | `(tactic| walk_at "xc") => `(tactic| first | exact Fa.xc_LaminaError (by assumption) | exact Fa.xc_NotValid (by assumption) | exact Fa.xc_PowerOff (by assumption) | exact Fa.xc_BadImage (by assumption))
def S0 (f : Hp → VK → XK → Prop) : Sp := fun vs H Q E => vs = [] ∧ f H Q E
def S1 (f : V → Hp → VK → XK → Prop) : Sp := fun vs H Q E => ∃ a, vs = [a] ∧ f a H Q E
def S2 (f : V → V → Hp → VK → XK → Prop) : Sp := fun vs H Q E => ∃ a b, vs = [a, b] ∧ f a b H Q E
def S3 (f : V → V → V → Hp → VK → XK → Prop) : Sp := fun vs H Q E => ∃ a b c, vs = [a, b, c] ∧ f a b c H Q E
def S4 (f : V → V → V → V → Hp → VK → XK → Prop) : Sp := fun vs H Q E => ∃ a b c d, vs = [a, b, c, d] ∧ f a b c d H Q E
def S5 (f : V → V → V → V → V → Hp → VK → XK → Prop) : Sp := fun vs H Q E => ∃ a b c d e, vs = [a, b, c, d, e] ∧ f a b c d e H Q E
section
variable {vs : List V} {H : Hp} {Q : VK} {E : XK} {a b c d e : V}
theorem len0 {f} (h : S0 f vs H Q E) : vs.length = 0 := by obtain ⟨rfl, _⟩ := h; rfl
theorem len1 {f} (h : S1 f vs H Q E) : vs.length = 1 := by obtain ⟨_, rfl, _⟩ := h; rfl
theorem len2 {f} (h : S2 f vs H Q E) : vs.length = 2 := by obtain ⟨_, _, rfl, _⟩ := h; rfl
theorem len3 {f} (h : S3 f vs H Q E) : vs.length = 3 := by obtain ⟨_, _, _, rfl, _⟩ := h; rfl
theorem len4 {f} (h : S4 f vs H Q E) : vs.length = 4 := by obtain ⟨_, _, _, _, rfl, _⟩ := h; rfl
theorem len5 {f} (h : S5 f vs H Q E) : vs.length = 5 := by obtain ⟨_, _, _, _, _, rfl, _⟩ := h; rfl
theorem w_S0 {f} (h : f H Q E) : S0 f [] H Q E := ⟨rfl, h⟩
theorem w_S1 {f} (h : f a H Q E) : S1 f [a] H Q E := ⟨a, rfl, h⟩
theorem w_S2 {f} (h : f a b H Q E) : S2 f [a, b] H Q E := ⟨a, b, rfl, h⟩
theorem w_S3 {f} (h : f a b c H Q E) : S3 f [a, b, c] H Q E := ⟨a, b, c, rfl, h⟩
theorem w_S4 {f} (h : f a b c d H Q E) : S4 f [a, b, c, d] H Q E := ⟨a, b, c, d, rfl, h⟩
theorem w_S5 {f} (h : f a b c d e H Q E) : S5 f [a, b, c, d, e] H Q E := ⟨a, b, c, d, e, rfl, h⟩
end
theorem lt_line {n : Nat} (h : n < 10000000) : n < sizeLine := Nat.lt_of_lt_of_le h (by decide)
/-- what isinstance may ask: a scalar, or an object that is a list, a tuple, a dict -/
def Known (K : PySem.W.Frag) (H : Hp) : V → Prop
  | .ref a => ∃ o : Ob, TyX K H (.ref a) (.type o.nm)
  | .byt _ => False
  | .flt _ => False
  | .ty _ => False
  | _ => True
abbrev spLaw (K : PySem.W.Frag) : Sp := S1 fun a H Q _ => ∃ (p : Addr) (ns : List Int), a = .ref p ∧ SqL K H p (ns.map V.int) ∧ ns.length ≤ 63 ∧ ∀ H', Q (.bl true) H'
theorem int_at {ns : List Int} {i : Nat} (h : i < ns.length) : (ns.map V.int)[i]? = some (.int (ns.getD i 0)) := by
  rw [List.getElem?_map, List.getElem?_eq_getElem h, List.getD_eq_getElem?_getD, List.getElem?_eq_getElem h]
  rfl
theorem tyx_list {K : PySem.W.Frag} {H : Hp} {p : Addr} {xs : List V} (h : SqL K H p xs) : TyX K H (.ref p) (.type U.Ob.list.nm) := by
  rcases h with (h | ⟨o, h⟩) | ⟨o, its, n, e, c, _⟩
  · exact .base (.lst h)
  · exact .base (.frz h)
  · exact .kList e c
theorem tyx_tup {K : PySem.W.Frag} {H : Hp} {p : Addr} {xs : List V} (h : SqT K H p xs) : TyX K H (.ref p) (.type U.Ob.tuple.nm) := by
  rcases h with (h | ⟨o, h⟩) | ⟨o, its, n, e, c, _⟩
  · exact .base (.tup h)
  · exact .fTuple h
  · exact .kTuple e c
theorem w_isi_list_L {K : PySem.W.Frag} {H : Hp} {Q : VK} {p : Addr} {xs : List V} (e : SqL K H p xs) (h : Q (.bl true) H) : uIsi K .list [.ref p, .ty "list"] H Q := ⟨rfl, .list, tyx_list e, h⟩
theorem w_isi_tuple_T {K : PySem.W.Frag} {H : Hp} {Q : VK} {p : Addr} {xs : List V} (e : SqT K H p xs) (h : Q (.bl true) H) : uIsi K .tuple [.ref p, .ty "tuple"] H Q := ⟨rfl, .tuple, tyx_tup e, h⟩
/-- a value that is known not to be a list -/
def NoList (K : PySem.W.Frag) (H : Hp) : V → Prop
  | .ref a => ∃ o : U.Ob, o ≠ .list ∧ TyX K H (.ref a) (.type o.nm)
  | .byt _ => False
  | .flt _ => False
  | .ty _ => False
  | _ => True
theorem all_take {α : Type} {p : α → Bool} {xs : List α} {i : Nat} {x : α} (h : xs[i]? = some x) (ha : (xs.take i).all p = true) (hx : p x = true) : (xs.take (i + 1)).all p = true := by
  have hb := (List.getElem?_eq_some_iff.mp h)
  obtain ⟨hl, he⟩ := hb
  rw [List.take_succ_eq_append_getElem hl, List.all_append, ha, he]
  simp [hx]
theorem all_not {α : Type} {p : α → Bool} {xs : List α} {i : Nat} {x : α} (h : xs[i]? = some x) (hx : p x = false) : xs.all p = false := by
  rw [List.all_eq_false]
  exact ⟨x, List.mem_of_getElem? h, by simp [hx]⟩
theorem take_snoc {α : Type} {l : List α} {i : Nat} {c : α} (h : l[i]? = some c) : l.take (i + 1) = l.take i ++ [c] := by
  obtain ⟨hl, he⟩ := List.getElem?_eq_some_iff.mp h
  rw [List.take_succ_eq_append_getElem hl, he]
def isWord : V → Bool
  | .int i => decide (0 ≤ i)
  | _ => false
def sp_is_word (K : PySem.W.Frag) (_ : Ex) : Sp := S1 fun a H Q _ => Known K H a ∧ Q (.bl (isWord a)) H
def t_is_word (K : PySem.W.Frag) (C : Ex) (E : XK) : TS :=
  tSeq (tIfS (tOr (tNot (uTru K (tCB (uIsi K .int) (tCons (tVar 0) (tCons (tC (.ty "int")) (tNil)))))) (uTru K (tCB (uIsi K .bool) (tCons (tVar 0) (tCons (tC (.ty "bool")) (tNil)))))) (tRet (tC (.bl false))) (tNext))
  (tRet (tOp (uGe K) (tVar 0) (tC (.int 0))))
theorem pure_is_word {K : PySem.W.Frag} {C : Ex} {vs : List V} {H : Hp} {Q : VK} {E : XK} (F : Fa K C) (h : sp_is_word K C vs H Q E) : t_is_word K C E { nx := fun _ H' => Q .non H', rt := Q } (start ["value"] vs) H := by
  obtain ⟨a, rfl, hk, k⟩ := h
  unfold t_is_word
  cases a with
  | non => walk_at "run"; exact k
  | bl b => walk_at "run"; exact k
  | int i => walk_at "run"; exact k
  | str z => walk_at "run"; exact k
  | ref p =>
    obtain ⟨o, ho⟩ := hk
    walk_at "run1"
    refine ⟨rfl, o, ho, ?_⟩
    cases o <;> (walk_at "run"; exact k)
  | _ => exact hk.elim
def btw (lo hi : Int) : V → Bool
  | .int i => decide (lo ≤ i) && decide (i ≤ hi)
  | _ => false
theorem btw_i (lo hi i : Int) : btw lo hi (.int i) = (decide (lo ≤ i) && decide (i ≤ hi)) := rfl
def sp_is_between (K : PySem.W.Frag) (_ : Ex) : Sp := S3 fun a b c H Q _ => ∃ lo hi : Int, b = .int lo ∧ c = .int hi ∧ Known K H a ∧ Q (.bl (btw lo hi a)) H
def t_is_between (K : PySem.W.Frag) (C : Ex) (E : XK) : TS :=
  tSeq (tIfS (tOr (tNot (uTru K (tCB (uIsi K .int) (tCons (tVar 0) (tCons (tC (.ty "int")) (tNil)))))) (uTru K (tCB (uIsi K .bool) (tCons (tVar 0) (tCons (tC (.ty "bool")) (tNil)))))) (tRet (tC (.bl false))) (tNext))
  (tRet (tChain (uLe K) (uLe K) (tVar 1) (tVar 0) (tVar 2)))
theorem pure_is_between {K : PySem.W.Frag} {C : Ex} {vs : List V} {H : Hp} {Q : VK} {E : XK} (F : Fa K C) (h : sp_is_between K C vs H Q E) : t_is_between K C E { nx := fun _ H' => Q .non H', rt := Q } (start ["value", "low", "high"] vs) H := by
  obtain ⟨a, b, c, rfl, lo, hi, rfl, rfl, hk, k⟩ := h
  unfold t_is_between
  cases a with
  | non => walk_at "run"; exact k
  | bl b => walk_at "run"; exact k
  | int i =>
    walk_at "run1"
    · rename_i h
      rw [btw_i, decide_eq_true h, Bool.true_and] at k
      exact k
    · walk_at "run1"
      rename_i h
      rw [btw_i, decide_eq_false h, Bool.false_and] at k
      exact k
  | str z => walk_at "run"; exact k
  | ref p =>
    obtain ⟨o, ho⟩ := hk
    walk_at "run1"
    refine ⟨rfl, o, ho, ?_⟩
    cases o <;> (walk_at "run"; exact k)
  | _ => exact hk.elim
theorem btw_int {lo hi i : Int} (h1 : lo ≤ i) (h2 : i ≤ hi) : btw lo hi (.int i) = true := by rw [btw_i, decide_eq_true h1, decide_eq_true h2]; rfl
theorem btw_inv {lo hi : Int} {v : V} (h : btw lo hi v = true) : ∃ i, v = .int i ∧ lo ≤ i ∧ i ≤ hi := by
  cases v <;> first | (cases h; done) | skip
  rename_i i
  exact ⟨i, rfl, of_decide_eq_true (Bool.and_eq_true_iff.mp h).1, of_decide_eq_true (Bool.and_eq_true_iff.mp h).2⟩
def sp_are_words (K : PySem.W.Frag) (_ : Ex) : Sp := S2 fun a b H Q _ => ∃ m : Int, b = .int m ∧
  ((∃ p xs, a = .ref p ∧ SqL K H p xs ∧ (∀ x ∈ xs, Known K H x) ∧ Q (.bl (decide ((xs.length : Int) = m) && xs.all isWord)) H) ∨ (NoList K H a ∧ Q (.bl false) H))
def t_are_words (K : PySem.W.Frag) (C : Ex) (E : XK) : TS :=
  tSeq (tIfS (tOr (tNot (uTru K (tCB (uIsi K .list) (tCons (tVar 0) (tCons (tC (.ty "list")) (tNil)))))) (tTest (tOp (uNe K) (tCB (uLen K) (tCons (tVar 0) (tNil))) (tVar 1)))) (tRet (tC (.bl false))) (tNext))
  (tSeq (tFor (iList K (tVar 0)) (gName 2)
  (tIfS (tNot (uTru K (uCall (sp_is_word K C) (WB E) (tCons (tVar 2) (tNil))))) (tRet (tC (.bl false))) (tNext)))
  (tRet (tC (.bl true))))
theorem pure_are_words {K : PySem.W.Frag} {C : Ex} {vs : List V} {H : Hp} {Q : VK} {E : XK} (F : Fa K C) (h : sp_are_words K C vs H Q E) : t_are_words K C E { nx := fun _ H' => Q .non H', rt := Q } (start ["values", "many", "value"] vs) H := by
  obtain ⟨a, b, rfl, m, rfl, ⟨p, xs, rfl, hS, hk, k⟩ | ⟨hn, k⟩⟩ := h
  · unfold t_are_words
    walk_at "run1"
    refine w_isi_list_L hS ?_
    walk_at "run1"
    · walk_at "run1"
      rename_i hne
      rw [decide_eq_false hne] at k
      exact k
    · walk_at "run1"
      rename_i he
      refine f_list (xs := xs) (fun i σ H' => H' = H ∧ (∃ v, σ = [some (.ref p), some (.int m), v]) ∧ (xs.take i).all isWord = true) ⟨rfl, ⟨none, rfl⟩, rfl⟩ (by rintro i σ H' _ ⟨rfl, _⟩; exact hS) ?_ ?_
      · rintro i x σ H' hx ⟨rfl, ⟨v, rfl⟩, ha⟩
        walk_at "run1"
        refine w_S1 ⟨hk x (List.mem_of_getElem? hx), ?_⟩
        walk_at "run1"
        refine ifBN (fun hf => ?_) (fun ht => ?_)
        · walk_at "run1"
          rw [all_not hx hf, Bool.and_false] at k
          exact k
        · walk_at "run1"
          exact ⟨rfl, ⟨_, rfl⟩, all_take hx ha ht⟩
      · rintro σ H' ⟨rfl, ⟨v, rfl⟩, ha⟩
        walk_at "run1"
        rw [List.take_length] at ha
        rw [ha, decide_eq_true he] at k
        exact k
  · unfold t_are_words
    cases a with
    | ref p =>
      obtain ⟨o, ho, ht⟩ := hn
      walk_at "run1"
      refine ⟨rfl, o, ht, ?_⟩
      cases o with
      | list => exact absurd rfl ho
      | _ => walk_at "run"; exact k
    | byt _ => exact hn.elim
    | flt _ => exact hn.elim
    | ty _ => exact hn.elim
    | _ => walk_at "run"; exact k
def TapeOk (ts : List Int) : Prop := (∀ t ∈ ts, 0 ≤ t ∧ t < 1000) ∧ ts.length ≤ 3780
theorem TapeOk.app {ts : List Int} {z : Int} (h : ∀ t ∈ ts, 0 ≤ t ∧ t < 1000) (h0 : 0 ≤ z) (h1 : z < 1000) : ∀ t ∈ ts ++ [z], 0 ≤ t ∧ t < 1000 := by
  intro t ht
  rcases List.mem_append.mp ht with ht | ht
  · exact h t ht
  · rw [List.mem_singleton.mp ht]; exact ⟨h0, h1⟩
def sp__law_tape (K : PySem.W.Frag) (_ : Ex) : Sp := S1 fun a H Q _ => ∃ (p : Addr) (ns : List Int), a = .ref p ∧ SqL K H p (ns.map V.int) ∧ ns.length ≤ 63 ∧
  ∀ H' l ts, Same H H' → H l = none → H' l = some (.lst (ts.map V.int)) → TapeOk ts → Q (.ref l) H'
def t__law_tape (K : PySem.W.Frag) (C : Ex) (E : XK) : TS :=
  tSeq (tAsg (tLst (tNil)) (gName 1))
  (tSeq (tFor (iRng1 (tCons (tCB (uLen K) (tCons (tVar 0) (tNil))) (tNil))) (gName 2)
  (tSeq (tAsg (tCB (uAbs) (tCons (tCB (uInt) (tCons (tOp (uIx K) (tVar 0) (tVar 2)) (tNil))) (tNil))) (gName 3))
  (tIfS (tTest (tOp (uGe K) (tVar 3) (tOp (uPow) (tC (.int 10)) (tC (.int 18))))) (tFor (iRng1 (tCons (tC (.int 60)) (tNil))) (gName 4)
  (tIfS (tTest (tOp (uGt) (tVar 3) (tC (.int 0)))) (tSeq (tDrop (tBM K "list" (rAppend) (tVar 1) (tCons (tOp (uMod) (tVar 3) (tC (.int 1000))) (tNil))))
  (tAsg (tOp (uDiv) (tVar 3) (tC (.int 1000))) (gName 3))) (tNext))) (tFor (iRng1 (tCons (tC (.int 4)) (tNil))) (gName 4)
  (tSeq (tAsg (tOp (uMod) (tOp (uAdd K) (tOp (uAdd K) (tOp (uMul) (tVar 3) (tC (.int 48271))) (tOp (uMul) (tC (.int 69621)) (tOp (uAdd K) (tVar 2) (tC (.int 1))))) (tOp (uMul) (tC (.int 7)) (tVar 4))) (tC (.int 2147483647))) (gName 3))
  (tSeq (tAsg (tOp (uMod) (tOp (uMul) (tVar 3) (tC (.int 16807))) (tC (.int 2147483647))) (gName 3))
  (tDrop (tBM K "list" (rAppend) (tVar 1) (tCons (tOp (uMod) (tOp (uDiv) (tVar 3) (tC (.int 1000))) (tC (.int 1000))) (tNil))))))))))
  (tRet (tVar 1)))
theorem pure__law_tape {K : PySem.W.Frag} {C : Ex} {vs : List V} {H : Hp} {Q : VK} {E : XK} (F : Fa K C) (h : sp__law_tape K C vs H Q E) : t__law_tape K C E { nx := fun _ H' => Q .non H', rt := Q } (start ["_law_script", "_law_tape_here", "_law_k", "_law_value", "_law_step"] vs) H := by
  obtain ⟨a, rfl, p, ns, rfl, hS, hn, k⟩ := h
  unfold t__law_tape
  walk_at "run1"
  rename_i l hl
  refine f_range (fun i σ H' => ∃ v2 v3 v4 ts, σ = [some (.ref p), some (.ref l), v2, v3, v4] ∧ Same H H' ∧ H' l = some (.lst (ts.map V.int)) ∧ (∀ t ∈ ts, 0 ≤ t ∧ t < 1000) ∧ ts.length ≤ 60 * i)
    ⟨none, none, none, [], rfl, same_new hl, upd_same, by simp, Nat.zero_le _⟩ ?_ ?_
  · rintro i σ H1 hi ⟨v2, v3, v4, ts, rfl, hs, hl1, ht, hz⟩
    have hi' : i < ns.length := by simp only [List.length_map] at hi; omega
    have hS1 := hs.seq hS
    walk_at "run1"
    · have h0 : 0 ≤ (if ns.getD (0 + (i : Int)).toNat 0 < 0 then -ns.getD (0 + (i : Int)).toNat 0 else ns.getD (0 + (i : Int)).toNat 0) := by split <;> omega
      generalize (if ns.getD (0 + (i : Int)).toNat 0 < 0 then -ns.getD (0 + (i : Int)).toNat 0 else ns.getD (0 + (i : Int)).toNat 0) = z at *
      refine f_range (fun j σ H' => ∃ (z : Int) (v4 : Option V) (ts : List Int), σ = [some (.ref p), some (.ref l), some (.int (0 + (i : Int))), some (.int z), v4] ∧ 0 ≤ z ∧ Same H H' ∧ H' l = some (.lst (ts.map V.int)) ∧ (∀ t ∈ ts, 0 ≤ t ∧ t < 1000) ∧ ts.length ≤ 60 * i + j)
        ⟨z, v4, ts, rfl, h0, hs, hl1, ht, hz⟩ ?_ ?_
      · rintro j σ H2 hj ⟨z, v4, ts, rfl, hz0, hs, hl1, ht, hz⟩
        have hj' : j < 60 := hj
        walk_at "run1"
        · exact ⟨_, _, _, rfl, by omega, same_upd hs hl, upd_same, TapeOk.app ht (by omega) (by omega), by simp only [List.length_append, List.length_cons, List.length_nil]; omega⟩
        · walk_at "run1"
          exact ⟨_, _, _, rfl, by omega, hs, hl1, ht, by omega⟩
      · rintro σ H2 ⟨z, v4, ts, rfl, hz0, hs, hl1, ht, hz⟩
        exact ⟨_, _, _, _, rfl, hs, hl1, ht, by have : (60 : Int).toNat = 60 := rfl; omega⟩
    · have h0 : 0 ≤ (if ns.getD (0 + (i : Int)).toNat 0 < 0 then -ns.getD (0 + (i : Int)).toNat 0 else ns.getD (0 + (i : Int)).toNat 0) := by split <;> omega
      generalize (if ns.getD (0 + (i : Int)).toNat 0 < 0 then -ns.getD (0 + (i : Int)).toNat 0 else ns.getD (0 + (i : Int)).toNat 0) = z at *
      have h18 : z < 10 ^ 18 := by
        have e : (18 : Int).toNat = 18 := rfl
        rename_i hne
        rw [e] at hne
        omega
      walk_at "run1"
      refine f_range (fun j σ H' => ∃ (z : Int) (v4 : Option V) (ts : List Int), σ = [some (.ref p), some (.ref l), some (.int (0 + (i : Int))), some (.int z), v4] ∧ (0 ≤ z ∧ z < 10 ^ 18) ∧ Same H H' ∧ H' l = some (.lst (ts.map V.int)) ∧ (∀ t ∈ ts, 0 ≤ t ∧ t < 1000) ∧ ts.length ≤ 60 * i + j)
        ⟨z, v4, ts, rfl, ⟨h0, h18⟩, hs, hl1, ht, hz⟩ ?_ ?_
      · rintro j σ H2 hj ⟨z, v4, ts, rfl, hz0, hs, hl1, ht, hz⟩
        have hj' : j < 4 := hj
        walk_at "run1"
        exact ⟨_, _, _, rfl, by omega, same_upd hs hl, upd_same, TapeOk.app ht (by omega) (by omega), by simp only [List.length_append, List.length_cons, List.length_nil]; omega⟩
      · rintro σ H2 ⟨z, v4, ts, rfl, hz0, hs, hl1, ht, hz⟩
        exact ⟨_, _, _, _, rfl, hs, hl1, ht, by have : (4 : Int).toNat = 4 := rfl; omega⟩
  · rintro σ H1 ⟨v2, v3, v4, ts, rfl, hs, hl1, ht, hz⟩
    walk_at "run1"
    exact k _ _ ts hs hl hl1 ⟨ht, by simp only [List.length_map] at hz; omega⟩
def sp__law_at (K : PySem.W.Frag) (_ : Ex) : Sp := S2 fun a b H Q _ => ∃ (p : Addr) (ts : List Int) (k : Int), a = .ref p ∧ b = .int k ∧ SqL K H p (ts.map V.int) ∧ 0 ≤ k ∧ Q (.int (ts.getD k.toNat 0)) H
def t__law_at (K : PySem.W.Frag) (C : Ex) (E : XK) : TS :=
  tSeq (tIfS (tTest (tOp (uLt K) (tVar 1) (tCB (uLen K) (tCons (tVar 0) (tNil))))) (tRet (tOp (uIx K) (tVar 0) (tVar 1))) (tNext))
  (tRet (tC (.int 0)))
theorem pure__law_at {K : PySem.W.Frag} {C : Ex} {vs : List V} {H : Hp} {Q : VK} {E : XK} (F : Fa K C) (h : sp__law_at K C vs H Q E) : t__law_at K C E { nx := fun _ H' => Q .non H', rt := Q } (start ["_law_tape_here", "_law_k"] vs) H := by
  obtain ⟨a, b, rfl, p, ts, k, rfl, rfl, hS, hk, q⟩ := h
  unfold t__law_at
  walk_at "run1"
  · walk_at "run1"
    exact q
  · walk_at "run1"
    rename_i hlt
    rw [List.getD_eq_getElem?_getD, List.getElem?_eq_none (by simp only [List.length_map] at hlt; omega)] at q
    exact q
theorem TapeOk.at {ts : List Int} (h : TapeOk ts) (k : Nat) : 0 ≤ ts.getD k 0 ∧ ts.getD k 0 < 1000 := by
  rw [List.getD_eq_getElem?_getD]
  cases e : ts[k]? with
  | none => exact ⟨Int.le_refl 0, by decide⟩
  | some z => exact h.1 z (List.mem_of_getElem? e)
theorem u__law_at {K : PySem.W.Frag} {C : Ex} {H : Hp} {Q : VK} {E : XK} {p : Addr} {ts : List Int} {k : Int} (e : SqL K H p (ts.map V.int)) (h0 : 0 ≤ k) (h : Q (.int (ts.getD k.toNat 0)) H) : sp__law_at K C [.ref p, .int k] H Q E := w_S2 ⟨p, ts, k, rfl, rfl, e, h0, h⟩
local macro_rules | `(tactic| walk_at "x") => `(tactic| ((with_reducible apply u__law_at); (· walk_at "hk"); (· omega)))
/-- of the objects of H all but those of S stand in H'; S' is of S or new -/
def Stp (S : List Addr) (H : Hp) (S' : List Addr) (H' : Hp) : Prop := (∀ b o, H b = some o → b ∉ S → H' b = some o) ∧ ∀ b ∈ S', b ∈ S ∨ H b = none
theorem Stp.refl {S : List Addr} {H : Hp} : Stp S H S H := ⟨fun _ _ h _ => h, fun _ h => .inl h⟩
theorem Stp.trans {S S1 S2 : List Addr} {H H1 H2 : Hp} (x : Stp S H S1 H1) (y : Stp S1 H1 S2 H2) : Stp S H S2 H2 := by
  refine ⟨fun b o h n => y.1 b o (x.1 b o h n) fun q => ?_, fun b hb => ?_⟩
  · rcases x.2 b q with z | z
    · exact n z
    · rw [h] at z; cases z
  · rcases y.2 b hb with q | q
    · exact x.2 b q
    · by_cases n : b ∈ S
      · exact .inl n
      · cases e : H b with
        | none => exact .inr rfl
        | some o => rw [x.1 b o e n] at q; cases q
theorem Stp.same {S : List Addr} {H H' : Hp} (s : Same H H') : Stp S H S H' := ⟨fun b o h _ => s b o h, fun _ h => .inl h⟩
theorem Stp.upd {S : List Addr} {H H' : Hp} {p : Addr} {o : HO} (x : Stp S H S H') (h : p ∈ S) : Stp S H S (upd H' p o) :=
  ⟨fun b w e n => by rw [upd_ne (fun q => n (by rw [q]; exact h))]; exact x.1 b w e n, x.2⟩
theorem Stp.new {S : List Addr} {H H' : Hp} {p : Addr} {o : HO} (x : Stp S H S H') (h : H' p = none) : Stp S H S (L2.upd H' p o) := x.trans (.same (same_new h))
theorem Stp.fresh {S S' : List Addr} {H H' : Hp} {p : Addr} (x : Stp S H S' H') (n : H' p = none) : p ∈ S ∨ H p = none := by
  by_cases q : p ∈ S
  · exact .inl q
  · cases e : H p with
    | none => exact .inr rfl
    | some o => rw [x.1 p o e q] at n; cases n
theorem Stp.keep {S S' : List Addr} {H H' : Hp} {b : Addr} {o : HO} (x : Stp S H S' H') (h : H b = some o) (n : b ∉ S) : H' b = some o ∧ b ∉ S' :=
  ⟨x.1 b o h n, fun q => (x.2 b q).elim n fun z => by rw [h] at z; cases z⟩
theorem Stp.toSame {S S' : List Addr} {H0 H H' : Hp} (x : Stp S H S' H') (hn : ∀ b ∈ S, H0 b = none) (s : Same H0 H) : Same H0 H' ∧ ∀ b ∈ S', H0 b = none :=
  ⟨fun b o h => x.1 b o (s b o h) fun q => (by rw [hn b q] at h; cases h), fun b q => (x.2 b q).elim (hn b) fun z => s.free z⟩
/-- a list of eight words -/
def RowAt (H : Hp) (v : V) (r : List Int) : Prop := r.length = 8 ∧ ∃ p, v = .ref p ∧ H p = some (.lst (r.map V.int))
def AllRef (vs : List V) : Prop := ∀ x ∈ vs, ∃ p, x = V.ref p
theorem row_ne {r : List Int} {vs : List V} (h : r.length = 8) (hv : AllRef vs) : HO.lst (r.map V.int) ≠ HO.lst vs := by
  intro e
  have e := HO.lst.inj e
  cases r with
  | nil => cases h
  | cons z r =>
    obtain ⟨p, q⟩ := hv (.int z) (by rw [← e]; exact List.mem_cons_self ..)
    cases q
theorem RowAt.same {H H' : Hp} {v : V} {r : List Int} (x : RowAt H v r) (s : Same H H') : RowAt H' v r := by
  obtain ⟨l, p, rfl, h⟩ := x
  exact ⟨l, p, rfl, s _ _ h⟩
theorem RowAt.upd {H : Hp} {v : V} {r : List Int} {q : Addr} {o u : HO} (x : RowAt H v r) (h : H q = some u) (n : r.length = 8 → HO.lst (r.map V.int) ≠ u) : RowAt (upd H q o) v r := by
  obtain ⟨l, p, rfl, e⟩ := x
  exact ⟨l, p, rfl, by rw [upd_ne (ne_of e h (n l))]; exact e⟩
/-- what may be written without a row's loss -/
def NoRow (u : HO) : Prop := ∀ r : List Int, r.length = 8 → HO.lst (r.map V.int) ≠ u
theorem noRow_ins {C dx : Addr} {fs : List (Str × V)} : NoRow (.ins C dx fs) := fun _ _ e => nomatch e
theorem noRow_dK {kvs : List (Key × V)} : NoRow (.dK kvs) := fun _ _ e => nomatch e
theorem noRow_refs {vs : List V} (h : AllRef vs) : NoRow (.lst vs) := fun _ l => row_ne l h
def RowsAt (H : Hp) (vs : List V) (rs : List (List Int)) : Prop := vs.length = rs.length ∧ ∀ (i : Nat) v, vs[i]? = some v → ∃ r, rs[i]? = some r ∧ RowAt H v r
theorem RowsAt.ref {H : Hp} {vs : List V} {rs : List (List Int)} (x : RowsAt H vs rs) : AllRef vs := fun v hv => by
  obtain ⟨i, hi⟩ := List.getElem?_of_mem hv
  obtain ⟨r, _, _, p, e, _⟩ := x.2 i v hi
  exact ⟨p, e⟩
theorem RowsAt.map {H H' : Hp} {vs : List V} {rs : List (List Int)} (x : RowsAt H vs rs) (f : ∀ v r, RowAt H v r → RowAt H' v r) : RowsAt H' vs rs := ⟨x.1, fun i v h => by
  obtain ⟨r, e, y⟩ := x.2 i v h
  exact ⟨r, e, f v r y⟩⟩
theorem RowsAt.same {H H' : Hp} {vs : List V} {rs : List (List Int)} (x : RowsAt H vs rs) (s : Same H H') : RowsAt H' vs rs := x.map fun _ _ y => y.same s
theorem RowsAt.upd {H : Hp} {vs : List V} {rs : List (List Int)} {q : Addr} {o u : HO} (x : RowsAt H vs rs) (h : H q = some u) (n : NoRow u) : RowsAt (upd H q o) vs rs := x.map fun _ r y => y.upd h (n r)
theorem RowsAt.nil {H : Hp} : RowsAt H [] [] := ⟨rfl, fun i v h => by simp at h⟩
theorem RowsAt.snoc {H : Hp} {vs : List V} {rs : List (List Int)} {v : V} {r : List Int} (x : RowsAt H vs rs) (y : RowAt H v r) : RowsAt H (vs ++ [v]) (rs ++ [r]) := by
  refine ⟨by rw [List.length_append, List.length_append, x.1]; rfl, fun i w h => ?_⟩
  rcases Nat.lt_or_ge i vs.length with q | q
  · rw [List.getElem?_append_left q] at h
    obtain ⟨r', e, z⟩ := x.2 i w h
    exact ⟨r', by rw [List.getElem?_append_left (by rw [← x.1]; exact q)]; exact e, z⟩
  · rw [List.getElem?_append_right q] at h
    have hi : i - vs.length = 0 := by
      have := (List.getElem?_eq_some_iff.mp h).1
      simp at this
      omega
    rw [hi] at h
    cases h
    exact ⟨r, by rw [List.getElem?_append_right (by rw [← x.1]; exact q), ← x.1, hi]; rfl, y⟩
theorem RowsAt.set {H : Hp} {vs : List V} {rs : List (List Int)} {v : V} {r : List Int} {j : Nat} (x : RowsAt H vs rs) (y : RowAt H v r) : RowsAt H (vs.set j v) (rs.set j r) := by
  refine ⟨by rw [List.length_set, List.length_set, x.1], fun i w h => ?_⟩
  by_cases q : j = i
  · subst q
    have hl : j < vs.length := by
      have := (List.getElem?_eq_some_iff.mp h).1
      rw [List.length_set] at this
      exact this
    rw [List.getElem?_set_self hl] at h
    cases h
    exact ⟨r, List.getElem?_set_self (by rw [← x.1]; exact hl), y⟩
  · rw [List.getElem?_set_ne q] at h
    obtain ⟨r', e, z⟩ := x.2 i w h
    exact ⟨r', by rw [List.getElem?_set_ne q]; exact e, z⟩
theorem AllRef.snoc {vs : List V} {p : Addr} (h : AllRef vs) : AllRef (vs ++ [.ref p]) := fun x hx => by
  rcases List.mem_append.mp hx with q | q
  · exact h x q
  · exact ⟨p, List.mem_singleton.mp q⟩
/-- eight words -/
def Row8 (r : List Int) : Prop := r.length = 8 ∧ ∀ z ∈ r, 0 ≤ z
theorem Row8.set {r : List Int} {i : Nat} {z : Int} (h : Row8 r) (hz : 0 ≤ z) : Row8 (r.set i z) := ⟨by rw [List.length_set]; exact h.1, fun y hy => by
  rcases List.mem_or_eq_of_mem_set hy with q | q
  · exact h.2 y q
  · rw [q]; exact hz⟩
/-- a heap without some addresses -/
def msk (S : List Addr) (H : Hp) : Hp := fun b => if b ∈ S then none else H b
theorem msk_at {S : List Addr} {H : Hp} {b : Addr} {o : HO} (h : H b = some o) (n : b ∉ S) : msk S H b = some o := by unfold msk; rw [if_neg n]; exact h
theorem msk_same {S : List Addr} {H : Hp} : Same (msk S H) H := fun b o h => by
  unfold msk at h
  split at h
  · cases h
  · exact h
structure DiskS where
  blocks : Int
  secs : List (List Int)
  wr : List (Int × List Int)
  left : Option Int
  pw : Bool
def optI : Option Int → V
  | none => .non
  | some i => .int i
theorem optI_n : optI none = .non := rfl
theorem optI_s (z : Int) : optI (some z) = .int z := rfl
/-- what was written to a sector last -/
def lastW : List (Int × List Int) → Int → Option (List Int)
  | [], _ => none
  | (t, r) :: w, s => match lastW w s with
    | some q => some q
    | none => if s = t then some r else none
theorem lastW_snoc (w : List (Int × List Int)) (t : Int) (r : List Int) (s : Int) : lastW (w ++ [(t, r)]) s = if s = t then some r else lastW w s := by
  induction w with
  | nil => rfl
  | cons p w ih =>
    obtain ⟨u, q⟩ := p
    show (match lastW (w ++ [(t, r)]) s with | some q => some q | none => if s = u then some q else none) = if s = t then some r else (match lastW w s with | some q => some q | none => if s = u then some q else none)
    rw [ih]
    by_cases h : s = t
    · rw [if_pos h, if_pos h]
    · rw [if_neg h, if_neg h]
def rdS (D : DiskS) (s : Int) : List Int := (lastW D.wr s).getD (D.secs.getD s.toNat [])
def WrAt (H : Hp) (v : V) (s : Int) (r : List Int) : Prop := ∃ t x, v = .ref t ∧ H t = some (.tup [.int s, x]) ∧ RowAt H x r
def WrsAt (H : Hp) (vs : List V) (ws : List (Int × List Int)) : Prop := vs.length = ws.length ∧ ∀ (i : Nat) v, vs[i]? = some v → ∃ s r, ws[i]? = some (s, r) ∧ WrAt H v s r
def NwAt (H : Hp) (kvs : List (Key × V)) (ws : List (Int × List Int)) : Prop := kvs.length ≤ ws.length ∧ (∀ kv ∈ kvs, ∃ s : Int, kv.1 = .inl s) ∧
  ∀ s : Int, (valV kvs (.inl s) = none ∧ lastW ws s = none) ∨ ∃ v r, valV kvs (.inl s) = some v ∧ lastW ws s = some r ∧ RowAt H v r
/-- the disk's own object -/
def dkO (C : Ex) (dx a w n : Addr) (D : DiskS) : HO := .ins C.Disk dx [("blocks", .int D.blocks), ("sectors", .ref a), ("writes", .ref w), ("newest", .ref n), ("left", optI D.left), ("power", .bl D.pw)]
structure DiskAt (C : Ex) (H : Hp) (d a w n : Addr) (D : DiskS) : Prop where
  ins : ∃ dx, H d = some (dkO C dx a w n D)
  sec : ∃ vs, H a = some (.lst vs) ∧ RowsAt H vs D.secs
  wrt : ∃ vs, H w = some (.lst vs) ∧ WrsAt H vs D.wr
  new : ∃ kvs, H n = some (.dK kvs) ∧ NwAt H kvs D.wr
  ne : a ≠ w
/-- sizes and words -/
structure DiskOk (D : DiskS) : Prop where
  bl : 96 ≤ D.blocks ∧ D.blocks ≤ 256
  sz : (D.secs.length : Int) = 4 * D.blocks
  wk : ∀ p ∈ D.wr, 0 ≤ p.1 ∧ p.1 < 4 * D.blocks
  wn : D.wr.length ≤ 100000
theorem WrAt.map {H H' : Hp} {v : V} {s : Int} {r : List Int} (x : WrAt H v s r) (f : ∀ v r, RowAt H v r → RowAt H' v r) (g : ∀ t xs, H t = some (.tup xs) → H' t = some (.tup xs)) : WrAt H' v s r := by
  obtain ⟨t, y, rfl, e, z⟩ := x
  exact ⟨t, y, rfl, g _ _ e, f _ _ z⟩
theorem WrsAt.ref {H : Hp} {vs : List V} {ws : List (Int × List Int)} (x : WrsAt H vs ws) : AllRef vs := fun v hv => by
  obtain ⟨i, hi⟩ := List.getElem?_of_mem hv
  obtain ⟨s, r, _, t, _, e, _⟩ := x.2 i v hi
  exact ⟨t, e⟩
theorem WrsAt.map {H H' : Hp} {vs : List V} {ws : List (Int × List Int)} (x : WrsAt H vs ws) (f : ∀ v r, RowAt H v r → RowAt H' v r) (g : ∀ t xs, H t = some (.tup xs) → H' t = some (.tup xs)) : WrsAt H' vs ws := ⟨x.1, fun i v h => by
  obtain ⟨s, r, e, y⟩ := x.2 i v h
  exact ⟨s, r, e, y.map f g⟩⟩
theorem NwAt.map {H H' : Hp} {kvs : List (Key × V)} {ws : List (Int × List Int)} (x : NwAt H kvs ws) (f : ∀ v r, RowAt H v r → RowAt H' v r) : NwAt H' kvs ws := ⟨x.1, x.2.1, fun s => by
  rcases x.2.2 s with y | ⟨v, r, a, b, c⟩
  · exact .inl y
  · exact .inr ⟨v, r, a, b, f v r c⟩⟩
/-- neither a row nor a tuple -/
def Plain (u : HO) : Prop := NoRow u ∧ ∀ xs, u ≠ .tup xs
theorem plain_ins {C dx : Addr} {fs : List (Str × V)} : Plain (.ins C dx fs) := ⟨noRow_ins, fun _ e => nomatch e⟩
theorem plain_dK {kvs : List (Key × V)} : Plain (.dK kvs) := ⟨noRow_dK, fun _ e => nomatch e⟩
theorem plain_refs {vs : List V} (h : AllRef vs) : Plain (.lst vs) := ⟨noRow_refs h, fun _ e => nomatch e⟩
theorem row_upd {H : Hp} {q : Addr} {o u : HO} (h : H q = some u) (p : Plain u) : ∀ v r, RowAt H v r → RowAt (upd H q o) v r := fun _ r x => x.upd h (p.1 r)
theorem tup_upd {H : Hp} {q : Addr} {o u : HO} (h : H q = some u) (p : Plain u) : ∀ t xs, H t = some (.tup xs) → upd H q o t = some (.tup xs) := fun t xs e => by rw [upd_ne (ne_of e h fun z => p.2 xs z.symm)]; exact e
theorem DiskAt.same {C : Ex} {H H' : Hp} {d a w n : Addr} {D : DiskS} (x : DiskAt C H d a w n D) (s : Same H H') : DiskAt C H' d a w n D := by
  obtain ⟨⟨dx, i⟩, ⟨vs, e1, r1⟩, ⟨ws, e2, r2⟩, ⟨kvs, e3, r3⟩, ne⟩ := x
  exact ⟨⟨dx, s _ _ i⟩, ⟨vs, s _ _ e1, r1.same s⟩, ⟨ws, s _ _ e2, r2.map (fun _ _ y => y.same s) fun _ _ e => s _ _ e⟩, ⟨kvs, s _ _ e3, r3.map fun _ _ y => y.same s⟩, ne⟩
/-- the disk's own object changes -/
theorem DiskAt.fields {C : Ex} {H : Hp} {d a w n dx : Addr} {D D' : DiskS} (x : DiskAt C H d a w n D) (h1 : D'.secs = D.secs) (h2 : D'.wr = D.wr) : DiskAt C (upd H d (dkO C dx a w n D')) d a w n D' := by
  obtain ⟨⟨_, i⟩, ⟨vs, e1, r1⟩, ⟨ws, e2, r2⟩, ⟨kvs, e3, r3⟩, ne⟩ := x
  refine ⟨⟨dx, upd_same⟩, ⟨vs, upd_oth e1 (ne_of e1 i fun z => nomatch z), by rw [h1]; exact r1.map (row_upd i plain_ins)⟩, ⟨ws, upd_oth e2 (ne_of e2 i fun z => nomatch z), by rw [h2]; exact r2.map (row_upd i plain_ins) (tup_upd i plain_ins)⟩, ⟨kvs, upd_oth e3 (ne_of e3 i fun z => nomatch z), by rw [h2]; exact r3.map (row_upd i plain_ins)⟩, ne⟩
/-- the addresses that a disk writes -/
abbrev dkF (d a w n : Addr) : List Addr := [d, a, w, n]
def opA (D : DiskS) : DiskS := if D.left = some 0 then { D with pw := false } else D
def opB (D : DiskS) : DiskS := if D.pw = true then { D with left := D.left.map (· - 1) } else D
def opS (D : DiskS) : DiskS := opB (opA D)
theorem opS_secs (D : DiskS) : (opS D).secs = D.secs ∧ (opS D).wr = D.wr ∧ (opS D).blocks = D.blocks := by
  have a : (opA D).secs = D.secs ∧ (opA D).wr = D.wr ∧ (opA D).blocks = D.blocks := by unfold opA; split <;> exact ⟨rfl, rfl, rfl⟩
  have b : ∀ D : DiskS, (opB D).secs = D.secs ∧ (opB D).wr = D.wr ∧ (opB D).blocks = D.blocks := fun D => by unfold opB; split <;> exact ⟨rfl, rfl, rfl⟩
  exact ⟨(b _).1.trans a.1, (b _).2.1.trans a.2.1, (b _).2.2.trans a.2.2⟩
def sp_Disk_operate (K : PySem.W.Frag) (C : Ex) : Sp := S1 fun x H Q E => ∃ d a w n D, x = .ref d ∧ DiskAt C H d a w n D ∧ ∀ H', DiskAt C H' d a w n (opS D) → (∀ b o, H b = some o → b ≠ d → H' b = some o) →
  ((opS D).pw = true → Q .non H') ∧ ((opS D).pw = false → E (.ref C.PowerOff) none H')
def t_Disk_operate (K : PySem.W.Frag) (C : Ex) (E : XK) : TS :=
  tCut (tIfS (tTest (tOp (uEq K) (uFld C.Disk "left" (tVar 0)) (tC (.int 0)))) (uSetF C.Disk "power" (tVar 0) (tC (.bl false))) (tNext))
  (tSeq (tIfS (tNot (uTru K (uFld C.Disk "power" (tVar 0)))) (uRaise C.PowerOff (WB E)) (tNext))
  (tIfS (tTest (tOp (uIsnt) (uFld C.Disk "left" (tVar 0)) (tC .non))) (uAugF C.Disk "left" rSub (tVar 0) (tC (.int 1))) (tNext)))
theorem pure_Disk_operate {K : PySem.W.Frag} {C : Ex} {vs : List V} {H : Hp} {Q : VK} {E : XK} (F : Fa K C) (h : sp_Disk_operate K C vs H Q E) : t_Disk_operate K C E { nx := fun _ H' => Q .non H', rt := Q } (start ["self"] vs) H := by
  obtain ⟨x, rfl, d, a, w, n, D, rfl, hD, k⟩ := h
  obtain ⟨dx, i⟩ := hD.ins
  unfold t_Disk_operate
  unfold dkO at i
  refine w_cut (fun σ H1 => σ = [some (.ref d)] ∧ DiskAt C H1 d a w n (opA D) ∧ ∀ b o, H b = some o → b ≠ d → H1 b = some o) ?_ ?_
  · cases hl : D.left with
    | none =>
      rw [hl, optI_n] at i
      walk_at "run1"
      rw [show opA D = D by unfold opA; rw [hl, if_neg (by simp)]]
      exact ⟨rfl, hD, fun _ _ h _ => h⟩
    | some z =>
      rw [hl, optI_s] at i
      walk_at "run1"
      · rename_i e
        subst e
        rw [show opA D = { D with pw := false } by unfold opA; rw [if_pos hl]]
        refine ⟨rfl, ?_, fun b o h n => upd_oth h n⟩
        have z := hD.fields (dx := dx) (D' := { D with pw := false }) rfl rfl
        have e : dkO C dx a w n { D with pw := false } = .ins C.Disk dx [("blocks", .int D.blocks), ("sectors", .ref a), ("writes", .ref w), ("newest", .ref n), ("left", .int 0), ("power", .bl false)] := by
          show HO.ins C.Disk dx [("blocks", .int D.blocks), ("sectors", .ref a), ("writes", .ref w), ("newest", .ref n), ("left", optI D.left), ("power", .bl false)] = _
          rw [hl]
          rfl
        rw [e] at z
        exact z
      · walk_at "run1"
        rename_i e
        rw [show opA D = D by unfold opA; rw [hl, if_neg (fun q => e (Option.some.inj q))]]
        exact ⟨rfl, hD, fun _ _ h _ => h⟩
  · rintro σ H1 ⟨rfl, hD1, fr⟩
    unfold opS at k
    generalize opA D = D1 at *
    obtain ⟨dx1, i1⟩ := hD1.ins
    unfold dkO at i1
    cases hp : D1.pw with
    | false =>
      rw [hp] at i1
      rw [show opB D1 = D1 by unfold opB; rw [if_neg (by rw [hp]; decide)]] at k
      walk_at "run1"
      exact (k H1 hD1 fr).2 hp
    | true =>
      rw [hp] at i1
      rw [show opB D1 = { D1 with left := D1.left.map (· - 1) } by unfold opB; rw [if_pos hp]] at k
      walk_at "run1"
      cases hl : D1.left with
      | none =>
        rw [hl, optI_n] at i1
        rw [optI_n]
        walk_at "run1"
        refine (k H1 ?_ fr).1 hp
        have : ({ D1 with left := Option.map (fun x => x - 1) D1.left } : DiskS) = D1 := by rw [hl, Option.map_none, ← hl]
        rw [this]
        exact hD1
      | some z =>
        rw [hl, optI_s] at i1
        rw [optI_s]
        walk_at "run1"
        have z2 := hD1.fields (dx := dx1) (D' := { D1 with left := D1.left.map (· - 1) }) rfl rfl
        have e : dkO C dx1 a w n { D1 with left := D1.left.map (· - 1) } = .ins C.Disk dx1 [("blocks", .int D1.blocks), ("sectors", .ref a), ("writes", .ref w), ("newest", .ref n), ("left", .int (z - 1)), ("power", .bl true)] := by
          show HO.ins C.Disk dx1 [("blocks", .int D1.blocks), ("sectors", .ref a), ("writes", .ref w), ("newest", .ref n), ("left", optI (D1.left.map (· - 1))), ("power", .bl D1.pw)] = _
          rw [hl, hp]
          rfl
        rw [e] at z2
        exact (k _ z2 fun b o h n => upd_oth (fr b o h n) n).1 hp
def newD (z : Int) : DiskS := ⟨z, List.replicate (z * 4).toNat (List.replicate 8 0), [], none, true⟩
/-- a disk that is being made -/
def Ini (H H' : Hp) (d a dx c : Addr) (fs : List (Str × V)) (rs : List (List Int)) : Prop := H' d = some (.ins c dx fs) ∧ (∀ b o, H b = some o → b ≠ d → H' b = some o) ∧ ∃ vs, H' a = some (.lst vs) ∧ RowsAt H' vs rs
theorem Ini.new {H H' : Hp} {d a dx c p : Addr} {fs : List (Str × V)} {rs : List (List Int)} {o : HO} (x : Ini H H' d a dx c fs rs) (n : H' p = none) : Ini H (upd H' p o) d a dx c fs rs := by
  obtain ⟨x1, x2, vs, x3, x4⟩ := x
  exact ⟨upd_old x1 n, fun b w h q => upd_old (x2 b w h q) n, vs, upd_old x3 n, x4.same (same_new n)⟩
theorem Ini.set {H H' : Hp} {d a dx c : Addr} {fs fs' : List (Str × V)} {rs : List (List Int)} (x : Ini H H' d a dx c fs rs) : Ini H (upd H' d (.ins c dx fs')) d a dx c fs' rs := by
  obtain ⟨x1, x2, vs, x3, x4⟩ := x
  exact ⟨upd_same, fun b w h q => upd_oth (x2 b w h q) q, vs, upd_oth x3 (ne_of x3 x1 fun z => nomatch z), x4.map (row_upd x1 plain_ins)⟩
theorem Ini.free {H H' : Hp} {d a dx c p : Addr} {fs : List (Str × V)} {rs : List (List Int)} (x : Ini H H' d a dx c fs rs) (n : H' p = none) : H p = none := by
  cases e : H p with
  | none => rfl
  | some o =>
    by_cases q : p = d
    · rw [q, x.1] at n; cases n
    · rw [x.2.1 p o e q] at n; cases n
def sp_Disk___init__ (K : PySem.W.Frag) (C : Ex) : Sp := S2 fun x b H Q E => ∃ d dx, x = .ref d ∧ H d = some (.ins C.Disk dx []) ∧ Known K H b ∧
  (∀ z : Int, b = .int z → 96 ≤ z → z ≤ 256 → ∀ H' a w n, (∀ c o, H c = some o → c ≠ d → H' c = some o) → H a = none → H w = none → H n = none → DiskAt C H' d a w n (newD z) → Q .non H') ∧ (btw 96 256 b = false → E (.ref C.NotValid) none H)
def t_Disk___init__ (K : PySem.W.Frag) (C : Ex) (E : XK) : TS :=
  tSeq (tIfS (tNot (uTru K (uCall (sp_is_between K C) (WB E) (tCons (tVar 1) (tCons (tC (.int 96)) (tCons (tC (.int 256)) (tNil))))))) (uRaise C.NotValid (WB E)) (tNext))
  (tSeq (uSetF C.Disk "blocks" (tVar 0) (tVar 1))
  (tSeq (uSetF C.Disk "sectors" (tVar 0) (tLc (iRng1 (tCons (tOp (uMul) (tVar 1) (tC (.int 4))) (tNil))) (gName 2) (tYes) (tOp (uMul) (tLst (tCons (tC (.int 0)) (tNil))) (tC (.int 8))) [2]))
  (tSeq (uSetF C.Disk "writes" (tVar 0) (tLst (tNil)))
  (tSeq (uSetF C.Disk "newest" (tVar 0) (tDNewK))
  (tSeq (uSetF C.Disk "left" (tVar 0) (tC .non))
  (uSetF C.Disk "power" (tVar 0) (tC (.bl true))))))))
theorem pure_Disk___init__ {K : PySem.W.Frag} {C : Ex} {vs : List V} {H : Hp} {Q : VK} {E : XK} (F : Fa K C) (h : sp_Disk___init__ K C vs H Q E) : t_Disk___init__ K C E { nx := fun _ H' => Q .non H', rt := Q } (start ["self", "blocks", "sector"] vs) H := by
  obtain ⟨x, b, rfl, d, dx, rfl, i, hk, k1, k2⟩ := h
  unfold t_Disk___init__
  walk_at "run1"
  refine w_S3 ⟨96, 256, rfl, rfl, hk, ?_⟩
  walk_at "run1"
  refine ifBN (fun hf => ?_) (fun ht => ?_)
  · walk_at "run1"
    exact k2 hf
  · obtain ⟨z, rfl, z1, z2⟩ := btw_inv ht
    walk_at "run1"
    have i0 : upd H d (.ins C.Disk dx (putF "blocks" (V.int z) [])) d = some (.ins C.Disk dx (putF "blocks" (V.int z) [])) := upd_same
    have fr0 : ∀ b o, H b = some o → b ≠ d → upd H d (.ins C.Disk dx (putF "blocks" (V.int z) [])) b = some o := fun b o h n => upd_oth h n
    generalize upd H d (.ins C.Disk dx (putF "blocks" (V.int z) [])) = H0 at *
    refine l_range (fun a i H1 => Same H0 H1 ∧ ∃ vs, H1 a = some (.lst vs) ∧ vs.length = i ∧ RowsAt H1 vs (List.replicate i (List.replicate 8 0))) (fun a ha => ⟨same_new ha, [], upd_same, rfl, .nil⟩) ?_ ?_
    · rintro a i H1 ha hi ⟨s1, vs, e1, hv, r1⟩
      walk_at "run1"
      refine ⟨rfl, ?_⟩
      walk_at "run1"
      rename_i p hp q hq
      refine ⟨vs, upd_old (upd_old e1 hp) hq, Nat.lt_of_le_of_lt (by omega) (lt_line (n := 2000) (by decide)), ?_⟩
      have hs : Same H1 (upd (upd H1 p (.lst [.int 0])) q (.lst ((List.replicate (8 : Int).toNat (0 : Int)).map V.int))) := same_updN (same_new hp) hq
      have ea : upd (upd H1 p (.lst [.int 0])) q (.lst ((List.replicate (8 : Int).toNat (0 : Int)).map V.int)) a = some (.lst vs) := hs _ _ e1
      have rq : RowAt (upd (upd H1 p (.lst [.int 0])) q (.lst ((List.replicate (8 : Int).toNat (0 : Int)).map V.int))) (.ref q) (List.replicate 8 0) := ⟨rfl, q, rfl, upd_same⟩
      have rr := (r1.same hs).snoc rq
      refine ⟨same_upd (s1.trans hs) ha, vs ++ [.ref q], upd_same, by rw [List.length_append, hv]; rfl, ?_⟩
      rw [List.replicate_succ']
      exact rr.upd ea (noRow_refs r1.ref)
    · rintro a H1 ha ⟨s1, vs, e1, hv, r1⟩
      have J0 : Ini H H1 d a dx C.Disk (putF "blocks" (V.int z) []) (List.replicate (z * 4).toNat (List.replicate 8 0)) := ⟨s1 _ _ i0, fun b o h n => s1 _ _ (fr0 b o h n), vs, e1, r1⟩
      have fa : H a = none := by
        cases e : H a with
        | none => rfl
        | some o =>
          by_cases q : a = d
          · rw [q, i0] at ha; cases ha
          · rw [fr0 a o e q] at ha; cases ha
      have i1 := J0.1
      walk_at "run1"
      have J1 := J0.set (fs' := putF "sectors" (V.ref a) (putF "blocks" (V.int z) []))
      generalize upd H1 d (.ins C.Disk dx (putF "sectors" (V.ref a) (putF "blocks" (V.int z) []))) = H2 at *
      have i2 := J1.1
      walk_at "run1"
      rename_i w n hw hn
      have J2 := J1.new (o := .lst []) hw
      have nwd : w ≠ d := (ne_of_none i2 hw).symm
      have J3 := J2.set (fs' := putF "writes" (V.ref w) (putF "sectors" (V.ref a) (putF "blocks" (V.int z) [])))
      have nnd : n ≠ d := (ne_of_none J3.1 hn).symm
      have ew : upd (upd H2 w (.lst [])) d (.ins C.Disk dx (putF "writes" (V.ref w) (putF "sectors" (V.ref a) (putF "blocks" (V.int z) [])))) w = some (.lst []) := by rw [upd_ne nwd]; exact upd_same
      have nwn : w ≠ n := ne_of_none ew hn
      have J4 := (J3.new (o := .dK []) hn)
      have J5 := ((J4.set (fs' := putF "newest" (V.ref n) (putF "writes" (V.ref w) (putF "sectors" (V.ref a) (putF "blocks" (V.int z) []))))).set (fs' := putF "left" V.non (putF "newest" (V.ref n) (putF "writes" (V.ref w) (putF "sectors" (V.ref a) (putF "blocks" (V.int z) [])))))).set (fs' := putF "power" (V.bl true) (putF "left" V.non (putF "newest" (V.ref n) (putF "writes" (V.ref w) (putF "sectors" (V.ref a) (putF "blocks" (V.int z) []))))))
      obtain ⟨j1, j2, vs, j3, j4⟩ := J5
      have naw : a ≠ w := by
        obtain ⟨_, _, _, y, _⟩ := J1
        exact ne_of_none y hw
      refine k1 z rfl z1 z2 _ a w n j2 fa (J1.free hw) (J3.free hn) ⟨⟨dx, j1⟩, ⟨vs, j3, j4⟩, ⟨[], ?_, rfl, fun i v h => by simp at h⟩, ⟨[], ?_, Nat.le_refl 0, fun _ h => by simp at h, fun s => .inl ⟨rfl, rfl⟩⟩, naw⟩
      · rw [upd_ne nwd, upd_ne nwd, upd_ne nwd, upd_ne nwn]; exact ew
      · rw [upd_ne nnd, upd_ne nnd, upd_ne nnd]; exact upd_same
def sp_Disk_read (K : PySem.W.Frag) (C : Ex) : Sp := S2 fun x b H Q E => ∃ d a w n D, x = .ref d ∧ DiskAt C H d a w n D ∧ DiskOk D ∧ Known K H b ∧
  (D.pw = false → E (.ref C.PowerOff) none H) ∧ (D.pw = true → btw 0 (D.secs.length - 1) b = false → E (.ref C.NotValid) none H) ∧
  ∀ s : Int, D.pw = true → b = .int s → 0 ≤ s → s < D.secs.length → (rdS D s).length = 8 → ∀ p, H p = none → ∀ H', Same H H' → H' p = some (.lst ((rdS D s).map V.int)) → Q (.ref p) H'
def t_Disk_read (K : PySem.W.Frag) (C : Ex) (E : XK) : TS :=
  tSeq (tIfS (tNot (uTru K (uFld C.Disk "power" (tVar 0)))) (uRaise C.PowerOff (WB E)) (tNext))
  (tSeq (tIfS (tNot (uTru K (uCall (sp_is_between K C) (WB E) (tCons (tVar 1) (tCons (tC (.int 0)) (tCons (tOp (uSub) (tCB (uLen K) (tCons (uFld C.Disk "sectors" (tVar 0)) (tNil))) (tC (.int 1))) (tNil))))))) (uRaise C.NotValid (WB E)) (tNext))
  (tSeq (tIfS (tTest (tOp (uIn K) (tVar 1) (uFld C.Disk "newest" (tVar 0)))) (tRet (tCB (uList K) (tCons (tDGet (uFld C.Disk "newest" (tVar 0)) (tVar 1)) (tNil)))) (tNext))
  (tRet (tCB (uList K) (tCons (tOp (uIx K) (uFld C.Disk "sectors" (tVar 0)) (tVar 1)) (tNil))))))
theorem pure_Disk_read {K : PySem.W.Frag} {C : Ex} {vs : List V} {H : Hp} {Q : VK} {E : XK} (F : Fa K C) (h : sp_Disk_read K C vs H Q E) : t_Disk_read K C E { nx := fun _ H' => Q .non H', rt := Q } (start ["self", "sector"] vs) H := by
  obtain ⟨x, b, rfl, d, a, w, n, D, rfl, hD, ok, hk, k0, k1, k2⟩ := h
  obtain ⟨⟨dx, i⟩, ⟨vs, e1, r1⟩, ⟨ws, e2, r2⟩, ⟨kvs, e3, r3⟩, ne⟩ := hD
  unfold dkO at i
  unfold t_Disk_read
  walk_at "run1"
  refine ifBN (fun hf => ?_) (fun hp => ?_)
  · walk_at "run1"
    exact k0 hf
  · walk_at "run1"
    rw [r1.1]
    refine w_S3 ⟨0, (D.secs.length : Int) - 1, rfl, rfl, hk, ?_⟩
    walk_at "run1"
    refine ifBN (fun hf => ?_) (fun ht => ?_)
    · walk_at "run1"
      exact k1 hp hf
    · obtain ⟨s, rfl, s0, s1⟩ := btw_inv ht
      walk_at "run1"
      rcases r3.2.2 s with ⟨hv, hl⟩ | ⟨v, r, hv, hl, h8, q, rfl, hq⟩
      · rw [hv, Option.isSome_none]
        have er : rdS D s = D.secs.getD s.toNat [] := by unfold rdS; rw [hl]; rfl
        walk_at "run1"
        refine w_ixA (SqL.of e1) ⟨s0, by rw [r1.1]; omega⟩ fun v ev => ?_
        obtain ⟨r, hr, h8, q, rfl, hq⟩ := r1.2 _ v ev
        have er2 : rdS D s = r := by rw [er, List.getD_eq_getElem?_getD, hr]; rfl
        walk_at "run1"
        refine w_tlist (SqL.of hq) fun l hl => ?_
        exact k2 s hp rfl s0 (by omega) (by rw [er2]; exact h8) l hl _ (same_new hl) (by rw [er2]; exact upd_same)
      · rw [hv, Option.isSome_some]
        have er2 : rdS D s = r := by unfold rdS; rw [hl]; rfl
        walk_at "run1"
        refine w_dgetI e3 hv ?_
        walk_at "run1"
        refine w_tlist (SqL.of hq) fun l hl => ?_
        exact k2 s hp rfl s0 (by omega) (by rw [er2]; exact h8) l hl _ (same_new hl) (by rw [er2]; exact upd_same)
theorem sql_fr {K : PySem.W.Frag} {H H1 : Hp} {d q c dx : Addr} {fs : List (Str × V)} {xs : List V} (i : H d = some (.ins c dx fs)) (fr : ∀ b o, H b = some o → b ≠ d → H1 b = some o) (h : SqL K H q xs) : SqL K H1 q xs := by
  rcases h with (h | ⟨o, h⟩) | h
  · exact .inl (.inl (fr _ _ h (ne_of h i fun z => nomatch z)))
  · exact .inl (.inr ⟨o, fr _ _ h (ne_of h i fun z => nomatch z)⟩)
  · exact .inr h
theorem RowAt.of {H : Hp} {p : Addr} {r : List Int} (l : r.length = 8) (h : H p = some (.lst (r.map V.int))) : RowAt H (.ref p) r := ⟨l, p, rfl, h⟩
theorem WrsAt.snoc {H : Hp} {vs : List V} {ws : List (Int × List Int)} {v : V} {s : Int} {r : List Int} (x : WrsAt H vs ws) (y : WrAt H v s r) : WrsAt H (vs ++ [v]) (ws ++ [(s, r)]) := by
  refine ⟨by rw [List.length_append, List.length_append, x.1]; rfl, fun i w h => ?_⟩
  rcases Nat.lt_or_ge i vs.length with q | q
  · rw [List.getElem?_append_left q] at h
    obtain ⟨s', r', e, z⟩ := x.2 i w h
    exact ⟨s', r', by rw [List.getElem?_append_left (by rw [← x.1]; exact q)]; exact e, z⟩
  · rw [List.getElem?_append_right q] at h
    have hi : i - vs.length = 0 := by
      have := (List.getElem?_eq_some_iff.mp h).1
      simp at this
      omega
    rw [hi] at h
    cases h
    exact ⟨s, r, by rw [List.getElem?_append_right (by rw [← x.1]; exact q), ← x.1, hi]; rfl, y⟩
theorem mem_putK {kvs : List (Key × V)} {k : Key} {v : V} {kv : Key × V} (h : kv ∈ putK kvs k v) : kv.1 = k ∨ kv ∈ kvs := by
  unfold putK at h
  split at h
  · obtain ⟨x, hx, e⟩ := List.mem_map.mp h
    by_cases q : x.1 = k
    · rw [if_pos q] at e; subst e; exact .inl q
    · rw [if_neg q] at e; subst e; exact .inr hx
  · rcases List.mem_append.mp h with h | h
    · exact .inr h
    · rw [List.mem_singleton.mp h]; exact .inl rfl
theorem NwAt.put {H : Hp} {kvs : List (Key × V)} {ws : List (Int × List Int)} {s : Int} {v : V} {r : List Int} (x : NwAt H kvs ws) (y : RowAt H v r) : NwAt H (putK kvs (.inl s) v) (ws ++ [(s, r)]) := by
  refine ⟨?_, fun kv hk => ?_, fun t => ?_⟩
  · have := length_putK kvs (.inl s) v
    rw [List.length_append]
    have := x.1
    simp only [List.length_cons, List.length_nil]
    omega
  · rcases mem_putK hk with h | h
    · exact ⟨s, h⟩
    · exact x.2.1 kv h
  · rw [valV_put, lastW_snoc]
    by_cases h : t = s
    · subst h
      rw [if_pos rfl, if_pos rfl]
      exact .inr ⟨v, r, rfl, rfl, y⟩
    · rw [if_neg (fun e => h (Sum.inl.inj e)), if_neg h]
      exact x.2.2 t
/-- one more write waits -/
def pushW (D : DiskS) (s : Int) (r : List Int) : DiskS := { D with wr := D.wr ++ [(s, r)] }
theorem DiskAt.rowNot {C : Ex} {H : Hp} {d a w n p : Addr} {D : DiskS} {r : List Int} (x : DiskAt C H d a w n D) (h : RowAt H (.ref p) r) : p ∉ dkF d a w n := by
  obtain ⟨⟨_, x1⟩, ⟨_, x2, r2⟩, ⟨_, x3, r3⟩, ⟨_, x4, _⟩, _⟩ := x
  obtain ⟨l8, p', e, hp⟩ := h
  cases e
  intro hb
  simp only [dkF, List.mem_cons, List.not_mem_nil, or_false] at hb
  rcases hb with rfl | rfl | rfl | rfl
  · rw [x1] at hp; cases hp
  · rw [x2] at hp; exact row_ne l8 r2.ref (Option.some.inj hp).symm
  · rw [x3] at hp; exact row_ne l8 r3.ref (Option.some.inj hp).symm
  · rw [x4] at hp; cases hp
theorem DiskAt.tupNot {C : Ex} {H : Hp} {d a w n t : Addr} {D : DiskS} {xs : List V} (x : DiskAt C H d a w n D) (h : H t = some (.tup xs)) : t ∉ dkF d a w n := by
  obtain ⟨⟨_, x1⟩, ⟨_, x2, r2⟩, ⟨_, x3, r3⟩, ⟨_, x4, _⟩, _⟩ := x
  intro hb
  simp only [dkF, List.mem_cons, List.not_mem_nil, or_false] at hb
  rcases hb with rfl | rfl | rfl | rfl
  · rw [x1] at h; cases h
  · rw [x2] at h; cases h
  · rw [x3] at h; cases h
  · rw [x4] at h; cases h
theorem RowAt.stp {C : Ex} {H H' : Hp} {d a w n : Addr} {D : DiskS} {v : V} {r : List Int} {S' : List Addr} (x : RowAt H v r) (hD : DiskAt C H d a w n D) (st : Stp (dkF d a w n) H S' H') : RowAt H' v r := by
  have x0 := x
  obtain ⟨l8, p, rfl, hp⟩ := x
  exact ⟨l8, p, rfl, (st.keep hp (hD.rowNot x0)).1⟩
theorem WrsAt.stp {C : Ex} {H H' : Hp} {d a w n : Addr} {D : DiskS} {vs : List V} {ws : List (Int × List Int)} {S' : List Addr} (x : WrsAt H vs ws) (hD : DiskAt C H d a w n D) (st : Stp (dkF d a w n) H S' H') : WrsAt H' vs ws :=
  x.map (fun _ _ y => y.stp hD st) fun _ _ e => (st.keep e (hD.tupNot e)).1
theorem WrsAt.same {H H' : Hp} {vs : List V} {ws : List (Int × List Int)} (x : WrsAt H vs ws) (s : Same H H') : WrsAt H' vs ws := x.map (fun _ _ y => y.same s) fun _ _ e => s _ _ e
theorem NwAt.same {H H' : Hp} {kvs : List (Key × V)} {ws : List (Int × List Int)} (x : NwAt H kvs ws) (s : Same H H') : NwAt H' kvs ws := x.map fun _ _ y => y.same s
theorem msk_none_iff {S : List Addr} {H : Hp} {b : Addr} {o : HO} (h : msk S H b = some o) : b ∉ S ∧ H b = some o := by
  unfold msk at h
  split at h
  · cases h
  · rename_i n; exact ⟨n, h⟩
theorem RowAt.msk {S : List Addr} {H H' : Hp} {v : V} {r : List Int} (x : RowAt (msk S H) v r) (f : ∀ v r, RowAt H v r → RowAt H' v r) : RowAt (msk S H') v r := by
  obtain ⟨l8, p, rfl, h⟩ := x
  obtain ⟨n, h2⟩ := msk_none_iff h
  obtain ⟨_, p2, e, h3⟩ := f (.ref p) r ⟨l8, p, rfl, h2⟩
  cases e
  exact ⟨l8, p, rfl, msk_at h3 n⟩
/-- a disk that stands without some objects stands without them behind a write too -/
theorem DiskAt.mskd {C : Ex} {S : List Addr} {H H' : Hp} {d a w n dx t l l2 : Addr} {D D' : DiskS} {s : Int} {r : List Int} {vs ws : List V} {kvs : List (Key × V)} {S' : List Addr} (hS : ∀ b ∈ S, b ∉ dkF d a w n) (hM : DiskAt C (msk S H) d a w n D) (hD : DiskAt C H d a w n D) (st : Stp (dkF d a w n) H S' H')
    (e1 : H a = some (.lst vs)) (e2 : H w = some (.lst ws)) (e3 : H n = some (.dK kvs)) (i' : H' d = some (dkO C dx a w n D')) (a' : H' a = some (.lst vs)) (w' : H' w = some (.lst (ws ++ [.ref t]))) (n' : H' n = some (.dK (putK kvs (.inl s) (.ref l2))))
    (et : H' t = some (.tup [.int s, .ref l])) (rl : RowAt H' (.ref l) r) (rl2 : RowAt H' (.ref l2) r) (nt : t ∉ S) (nl : l ∉ S) (nl2 : l2 ∉ S) (q1 : D'.secs = D.secs) (q2 : D'.wr = D.wr ++ [(s, r)]) : DiskAt C (msk S H') d a w n D' := by
  obtain ⟨_, ⟨vs0, m1, r1⟩, ⟨ws0, m2, r2⟩, ⟨kvs0, m3, r3⟩, ne⟩ := hM
  have z1 := msk_same _ _ m1
  have z2 := msk_same _ _ m2
  have z3 := msk_same _ _ m3
  rw [e1] at z1
  rw [e2] at z2
  rw [e3] at z3
  cases z1
  cases z2
  cases z3
  have no : ∀ b ∈ dkF d a w n, b ∉ S := fun b h q => hS b q h
  have F : ∀ v r, RowAt (msk S H) v r → RowAt (msk S H') v r := fun v r x => x.msk fun _ _ y => y.stp hD st
  have G : ∀ t xs, msk S H t = some (.tup xs) → msk S H' t = some (.tup xs) := fun t xs e => by
    obtain ⟨n0, e0⟩ := msk_none_iff e
    exact msk_at (st.keep e0 (hD.tupNot e0)).1 n0
  have rm : ∀ p, RowAt H' (.ref p) r → p ∉ S → RowAt (msk S H') (.ref p) r := fun p x np => by
    obtain ⟨l8, p2, e, h⟩ := x
    cases e
    exact ⟨l8, p, rfl, msk_at h np⟩
  refine ⟨⟨dx, msk_at i' (no _ (by simp [dkF]))⟩, ⟨vs, msk_at a' (no _ (by simp [dkF])), by rw [q1]; exact r1.map F⟩, ⟨_, msk_at w' (no _ (by simp [dkF])), by rw [q2]; exact (r2.map F G).snoc ⟨t, _, rfl, msk_at et nt, rm l rl nl⟩⟩, ⟨_, msk_at n' (no _ (by simp [dkF])), by rw [q2]; exact NwAt.put (r3.map F) (rm l2 rl2 nl2)⟩, ne⟩
def sp_Disk_write (K : PySem.W.Frag) (C : Ex) : Sp := S3 fun x b c H Q E => ∃ d a w n D, x = .ref d ∧ DiskAt C H d a w n D ∧ DiskOk D ∧ D.wr.length < 100000 ∧ Known K H b ∧
  ((∃ q xs, c = .ref q ∧ SqL K H q xs ∧ (∀ x ∈ xs, Known K H x) ∧ ((btw 0 (D.secs.length - 1) b = false ∨ (decide ((xs.length : Int) = 8) && xs.all isWord) = false) → E (.ref C.NotValid) none H) ∧
    ∀ s : Int, b = .int s → 0 ≤ s → s < D.secs.length → ∀ r, xs = r.map V.int → r.length = 8 → (∀ z ∈ r, 0 ≤ z) →
      (∀ H', DiskAt C H' d a w n (opS D) → Stp (dkF d a w n) H (dkF d a w n) H' → (opS D).pw = false → E (.ref C.PowerOff) none H') ∧
      (∀ H', DiskAt C H' d a w n (pushW (opS D) s r) → Stp (dkF d a w n) H (dkF d a w n) H' → (opS D).pw = true → (∀ S : List Addr, (∀ b ∈ S, (∃ o, H b = some o) ∧ b ∉ dkF d a w n) → DiskAt C (msk S H) d a w n D → DiskAt C (msk S H') d a w n (pushW (opS D) s r)) → Q .non H')) ∨ (NoList K H c ∧ E (.ref C.NotValid) none H))
theorem all_ints {xs : List V} (h : xs.all isWord = true) : ∃ r : List Int, xs = r.map V.int ∧ ∀ z ∈ r, 0 ≤ z := by
  induction xs with
  | nil => exact ⟨[], rfl, by simp⟩
  | cons x xs ih =>
    rw [List.all_cons, Bool.and_eq_true] at h
    obtain ⟨r, rfl, hr⟩ := ih h.2
    cases x <;> first | (cases h.1; done) | skip
    rename_i i
    exact ⟨i :: r, rfl, fun z hz => by
      rcases List.mem_cons.mp hz with rfl | hz
      · exact of_decide_eq_true h.1
      · exact hr z hz⟩
def t_Disk_write (K : PySem.W.Frag) (C : Ex) (E : XK) : TS :=
  tSeq (tIfS (tNot (uTru K (uCall (sp_is_between K C) (WB E) (tCons (tVar 1) (tCons (tC (.int 0)) (tCons (tOp (uSub) (tCB (uLen K) (tCons (uFld C.Disk "sectors" (tVar 0)) (tNil))) (tC (.int 1))) (tNil))))))) (uRaise C.NotValid (WB E)) (tNext))
  (tSeq (tIfS (tNot (uTru K (uCall (sp_are_words K C) (WB E) (tCons (tVar 2) (tCons (tC (.int 8)) (tNil)))))) (uRaise C.NotValid (WB E)) (tNext))
  (tSeq (tDrop (uMeth C.Disk "operate" (sp_Disk_operate K C) (WB E) (tVar 0) (tNil)))
  (tSeq (tDrop (tBM K "list" (rAppend) (uFld C.Disk "writes" (tVar 0)) (tCons (tTup (tCons (tVar 1) (tCons (tCB (uList K) (tCons (tVar 2) (tNil))) (tNil)))) (tNil))))
  (sDPut (uFld C.Disk "newest" (tVar 0)) (tVar 1) (tCB (uList K) (tCons (tVar 2) (tNil)))))))
theorem pure_Disk_write {K : PySem.W.Frag} {C : Ex} {vs : List V} {H : Hp} {Q : VK} {E : XK} (F : Fa K C) (h : sp_Disk_write K C vs H Q E) : t_Disk_write K C E { nx := fun _ H' => Q .non H', rt := Q } (start ["self", "sector", "words"] vs) H := by
  obtain ⟨x, b, c, rfl, d, a, w, n, D, rfl, hD, ok, hw, hk, hc⟩ := h
  have hD' := hD
  obtain ⟨⟨dx, i⟩, ⟨vs, e1, r1⟩, ⟨ws, e2, r2⟩, ⟨kvs, e3, r3⟩, ne⟩ := hD
  unfold dkO at i
  unfold t_Disk_write
  walk_at "run1"
  rw [r1.1]
  refine w_S3 ⟨0, (D.secs.length : Int) - 1, rfl, rfl, hk, ?_⟩
  walk_at "run1"
  refine ifBN (fun hf => ?_) (fun ht => ?_)
  · walk_at "run1"
    rcases hc with ⟨_, _, _, _, _, z, _⟩ | ⟨_, z⟩
    · exact z (.inl hf)
    · exact z
  · obtain ⟨s, rfl, s0, s1⟩ := btw_inv ht
    walk_at "run1"
    rcases hc with ⟨q, xs, rfl, hq, hx, z, k⟩ | ⟨hn, z⟩
    · refine w_S2 ⟨8, rfl, .inl ⟨q, xs, rfl, hq, hx, ?_⟩⟩
      walk_at "run1"
      refine ifBN (fun hf => ?_) (fun hg => ?_)
      · walk_at "run1"
        exact z (.inr hf)
      · obtain ⟨r, rfl, hr⟩ := all_ints (Bool.and_eq_true_iff.mp hg).2
        have h8 : r.length = 8 := by
          have := of_decide_eq_true (Bool.and_eq_true_iff.mp hg).1
          rw [List.length_map] at this
          omega
        obtain ⟨k1, k2⟩ := k s rfl s0 (by omega) r rfl h8 hr
        walk_at "run1"
        refine w_S1 ⟨d, a, w, n, D, rfl, hD', fun H1 hD1 fr => ⟨fun hp => ?_, fun hp => ?_⟩⟩
        · have st1 : Stp (dkF d a w n) H (dkF d a w n) H1 := ⟨fun b o h nb => fr b o h fun e => nb (by rw [e]; exact List.mem_cons_self ..), fun b h => .inl h⟩
          have hq1 := sql_fr i fr hq
          have hD1' := hD1
          have hl : D.wr.length = (opS D).wr.length := by rw [(opS_secs D).2.1]
          have eD := opS_secs D
          generalize opS D = D1 at *
          obtain ⟨⟨dx1, i1⟩, ⟨vs1, e11, r11⟩, ⟨ws1, e21, r21⟩, ⟨kvs1, e31, r31⟩, ne1⟩ := hD1
          unfold dkO at i1
          walk_at "run1"
          refine w_tlist hq1 fun l hl => ?_
          walk_at "run1"
          rename_i t ht
          have s3 : Same H1 (upd (upd H1 l (.lst (r.map V.int))) t (.tup [.int s, .ref l])) := same_updN (same_new hl) ht
          have hl1 := hl
          have ht1 := ht
          have et : upd (upd H1 l (.lst (r.map V.int))) t (.tup [.int s, .ref l]) t = some (.tup [.int s, .ref l]) := upd_same
          have rl : RowAt (upd (upd H1 l (.lst (r.map V.int))) t (.tup [.int s, .ref l])) (.ref l) r := .of h8 (upd_old upd_same ht)
          generalize upd (upd H1 l (.lst (r.map V.int))) t (.tup [.int s, .ref l]) = H3 at *
          have r13 := r11.same s3
          have r23 := r21.map (fun _ _ y => y.same s3) fun _ _ e => s3 _ _ e
          have r33 := r31.map fun _ _ y => y.same s3
          have pw := plain_refs r21.ref
          have hlen := r21.1
          refine w_app (s3 _ _ e21) (lt_line (by omega)) ?_
          have i4 : upd H3 w (.lst (ws1 ++ [.ref t])) d = _ := upd_oth (s3 _ _ i1) (ne_of i1 e21 fun z => nomatch z)
          have a4 : upd H3 w (.lst (ws1 ++ [.ref t])) a = _ := upd_oth (s3 _ _ e11) ne1
          have n4 : upd H3 w (.lst (ws1 ++ [.ref t])) n = _ := upd_oth (s3 _ _ e31) (ne_of e31 e21 fun z => nomatch z)
          have w4 : upd H3 w (.lst (ws1 ++ [.ref t])) w = _ := upd_same
          have q4 : SqL K (upd H3 w (.lst (ws1 ++ [.ref t]))) q (r.map V.int) := by
            rcases s3.seq hq1 with (h | ⟨o, h⟩) | h
            · exact .inl (.inl (upd_oth h (ne_of h (s3 _ _ e21) (row_ne h8 r21.ref))))
            · exact .inl (.inr ⟨o, upd_oth h (ne_of h (s3 _ _ e21) fun z => nomatch z)⟩)
            · exact .inr h
          have r14 := r13.map (row_upd (o := .lst (ws1 ++ [.ref t])) (s3 _ _ e21) pw)
          have r24 := (r23.map (row_upd (o := .lst (ws1 ++ [.ref t])) (s3 _ _ e21) pw) (tup_upd (s3 _ _ e21) pw)).snoc (v := .ref t) (s := s) (r := r) ⟨t, _, rfl, tup_upd (s3 _ _ e21) pw _ _ et, row_upd (s3 _ _ e21) pw _ _ rl⟩
          have r34 := r33.map (row_upd (o := .lst (ws1 ++ [.ref t])) (s3 _ _ e21) pw)
          have st4 : Stp (dkF d a w n) H (dkF d a w n) (upd H3 w (.lst (ws1 ++ [.ref t]))) := (st1.trans (.same s3)).upd (by simp [dkF])
          have et4 := tup_upd (o := .lst (ws1 ++ [.ref t])) (s3 _ _ e21) pw _ _ et
          have rl4 := row_upd (o := .lst (ws1 ++ [.ref t])) (s3 _ _ e21) pw _ _ rl
          generalize upd H3 w (.lst (ws1 ++ [.ref t])) = H4 at *
          walk_at "run1"
          refine w_tlist q4 fun l2 hl2 => ?_
          have s5 : Same H4 (upd H4 l2 (.lst (r.map V.int))) := same_new hl2
          have rl2 : RowAt (upd H4 l2 (.lst (r.map V.int))) (.ref l2) r := .of h8 upd_same
          generalize upd H4 l2 (.lst (r.map V.int)) = H5 at *
          have i5 := s5 _ _ i4
          have n5 := s5 _ _ n4
          walk_at "run1"
          refine w_dputI n5 (by have := r31.1; omega) ?_
          have fr6 := row_upd (o := .dK (putK kvs1 (.inl s) (.ref l2))) n5 plain_dK
          have ft6 := tup_upd (o := .dK (putK kvs1 (.inl s) (.ref l2))) n5 plain_dK
          have st6 := (st4.trans (.same s5)).upd (p := n) (o := .dK (putK kvs1 (.inl s) (.ref l2))) (by simp [dkF])
          have at6 : DiskAt C (upd H5 n (.dK (putK kvs1 (.inl s) (.ref l2)))) d a w n (pushW D1 s r) := ⟨⟨dx1, upd_oth i5 (ne_of i5 n5 fun z => nomatch z)⟩, ⟨vs1, upd_oth (s5 _ _ a4) (ne_of (s5 _ _ a4) n5 fun z => nomatch z), (r14.same s5).map fr6⟩, ⟨_, upd_oth (s5 _ _ w4) (ne_of (s5 _ _ w4) n5 fun z => nomatch z), (r24.map (fun _ _ y => y.same s5) fun _ _ e => s5 _ _ e).map fr6 ft6⟩, ⟨_, upd_same, NwAt.put ((r34.map fun _ _ y => y.same s5).map fr6) (fr6 _ _ rl2)⟩, ne1⟩
          refine k2 _ at6 st6 hp fun S hS hM => ?_
          have a1 : H1 a = some (.lst vs) := fr _ _ e1 (ne_of e1 i fun z => nomatch z)
          have w1 : H1 w = some (.lst ws) := fr _ _ e2 (ne_of e2 i fun z => nomatch z)
          have n1 : H1 n = some (.dK kvs) := fr _ _ e3 (ne_of e3 i fun z => nomatch z)
          rw [e11] at a1
          rw [e21] at w1
          rw [e31] at n1
          cases a1
          cases w1
          cases n1
          have old : ∀ b ∈ S, ∃ o, H1 b = some o ∧ H4 b = some o := fun b hb => by
            obtain ⟨⟨o, ho⟩, nb⟩ := hS b hb
            exact ⟨o, fr _ _ ho (fun z => nb (by rw [z]; simp [dkF])), st4.1 _ _ ho nb⟩
          refine DiskAt.mskd (fun b hb => (hS b hb).2) hM hD' st6 e1 e2 e3 (upd_oth i5 (ne_of i5 n5 fun z => nomatch z)) (upd_oth (s5 _ _ a4) (ne_of (s5 _ _ a4) n5 fun z => nomatch z)) (upd_oth (s5 _ _ w4) (ne_of (s5 _ _ w4) n5 fun z => nomatch z)) upd_same (ft6 _ _ (s5 _ _ et4)) (fr6 _ _ (rl4.same s5)) (fr6 _ _ rl2) (fun q => ?_) (fun q => ?_) (fun q => ?_) eD.1 (by show D1.wr ++ _ = _; rw [eD.2.1])
          · obtain ⟨o, ho, _⟩ := old _ q
            rw [upd_old ho hl1] at ht1
            cases ht1
          · obtain ⟨o, ho, _⟩ := old _ q
            rw [ho] at hl1
            cases hl1
          · obtain ⟨o, _, ho⟩ := old _ q
            rw [ho] at hl2
            cases hl2
        · exact k1 H1 hD1 ⟨fun b o h nb => fr b o h fun e => nb (by rw [e]; exact List.mem_cons_self ..), fun b h => .inl h⟩ hp
    · refine w_S2 ⟨8, rfl, .inr ⟨hn, ?_⟩⟩
      walk_at "run1"
      exact z
/-- the sectors behind a flush -/
def flushS : List (List Int) → List (Int × List Int) → List (List Int)
  | rs, [] => rs
  | rs, (s, r) :: w => flushS (rs.set s.toNat r) w
theorem flushS_snoc (rs : List (List Int)) (w : List (Int × List Int)) (s : Int) (r : List Int) : flushS rs (w ++ [(s, r)]) = (flushS rs w).set s.toNat r := by
  induction w generalizing rs with
  | nil => rfl
  | cons p w ih => obtain ⟨t, q⟩ := p; exact ih _
theorem flushS_len (rs : List (List Int)) (w : List (Int × List Int)) : (flushS rs w).length = rs.length := by
  induction w generalizing rs with
  | nil => rfl
  | cons p w ih => obtain ⟨t, q⟩ := p; show (flushS (rs.set t.toNat q) w).length = _; rw [ih, List.length_set]
def flushD (D : DiskS) : DiskS := { D with secs := flushS D.secs D.wr, wr := [] }
def sp_Disk_flush (K : PySem.W.Frag) (C : Ex) : Sp := S1 fun x H Q E => ∃ d a w n D, x = .ref d ∧ DiskAt C H d a w n D ∧ DiskOk D ∧
  (∀ H', DiskAt C H' d a w n (opS D) → Stp (dkF d a w n) H (dkF d a w n) H' → (opS D).pw = false → E (.ref C.PowerOff) none H') ∧
  (∀ H' w' n', DiskAt C H' d a w' n' (flushD (opS D)) → Stp (dkF d a w n) H (dkF d a w' n') H' → (opS D).pw = true → Q .non H')
theorem w_f_list {K : PySem.W.Frag} {D : Ends} {σ : L2.St} {H : Hp} {g : TG} {tb : TS} {a : Addr} {xs : List V} (Pv : Nat → L2.St → Hp → Prop) (h0 : Pv 0 σ H) (hl : ∀ i σ H, i ≤ xs.length → Pv i σ H → H a = some (.lst xs))
    (hs : ∀ i x σ H, xs[i]? = some x → Pv i σ H → g x σ H fun σ2 H2 => tb { D with nx := Pv (i + 1), ct := Pv (i + 1), bk := D.nx } σ2 H2) (hd : ∀ σ H, Pv xs.length σ H → D.nx σ H) : forQ g tb D σ (Itl K a) H :=
  f_list Pv h0 (fun i σ H q p => SqL.of (hl i σ H q p)) hs hd
def t_Disk_flush (K : PySem.W.Frag) (C : Ex) (E : XK) : TS :=
  tSeq (tDrop (uMeth C.Disk "operate" (sp_Disk_operate K C) (WB E) (tVar 0) (tNil)))
  (tSeq (tFor (iList K (uFld C.Disk "writes" (tVar 0))) (gTup K 2 (gCons (gName 1) (gCons (gName 2) (gNil))))
  (tAsg (tCB (uList K) (tCons (tVar 2) (tNil))) (gSub (uFld C.Disk "sectors" (tVar 0)) (tVar 1) uSet)))
  (tSeq (uSetF C.Disk "writes" (tVar 0) (tLst (tNil)))
  (uSetF C.Disk "newest" (tVar 0) (tDNewK))))
theorem pure_Disk_flush {K : PySem.W.Frag} {C : Ex} {vs : List V} {H : Hp} {Q : VK} {E : XK} (F : Fa K C) (h : sp_Disk_flush K C vs H Q E) : t_Disk_flush K C E { nx := fun _ H' => Q .non H', rt := Q } (start ["self", "sector", "words"] vs) H := by
  obtain ⟨x, rfl, d, a, w, n, D, rfl, hD, ok, k1, k2⟩ := h
  obtain ⟨dx, i⟩ := hD.ins
  unfold dkO at i
  unfold t_Disk_flush
  walk_at "run1"
  refine w_S1 ⟨d, a, w, n, D, rfl, hD, fun H1 hD1 fr => ⟨fun hp => ?_, fun hp => ?_⟩⟩
  · have st1 : Stp (dkF d a w n) H (dkF d a w n) H1 := ⟨fun b o h nb => fr b o h fun e => nb (by rw [e]; exact List.mem_cons_self ..), fun b h => .inl h⟩
    have wk : ∀ p ∈ (opS D).wr, 0 ≤ p.1 ∧ p.1.toNat < (opS D).secs.length := by
      rw [(opS_secs D).1, (opS_secs D).2.1]
      intro p hp
      have := ok.wk p hp
      have := ok.sz
      omega
    clear k1
    generalize opS D = D1 at *
    obtain ⟨⟨dx1, i1⟩, ⟨vs1, e11, r11⟩, ⟨ws1, e21, r21⟩, ⟨kvs1, e31, r31⟩, ne1⟩ := hD1
    unfold dkO at i1
    have hw := r21.1
    walk_at "run1"
    refine w_f_list (xs := ws1) (fun i σ H2 => ∃ v1 v2, σ = [some (.ref d), v1, v2] ∧ H2 d = some (dkO C dx1 a w n D1) ∧ (∃ vs, H2 a = some (.lst vs) ∧ RowsAt H2 vs (flushS D1.secs (D1.wr.take i))) ∧ H2 w = some (.lst ws1) ∧ WrsAt H2 ws1 D1.wr ∧ (∃ kvs, H2 n = some (.dK kvs)) ∧ Stp (dkF d a w n) H (dkF d a w n) H2)
      ⟨none, none, rfl, i1, ⟨vs1, e11, r11⟩, e21, r21, ⟨kvs1, e31⟩, st1⟩ (by rintro i σ H2 _ ⟨_, _, _, _, _, h, _⟩; exact h) ?_ ?_
    · rintro i x σ H2 hx ⟨v1, v2, rfl, h1, ⟨vs, h2, rr⟩, h3, h4, ⟨kvs, h5⟩, st⟩
      obtain ⟨s, r, hsr, t, y, rfl, et, ry⟩ := h4.2 _ _ hx
      obtain ⟨l8, py, rfl, ey⟩ := ry
      have hm := List.mem_of_getElem? hsr
      have ws := wk _ hm
      unfold dkO at h1
      walk_at "run1"
      refine w_tlist (SqL.of ey) fun l hl => ?_
      have s3 : Same H2 (upd H2 l (.lst (r.map V.int))) := same_new hl
      have rl : RowAt (upd H2 l (.lst (r.map V.int))) (.ref l) r := .of l8 upd_same
      generalize upd H2 l (.lst (r.map V.int)) = H3 at *
      have h13 := s3 _ _ h1
      walk_at "run1"
      refine w_setL (s3 _ _ h2) ⟨ws.1, by rw [rr.1, flushS_len]; exact ws.2⟩ ?_
      have pa := plain_refs rr.ref
      have fr4 := row_upd (o := .lst (vs.set s.toNat (.ref l))) (s3 _ _ h2) pa
      have ft4 := tup_upd (o := .lst (vs.set s.toNat (.ref l))) (s3 _ _ h2) pa
      refine ⟨_, _, rfl, upd_oth h13 (ne_of h1 h2 fun z => nomatch z), ⟨_, upd_same, ?_⟩, upd_oth (s3 _ _ h3) ne1.symm, (h4.map (fun _ _ y => y.same s3) fun _ _ e => s3 _ _ e).map fr4 ft4, ⟨kvs, upd_oth (s3 _ _ h5) (ne_of h5 h2 fun z => nomatch z)⟩, (st.trans (.same s3)).upd (by simp [dkF])⟩
      rw [take_snoc hsr, flushS_snoc]
      exact ((rr.same s3).map fr4).set (fr4 _ _ rl)
    · rintro σ H2 ⟨v1, v2, rfl, h1, ⟨vs, h2, rr⟩, h3, h4, ⟨kvs, h5⟩, st⟩
      rw [hw, List.take_length] at rr
      unfold dkO at h1
      walk_at "run1"
      rename_i w' hw' n' hn'
      have J0 : Ini H2 H2 d a dx1 C.Disk _ (flushS D1.secs D1.wr) := ⟨h1, fun _ _ h _ => h, vs, h2, rr⟩
      have J1 := J0.new (o := .lst []) hw'
      have nwd : w' ≠ d := (ne_of_none h1 hw').symm
      have naw : a ≠ w' := ne_of_none h2 hw'
      have e1 : upd (upd H2 w' (.lst [])) d (.ins C.Disk dx1 (putF "writes" (.ref w') [("blocks", .int D1.blocks), ("sectors", .ref a), ("writes", .ref w), ("newest", .ref n), ("left", optI D1.left), ("power", .bl D1.pw)])) w' = some (.lst []) := by rw [upd_ne nwd]; exact upd_same
      have J2 := J1.set (fs' := putF "writes" (V.ref w') [("blocks", .int D1.blocks), ("sectors", .ref a), ("writes", .ref w), ("newest", .ref n), ("left", optI D1.left), ("power", .bl D1.pw)])
      have nnd : n' ≠ d := (ne_of_none J2.1 hn').symm
      have nwn : w' ≠ n' := ne_of_none e1 hn'
      have st2 : Stp (dkF d a w n) H (dkF d a w n) (upd (upd H2 w' (.lst [])) d (.ins C.Disk dx1 (putF "writes" (.ref w') [("blocks", .int D1.blocks), ("sectors", .ref a), ("writes", .ref w), ("newest", .ref n), ("left", optI D1.left), ("power", .bl D1.pw)]))) := (st.trans (.same (same_new hw'))).upd (by simp [dkF])
      have J3 := (J2.new (o := .dK []) hn').set (fs' := putF "newest" (V.ref n') (putF "writes" (V.ref w') [("blocks", .int D1.blocks), ("sectors", .ref a), ("writes", .ref w), ("newest", .ref n), ("left", optI D1.left), ("power", .bl D1.pw)]))
      obtain ⟨j1, j2, vs', j3, j4⟩ := J3
      refine k2 _ w' n' ⟨⟨dx1, j1⟩, ⟨vs', j3, j4⟩, ⟨[], ?_, rfl, fun i v h => by simp at h⟩, ⟨[], ?_, Nat.le_refl 0, fun _ h => by simp at h, fun s => .inl ⟨rfl, rfl⟩⟩, naw⟩ ?_ hp
      · rw [upd_ne nwd, upd_ne nwn]; exact e1
      · rw [upd_ne nnd]; exact upd_same
      · have st3 := (st2.trans (.same (same_new (o := .dK []) hn'))).upd (p := d) (o := .ins C.Disk dx1 (putF "newest" (.ref n') (putF "writes" (.ref w') [("blocks", .int D1.blocks), ("sectors", .ref a), ("writes", .ref w), ("newest", .ref n), ("left", optI D1.left), ("power", .bl D1.pw)]))) (by simp [dkF])
        refine ⟨st3.1, fun b hb => ?_⟩
        rcases List.mem_cons.mp hb with rfl | hb
        · exact .inl (by simp [dkF])
        rcases List.mem_cons.mp hb with rfl | hb
        · exact .inl (by simp [dkF])
        rcases List.mem_cons.mp hb with rfl | hb
        · exact st.fresh hw'
        rcases List.mem_cons.mp hb with rfl | hb
        · exact st2.fresh hn'
        · cases hb
  · exact k1 H1 hD1 ⟨fun b o h nb => fr b o h fun e => nb (by rw [e]; exact List.mem_cons_self ..), fun b h => .inl h⟩ hp
/-- new objects, all different -/
def NewL (H : Hp) (vs : List V) : Prop := ∃ qs : List Addr, vs = qs.map V.ref ∧ qs.Nodup ∧ ∀ q ∈ qs, H q = none
theorem NewL.nil {H : Hp} : NewL H [] := ⟨[], rfl, List.nodup_nil, fun _ h => by cases h⟩
theorem NewL.here {H1 : Hp} {vs : List V} {rs : List (List Int)} {qs : List Addr} (e : vs = qs.map V.ref) (rr : RowsAt H1 vs rs) : ∀ q ∈ qs, ∃ o, H1 q = some o := fun q hq => by
  have hm : V.ref q ∈ vs := by rw [e]; exact List.mem_map_of_mem hq
  obtain ⟨i, hi⟩ := List.getElem?_of_mem hm
  obtain ⟨r, _, _, p, ep, hp⟩ := rr.2 i _ hi
  cases ep
  exact ⟨_, hp⟩
theorem NewL.snoc {H H1 : Hp} {vs : List V} {rs : List (List Int)} {l : Addr} (x : NewL H vs) (rr : RowsAt H1 vs rs) (hl : H1 l = none) (h0 : H l = none) : NewL H (vs ++ [.ref l]) := by
  obtain ⟨qs, e, nd, hn⟩ := x
  have old := NewL.here e rr
  refine ⟨qs ++ [l], by rw [e, List.map_append]; rfl, List.nodup_append.mpr ⟨nd, by simp, fun a ha b hb => ?_⟩, fun q hq => ?_⟩
  · rw [List.mem_singleton] at hb
    rintro rfl
    obtain ⟨o, ho⟩ := old _ ha
    rw [hb, hl] at ho
    cases ho
  · rcases List.mem_append.mp hq with h | h
    · exact hn q h
    · rw [List.mem_singleton.mp h]; exact h0
theorem nodup_set {qs : List Addr} {l : Addr} (nd : qs.Nodup) (h : l ∉ qs) : ∀ j, (qs.set j l).Nodup := by
  induction qs with
  | nil => intro j; exact List.nodup_nil
  | cons q qs ih =>
    obtain ⟨n1, n2⟩ := List.nodup_cons.mp nd
    have hq : l ≠ q := fun e => h (by rw [e]; exact List.mem_cons_self ..)
    have hqs : l ∉ qs := fun e => h (List.mem_cons_of_mem _ e)
    intro j
    cases j with
    | zero => exact List.nodup_cons.mpr ⟨hqs, n2⟩
    | succ j =>
      refine List.nodup_cons.mpr ⟨fun m => ?_, ih n2 hqs j⟩
      rcases List.mem_or_eq_of_mem_set m with z | z
      · exact n1 z
      · exact hq z.symm
theorem NewL.set {H H1 : Hp} {vs : List V} {rs : List (List Int)} {l : Addr} {j : Nat} (x : NewL H vs) (rr : RowsAt H1 vs rs) (hl : H1 l = none) (h0 : H l = none) : NewL H (vs.set j (.ref l)) := by
  obtain ⟨qs, e, nd, hn⟩ := x
  have old := NewL.here e rr
  have nl : l ∉ qs := fun m => by
    obtain ⟨o, ho⟩ := old _ m
    rw [hl] at ho
    cases ho
  refine ⟨qs.set j l, by rw [e, List.map_set], nodup_set nd nl j, fun q hq => ?_⟩
  rcases List.mem_or_eq_of_mem_set hq with z | z
  · exact hn q z
  · rw [z]; exact h0
/-- pairs whose rows are new and all different -/
def NewW (H H' : Hp) (vs : List V) : Prop := ∃ qs : List Addr, qs.length = vs.length ∧ qs.Nodup ∧ (∀ q ∈ qs, H q = none) ∧ ∀ (i : Nat) v, vs[i]? = some v → ∃ t x q, v = .ref t ∧ qs[i]? = some q ∧ H' t = some (.tup [x, .ref q])
theorem NewW.snoc {H H1 H2 : Hp} {vs : List V} {ws : List (Int × List Int)} {l t : Addr} {x : V} (y : NewW H H1 vs) (rr : WrsAt H1 vs ws) (hl : H1 l = none) (h0 : H l = none) (ft : ∀ t xs, H1 t = some (.tup xs) → H2 t = some (.tup xs)) (et : H2 t = some (.tup [x, .ref l])) : NewW H H2 (vs ++ [.ref t]) := by
  obtain ⟨qs, e, nd, hn, ht⟩ := y
  refine ⟨qs ++ [l], by rw [List.length_append, List.length_append, e]; rfl, List.nodup_append.mpr ⟨nd, by simp, fun a ha b hb => ?_⟩, fun q hq => ?_, fun i v hv => ?_⟩
  · rw [List.mem_singleton] at hb
    rintro rfl
    obtain ⟨i, hi⟩ := List.getElem?_of_mem ha
    have il : i < vs.length := by rw [← e]; exact (List.getElem?_eq_some_iff.mp hi).1
    obtain ⟨t1, x1, q1, e1, e2, e3⟩ := ht i _ (List.getElem?_eq_getElem il)
    obtain ⟨s, r, _, t2, y2, e4, e5, _, p, rfl, hp⟩ := rr.2 i _ (List.getElem?_eq_getElem il)
    rw [e1] at e4
    cases e4
    rw [e3] at e5
    rw [hi] at e2
    cases e2
    cases e5
    rw [hb, hl] at hp
    cases hp
  · rcases List.mem_append.mp hq with h | h
    · exact hn q h
    · rw [List.mem_singleton.mp h]; exact h0
  · rcases Nat.lt_or_ge i vs.length with q | q
    · rw [List.getElem?_append_left q] at hv
      obtain ⟨t1, x1, q1, e1, e2, e3⟩ := ht i v hv
      exact ⟨t1, x1, q1, e1, by rw [List.getElem?_append_left (by rw [e]; exact q)]; exact e2, ft _ _ e3⟩
    · rw [List.getElem?_append_right q] at hv
      have hi : i - vs.length = 0 := by
        have := (List.getElem?_eq_some_iff.mp hv).1
        simp at this
        omega
      rw [hi] at hv
      cases hv
      exact ⟨t, x, l, rfl, by rw [List.getElem?_append_right (by rw [e]; exact q), e, hi]; rfl, et⟩
def sp_Disk_lasting (K : PySem.W.Frag) (C : Ex) : Sp := S1 fun x H Q _ => ∃ d a w n D, x = .ref d ∧ DiskAt C H d a w n D ∧ D.secs.length ≤ 100000 ∧
  ∀ p, H p = none → ∀ H' vs, Same H H' → H' p = some (.lst vs) → RowsAt H' vs D.secs → NewL H vs → Q (.ref p) H'
def t_Disk_lasting (K : PySem.W.Frag) (C : Ex) (E : XK) : TS :=
  tRet (tLc (iList K (uFld C.Disk "sectors" (tVar 0))) (gName 1) (tYes) (tCB (uList K) (tCons (tVar 1) (tNil))) [1])
theorem pure_Disk_lasting {K : PySem.W.Frag} {C : Ex} {vs : List V} {H : Hp} {Q : VK} {E : XK} (F : Fa K C) (h : sp_Disk_lasting K C vs H Q E) : t_Disk_lasting K C E { nx := fun _ H' => Q .non H', rt := Q } (start ["self", "words"] vs) H := by
  obtain ⟨x, rfl, d, a, w, n, D, rfl, hD, hl, k⟩ := h
  obtain ⟨⟨dx, i⟩, ⟨vs, e1, r1⟩, ⟨ws, e2, r2⟩, ⟨kvs, e3, r3⟩, ne⟩ := hD
  unfold dkO at i
  unfold t_Disk_lasting
  walk_at "run1"
  refine l_list (xs := vs) (fun b i H1 => Same H H1 ∧ ∃ us, H1 b = some (.lst us) ∧ RowsAt H1 us (D.secs.take i) ∧ NewL H us) (fun b hb => ⟨same_new hb, [], upd_same, .nil, NewL.nil⟩) (fun b i H1 _ p => SqL.of (p.1 _ _ e1)) ?_ ?_
  · rintro b i x H1 hb hx ⟨s1, us, h1, rr, nw⟩
    obtain ⟨r, hr, ry⟩ := r1.2 _ _ hx
    obtain ⟨l8, py, rfl, ey⟩ := ry
    walk_at "run1"
    refine ⟨rfl, ?_⟩
    walk_at "run1"
    refine w_tlist (SqL.of (s1 _ _ ey)) fun l hl2 => ?_
    have s3 : Same H1 (upd H1 l (.lst (r.map V.int))) := same_new hl2
    have rl : RowAt (upd H1 l (.lst (r.map V.int))) (.ref l) r := .of l8 upd_same
    generalize upd H1 l (.lst (r.map V.int)) = H3 at *
    have hz : us.length ≤ D.secs.length := by rw [rr.1, List.length_take]; omega
    refine ⟨us, s3 _ _ h1, lt_line (by omega), same_upd (s1.trans s3) hb, us ++ [.ref l], upd_same, ?_, nw.snoc rr hl2 (s1.free hl2)⟩
    rw [take_snoc hr]
    exact ((rr.same s3).snoc rl).upd (s3 _ _ h1) (noRow_refs rr.ref)
  · rintro b H1 hb ⟨s1, us, h1, rr, nw⟩
    rw [r1.1, List.take_length] at rr
    exact k b hb H1 us s1 h1 rr nw
def sp_Disk_waiting (K : PySem.W.Frag) (C : Ex) : Sp := S1 fun x H Q _ => ∃ d a w n D, x = .ref d ∧ DiskAt C H d a w n D ∧ D.wr.length ≤ 100000 ∧
  ∀ p, H p = none → ∀ H' vs, Same H H' → H' p = some (.lst vs) → WrsAt H' vs D.wr → NewW H H' vs → Q (.ref p) H'
def t_Disk_waiting (K : PySem.W.Frag) (C : Ex) (E : XK) : TS :=
  tRet (tLc (iList K (uFld C.Disk "writes" (tVar 0))) (gTup K 2 (gCons (gName 1) (gCons (gName 2) (gNil)))) (tYes) (tTup (tCons (tVar 1) (tCons (tCB (uList K) (tCons (tVar 2) (tNil))) (tNil)))) [1, 2])
theorem pure_Disk_waiting {K : PySem.W.Frag} {C : Ex} {vs : List V} {H : Hp} {Q : VK} {E : XK} (F : Fa K C) (h : sp_Disk_waiting K C vs H Q E) : t_Disk_waiting K C E { nx := fun _ H' => Q .non H', rt := Q } (start ["self", "sector", "words"] vs) H := by
  obtain ⟨x, rfl, d, a, w, n, D, rfl, hD, hl, k⟩ := h
  obtain ⟨⟨dx, i⟩, ⟨vs, e1, r1⟩, ⟨ws, e2, r2⟩, ⟨kvs, e3, r3⟩, ne⟩ := hD
  unfold dkO at i
  unfold t_Disk_waiting
  walk_at "run1"
  refine l_list (xs := ws) (fun b i H1 => Same H H1 ∧ ∃ us, H1 b = some (.lst us) ∧ WrsAt H1 us (D.wr.take i) ∧ NewW H H1 us) (fun b hb => ⟨same_new hb, [], upd_same, ⟨rfl, fun i v h => by simp at h⟩, [], rfl, List.nodup_nil, fun _ h => (by cases h), fun i v h => by simp at h⟩) (fun b i H1 _ p => SqL.of (p.1 _ _ e2)) ?_ ?_
  · rintro b i x H1 hb hx ⟨s1, us, h1, rr, nw⟩
    obtain ⟨s, r, hr, t, y, rfl, et, l8, py, rfl, ey⟩ := r2.2 _ _ hx
    have et1 := s1 _ _ et
    walk_at "run1"
    refine ⟨rfl, ?_⟩
    walk_at "run1"
    refine w_tlist (SqL.of (s1 _ _ ey)) fun l hl2 => ?_
    walk_at "run1"
    rename_i t2 ht2
    have s3 : Same H1 (upd (upd H1 l (.lst (r.map V.int))) t2 (.tup [.int s, .ref l])) := same_updN (same_new hl2) ht2
    have rl : WrAt (upd (upd H1 l (.lst (r.map V.int))) t2 (.tup [.int s, .ref l])) (.ref t2) s r := ⟨t2, _, rfl, upd_same, .of l8 (upd_old upd_same ht2)⟩
    have et2 : upd (upd H1 l (.lst (r.map V.int))) t2 (.tup [.int s, .ref l]) t2 = some (.tup [.int s, .ref l]) := upd_same
    generalize upd (upd H1 l (.lst (r.map V.int))) t2 (.tup [.int s, .ref l]) = H3 at *
    have hz : us.length ≤ D.wr.length := by rw [rr.1, List.length_take]; omega
    have pw := plain_refs rr.ref
    refine ⟨us, s3 _ _ h1, lt_line (by omega), same_upd (s1.trans s3) hb, us ++ [.ref t2], upd_same, ?_, nw.snoc rr hl2 (s1.free hl2) (fun t xs e => tup_upd (s3 _ _ h1) pw _ _ (s3 _ _ e)) (tup_upd (s3 _ _ h1) pw _ _ et2)⟩
    rw [take_snoc hr]
    exact ((rr.map (fun _ _ y => y.same s3) fun _ _ e => s3 _ _ e).snoc rl).map (row_upd (s3 _ _ h1) pw) (tup_upd (s3 _ _ h1) pw)
  · rintro b H1 hb ⟨s1, us, h1, rr, nw⟩
    rw [r2.1, List.take_length] at rr
    exact k b hb H1 us s1 h1 rr nw
theorem opS_id {D : DiskS} (h1 : D.left = none) (h2 : D.pw = true) : opS D = D := by
  have a : opA D = D := by unfold opA; rw [if_neg (by rw [h1]; simp)]
  unfold opS
  rw [a]
  unfold opB
  rw [if_pos h2, h1]
  cases D
  cases h1
  rfl
def Rd8 (D : DiskS) : Prop := ∀ s : Int, 0 ≤ s → s < D.secs.length → (rdS D s).length = 8
theorem rd_push {D : DiskS} {s t : Int} {r : List Int} : rdS (pushW D s r) t = if t = s then r else rdS D t := by
  unfold rdS pushW
  rw [lastW_snoc]
  split <;> rfl
/-- a read that is served -/
theorem w_read {K : PySem.W.Frag} {C : Ex} {H : Hp} {Q : VK} {E : XK} {d a w n : Addr} {D : DiskS} {s : Int} (x : DiskAt C H d a w n D) (ok : DiskOk D) (r8 : Rd8 D) (pw : D.pw = true) (h0 : 0 ≤ s) (h1 : s < D.secs.length)
    (k : ∀ p, H p = none → ∀ H', Same H H' → H' p = some (.lst ((rdS D s).map V.int)) → Q (.ref p) H') : sp_Disk_read K C [.ref d, .int s] H Q E :=
  w_S2 ⟨d, a, w, n, D, rfl, x, ok, trivial, (fun q => by rw [pw] at q; cases q), (fun _ q => by rw [btw_int h0 (by omega)] at q; cases q), fun t _ e _ _ _ => by cases e; exact k⟩
structure DskOn (D : DiskS) (b : Int) (m : Nat) : Prop where
  ok : DiskOk D
  lf : D.left = none
  pw : D.pw = true
  bl : D.blocks = b
  r8 : Rd8 D
  wl : D.wr.length ≤ m
theorem DskOn.push {D : DiskS} {b : Int} {m : Nat} {s : Int} {r : List Int} (x : DskOn D b m) (hm : m < 100000) (h0 : 0 ≤ s) (h1 : s < D.secs.length) (l : r.length = 8) : DskOn (pushW D s r) b (m + 1) := by
  refine ⟨⟨x.ok.bl, x.ok.sz, fun p hp => ?_, ?_⟩, x.lf, x.pw, x.bl, fun t t0 t1 => ?_, ?_⟩
  · have := x.ok.sz
    rcases List.mem_append.mp hp with q | q
    · exact x.ok.wk p q
    · rw [List.mem_singleton.mp q]
      show 0 ≤ s ∧ s < 4 * D.blocks
      omega
  · show (D.wr ++ [(s, r)]).length ≤ 100000
    have := x.wl
    rw [List.length_append]
    simp only [List.length_cons, List.length_nil]
    omega
  · rw [rd_push]
    split
    · exact l
    · exact x.r8 t t0 t1
  · show (D.wr ++ [(s, r)]).length ≤ m + 1
    have := x.wl
    rw [List.length_append]
    simp only [List.length_cons, List.length_nil]
    omega
/-- a write that is served -/
theorem w_write {K : PySem.W.Frag} {C : Ex} {H : Hp} {Q : VK} {E : XK} {d a w n : Addr} {D : DiskS} {b : Int} {m : Nat} {s : Int} {q : Addr} {r : List Int} (x : DiskAt C H d a w n D) (o : DskOn D b m) (hm : m < 100000) (h0 : 0 ≤ s) (h1 : s < D.secs.length)
    (hq : SqL K H q (r.map V.int)) (h8 : r.length = 8) (hr : ∀ z ∈ r, 0 ≤ z) (k : ∀ H', DiskAt C H' d a w n (pushW D s r) → Stp (dkF d a w n) H (dkF d a w n) H' → (∀ S : List Addr, (∀ b ∈ S, (∃ o, H b = some o) ∧ b ∉ dkF d a w n) → DiskAt C (msk S H) d a w n D → DiskAt C (msk S H') d a w n (pushW D s r)) → Q .non H') : sp_Disk_write K C [.ref d, .int s, .ref q] H Q E := by
  refine w_S3 ⟨d, a, w, n, D, rfl, x, o.ok, by have := o.wl; omega, trivial, .inl ⟨q, _, rfl, hq, fun y hy => ?_, fun z => ?_, fun t e _ _ r2 er _ _ => ?_⟩⟩
  · obtain ⟨i, _, rfl⟩ := List.mem_map.mp hy
    trivial
  · exfalso
    rcases z with z | z
    · rw [btw_int h0 (by omega)] at z; cases z
    · have : (r.map V.int).all isWord = true := List.all_eq_true.mpr fun y hy => by
        obtain ⟨i, hi, rfl⟩ := List.mem_map.mp hy
        exact decide_eq_true (hr i hi)
      rw [this, decide_eq_true (by rw [List.length_map]; omega)] at z
      cases z
  · cases e
    have er : r = r2 := (List.map_inj_right (fun _ _ h => V.int.inj h)).mp er
    subst er
    rw [opS_id o.lf o.pw]
    exact ⟨fun _ _ _ h => (by rw [o.pw] at h; cases h), fun H' a b _ c => k H' a b c⟩
/-- a flush that is served -/
theorem w_flush {K : PySem.W.Frag} {C : Ex} {H : Hp} {Q : VK} {E : XK} {d a w n : Addr} {D : DiskS} {b : Int} {m : Nat} (x : DiskAt C H d a w n D) (o : DskOn D b m)
    (k : ∀ H' w' n', DiskAt C H' d a w' n' (flushD D) → Stp (dkF d a w n) H (dkF d a w' n') H' → Q .non H') : sp_Disk_flush K C [.ref d] H Q E :=
  w_S1 ⟨d, a, w, n, D, rfl, x, o.ok, by rw [opS_id o.lf o.pw]; exact fun _ _ _ h => (by rw [o.pw] at h; cases h), by rw [opS_id o.lf o.pw]; exact fun H' w' n' a b _ => k H' w' n' a b⟩
theorem newD_on {z : Int} (h : 96 ≤ z ∧ z ≤ 256) : DskOn (newD z) z 0 := by
  have hl : (newD z).secs.length = (z * 4).toNat := List.length_replicate ..
  have rd : ∀ t : Int, t < (newD z).secs.length → 0 ≤ t → rdS (newD z) t = List.replicate 8 0 := fun t h1 h0 => by
    show (newD z).secs.getD t.toNat [] = _
    rw [List.getD_eq_getElem?_getD]
    show ((List.replicate (z * 4).toNat (List.replicate 8 (0 : Int)))[t.toNat]?).getD [] = _
    rw [List.getElem?_replicate, if_pos (by omega)]
    rfl
  exact ⟨⟨h, by rw [hl]; show ((z * 4).toNat : Int) = 4 * z; omega, fun p h => (by cases h), Nat.zero_le _⟩, rfl, rfl, rfl, fun t t0 t1 => by rw [rd t t1 t0]; rfl, Nat.le_refl 0⟩
theorem rd_new {z t : Int} (h0 : 0 ≤ t) (h1 : t < 4 * z) : rdS (newD z) t = List.replicate 8 0 := by
  show (newD z).secs.getD t.toNat [] = _
  rw [List.getD_eq_getElem?_getD]
  show ((List.replicate (z * 4).toNat (List.replicate 8 (0 : Int)))[t.toNat]?).getD [] = _
  rw [List.getElem?_replicate, if_pos (by omega)]
  rfl
theorem DiskAt.fresh {C : Ex} {H : Hp} {d a w n p : Addr} {D : DiskS} (x : DiskAt C H d a w n D) (h : H p = none) : p ∉ dkF d a w n := by
  obtain ⟨⟨_, x1⟩, ⟨_, x2, _⟩, ⟨_, x3, _⟩, ⟨_, x4, _⟩, _⟩ := x
  intro hb
  simp only [dkF, List.mem_cons, List.not_mem_nil, or_false] at hb
  rcases hb with rfl | rfl | rfl | rfl
  · rw [x1] at h; cases h
  · rw [x2] at h; cases h
  · rw [x3] at h; cases h
  · rw [x4] at h; cases h
def torn (k : Int) (r old : List Int) : List Int := r.take k.toNat ++ old.drop k.toNat
theorem torn_len {k : Int} {r old : List Int} (h : r.length = 8) (h' : old.length = 8) : (torn k r old).length = 8 := by
  unfold torn
  rw [List.length_append, List.length_take, List.length_drop]
  omega
def cutS : List (List Int) → List (Int × List Int) → List Int → List (List Int)
  | rs, [], _ => rs
  | rs, _ :: _, [] => rs
  | rs, (s, r) :: w, c :: cs => cutS (rs.set s.toNat (torn c r (rs.getD s.toNat []))) w cs
theorem cutS_e (rs : List (List Int)) (cs : List Int) : cutS rs [] cs = rs := by cases cs <;> rfl
theorem cutS_nil (rs : List (List Int)) (w : List (Int × List Int)) : cutS rs w [] = rs := by cases w <;> rfl
theorem cutS_snoc (s : Int) (r : List Int) : ∀ (w : List (Int × List Int)) (rs : List (List Int)) (cs : List Int), cutS rs (w ++ [(s, r)]) cs = match cs[w.length]? with
    | some c => (cutS rs w cs).set s.toNat (torn c r ((cutS rs w cs).getD s.toNat []))
    | none => cutS rs w cs
  | [], rs, [] => rfl
  | [], rs, c :: cs => by
    show cutS (rs.set s.toNat (torn c r (rs.getD s.toNat []))) [] cs = (cutS rs [] (c :: cs)).set s.toNat (torn c r ((cutS rs [] (c :: cs)).getD s.toNat []))
    rw [cutS_e, cutS_e]
  | p :: w, rs, [] => rfl
  | (t, q) :: w, rs, c :: cs => by
    show cutS (rs.set t.toNat (torn c q (rs.getD t.toNat []))) (w ++ [(s, r)]) cs = _
    rw [cutS_snoc s r w _ cs]
    rfl
theorem cutS_len : ∀ (w : List (Int × List Int)) (rs : List (List Int)) (cs : List Int), (cutS rs w cs).length = rs.length
  | [], rs, cs => by rw [cutS_e]
  | _ :: _, _, [] => rfl
  | (t, q) :: w, rs, c :: cs => (cutS_len w _ cs).trans (List.length_set ..)
def cutD (D : DiskS) (cs : List Int) : DiskS := { D with secs := cutS D.secs D.wr cs, wr := [], left := none, pw := true }
theorem all_btw {lo hi : Int} {xs : List V} (h : xs.all (btw lo hi) = true) : ∃ cs : List Int, xs = cs.map V.int ∧ ∀ z ∈ cs, lo ≤ z ∧ z ≤ hi := by
  induction xs with
  | nil => exact ⟨[], rfl, fun z h => by simp at h⟩
  | cons x xs ih =>
    rw [List.all_cons, Bool.and_eq_true] at h
    obtain ⟨cs, rfl, hc⟩ := ih h.2
    obtain ⟨i, rfl, h1, h2⟩ := btw_inv h.1
    refine ⟨i :: cs, rfl, fun z hz => ?_⟩
    rcases List.mem_cons.mp hz with rfl | hz
    · exact ⟨h1, h2⟩
    · exact hc z hz
/-- the lists of writes are new, the disk's own object has changed -/
theorem reset {C : Ex} {H H2 H5 : Hp} {d a w n dx w' n' : Addr} {fs : List (Str × V)} {vs : List V} {D : DiskS} (st : Stp (dkF d a w n) H (dkF d a w n) H2) (h1 : H2 d = some (.ins C.Disk dx fs)) (h2 : H2 a = some (.lst vs)) (rr : RowsAt H2 vs D.secs)
    (hw : H2 w' = none) (hn : H2 n' = none) (fr : ∀ b o, H2 b = some o → b ≠ d → H5 b = some o) (i5 : H5 d = some (dkO C dx a w' n' D)) (w5 : H5 w' = some (.lst [])) (n5 : H5 n' = some (.dK [])) (e : D.wr = []) :
    DiskAt C H5 d a w' n' D ∧ Stp (dkF d a w n) H (dkF d a w' n') H5 := by
  have rr5 : RowsAt H5 vs D.secs := rr.map fun v r ⟨l, p, ep, hp⟩ => ⟨l, p, ep, fr p _ hp (ne_of hp h1 fun z => nomatch z)⟩
  refine ⟨⟨⟨dx, i5⟩, ⟨vs, fr a _ h2 (ne_of h2 h1 fun z => nomatch z), rr5⟩, ⟨[], w5, by rw [e]; exact ⟨rfl, fun i v h => by simp at h⟩⟩, ⟨[], n5, by rw [e]; exact ⟨Nat.le_refl 0, fun _ h => by simp at h, fun s => .inl ⟨rfl, rfl⟩⟩⟩, ne_of_none h2 hw⟩, fun b o h nb => ?_, fun b hb => ?_⟩
  · exact fr b o (st.1 b o h nb) fun q => nb (by rw [q]; exact List.mem_cons_self ..)
  · rcases List.mem_cons.mp hb with rfl | hb
    · exact .inl (by simp [dkF])
    rcases List.mem_cons.mp hb with rfl | hb
    · exact .inl (by simp [dkF])
    rcases List.mem_cons.mp hb with rfl | hb
    · exact st.fresh hw
    rcases List.mem_cons.mp hb with rfl | hb
    · exact st.fresh hn
    · cases hb
def sp_Disk_cut (K : PySem.W.Frag) (C : Ex) : Sp := S2 fun x c H Q E => ∃ d a w n D q xs, x = .ref d ∧ c = .ref q ∧ DiskAt C H d a w n D ∧ DiskOk D ∧ SqL K H q xs ∧ (∀ x ∈ xs, Known K H x) ∧ q ≠ a ∧
  (xs.all (btw 0 8) = false → E (.ref C.NotValid) none H) ∧
  ∀ cs : List Int, xs = cs.map V.int → (∀ z ∈ cs, 0 ≤ z ∧ z ≤ 8) → ∀ H' w' n', DiskAt C H' d a w' n' (cutD D cs) → Stp (dkF d a w n) H (dkF d a w' n') H' → Q .non H'
def t_Disk_cut (K : PySem.W.Frag) (C : Ex) (E : XK) : TS :=
  tSeq (tIfS (tNot (uTru K (tCB (uIsi K .list) (tCons (tVar 1) (tCons (tC (.ty "list")) (tNil)))))) (uRaise C.NotValid (WB E)) (tNext))
  (tSeq (tFor (iList K (tVar 1)) (gName 2)
  (tIfS (tNot (uTru K (uCall (sp_is_between K C) (WB E) (tCons (tVar 2) (tCons (tC (.int 0)) (tCons (tC (.int 8)) (tNil))))))) (uRaise C.NotValid (WB E)) (tNext)))
  (tSeq (tFor (iEnum K (tCons (uFld C.Disk "writes" (tVar 0)) (tNil))) (gTup K 2 (gCons (gName 3) (gCons (gTup K 2 (gCons (gName 4) (gCons (gName 5) (gNil)))) (gNil))))
  (tIfS (tTest (tOp (uLt K) (tVar 3) (tCB (uLen K) (tCons (tVar 1) (tNil))))) (tSeq (tAsg (tOp (uIx K) (tVar 1) (tVar 3)) (gName 6))
  (tAsg (tOp (uAdd K) (tSl (uSl K) (tVar 5) (tNoPart) (tPart (tVar 6))) (tSl (uSl K) (tOp (uIx K) (uFld C.Disk "sectors" (tVar 0)) (tVar 4)) (tPart (tVar 6)) (tNoPart))) (gSub (uFld C.Disk "sectors" (tVar 0)) (tVar 4) uSet))) (tNext)))
  (tSeq (uSetF C.Disk "writes" (tVar 0) (tLst (tNil)))
  (tSeq (uSetF C.Disk "newest" (tVar 0) (tDNewK))
  (tSeq (uSetF C.Disk "left" (tVar 0) (tC .non))
  (uSetF C.Disk "power" (tVar 0) (tC (.bl true))))))))
theorem pure_Disk_cut {K : PySem.W.Frag} {C : Ex} {vs : List V} {H : Hp} {Q : VK} {E : XK} (F : Fa K C) (h : sp_Disk_cut K C vs H Q E) : t_Disk_cut K C E { nx := fun _ H' => Q .non H', rt := Q } (start ["self", "choices", "choice", "index", "sector", "words", "kept"] vs) H := by
  obtain ⟨x, c, rfl, d, a, w, n, D, q, xs, rfl, rfl, hD, ok, hq, hk, nqa, k1, k2⟩ := h
  obtain ⟨⟨dx, i⟩, ⟨vs, e1, r1⟩, ⟨ws, e2, r2⟩, ⟨kvs, e3, r3⟩, ne⟩ := hD
  have hsz := ok.sz
  have hbl := ok.bl
  have hdk := i
  unfold dkO at i
  unfold t_Disk_cut
  walk_at "run1"
  refine w_isi_list_L hq ?_
  walk_at "run1"
  refine f_list (xs := xs) (fun i σ H1 => H1 = H ∧ (∃ v2, σ = [some (.ref d), some (.ref q), v2, none, none, none, none]) ∧ (xs.take i).all (btw 0 8) = true) ⟨rfl, ⟨none, rfl⟩, rfl⟩ (by rintro i σ H1 _ ⟨rfl, _⟩; exact hq) ?_ ?_
  · rintro i x σ H1 hx ⟨rfl, ⟨v2, rfl⟩, ha⟩
    walk_at "run1"
    refine w_S3 ⟨0, 8, rfl, rfl, hk x (List.mem_of_getElem? hx), ?_⟩
    walk_at "run1"
    refine ifBN (fun hf => ?_) (fun ht => ?_)
    · walk_at "run1"
      exact k1 (all_not hx hf)
    · walk_at "run1"
      exact ⟨rfl, ⟨_, rfl⟩, all_take hx ha ht⟩
  rintro σ H1 ⟨rfl, ⟨v2, rfl⟩, ha⟩
  rw [List.take_length] at ha
  obtain ⟨cs, rfl, hcs⟩ := all_btw ha
  have k2 := k2 cs rfl hcs
  clear k1 ha hk
  walk_at "run1"
  refine f_enum (xs := ws) (fun i σ H2 => ∃ v3 v4 v5 v6, σ = [some (.ref d), some (.ref q), v2, v3, v4, v5, v6] ∧ H2 d = some (dkO C dx a w n D) ∧ (∃ vs, H2 a = some (.lst vs) ∧ RowsAt H2 vs (cutS D.secs (D.wr.take i) cs)) ∧ H2 w = some (.lst ws) ∧ WrsAt H2 ws D.wr ∧ SqL K H2 q (cs.map V.int) ∧ Stp (dkF d a w n) H1 (dkF d a w n) H2)
    ⟨none, none, none, none, rfl, hdk, ⟨vs, e1, by rw [List.take_zero, cutS_e]; exact r1⟩, e2, r2, hq, .refl⟩ (by rintro i σ H2 _ ⟨_, _, _, _, _, _, _, h, _⟩; exact SqL.of h) ?_ ?_
  · rintro i x σ H2 T hx ⟨v3, v4, v5, v6, rfl, h1, ⟨vs, h2, rr⟩, h3, h4, hq2, st⟩ hT
    obtain ⟨s, r, hsr, t, y, rfl, et, ry⟩ := h4.2 _ _ hx
    obtain ⟨l8, py, rfl, ey⟩ := ry
    have wk := ok.wk _ (List.mem_of_getElem? hsr)
    have hs0 : 0 ≤ s := wk.1
    have hs1 : s < 4 * D.blocks := wk.2
    have hiw : i < D.wr.length := (List.getElem?_eq_some_iff.mp hsr).1
    have hlr : vs.length = D.secs.length := by rw [rr.1, cutS_len]
    have htk : (D.wr.take i).length = i := by rw [List.length_take]; omega
    have sT : Same H2 (upd H2 T (.tup [.int (i : Nat), .ref t])) := same_new hT
    have eT : upd H2 T (.tup [.int (i : Nat), .ref t]) T = some (.tup [.int (i : Nat), .ref t]) := upd_same
    generalize upd H2 T (.tup [.int (i : Nat), .ref t]) = H3 at *
    have h13 := sT _ _ h1
    have h23 := sT _ _ h2
    have h33 := sT _ _ h3
    have et3 := sT _ _ et
    have ey3 := sT _ _ ey
    have hq3 := sT.seq hq2
    have rr3 := rr.same sT
    have h43 := h4.map (fun _ _ y => y.same sT) fun _ _ e => sT _ _ e
    have st3 := st.trans (.same sT)
    unfold dkO at h13
    walk_at "run1"
    · rename_i hlt
      have hc : i < cs.length := by simp only [List.length_map] at hlt; omega
      have hcc : cs[i]? = some (cs.getD (i : Int).toNat 0) := by rw [Int.toNat_natCast, List.getD_eq_getElem?_getD, List.getElem?_eq_getElem hc]; rfl
      have hc8 := hcs _ (List.mem_of_getElem? hcc)
      generalize cs.getD (i : Int).toNat 0 = cc at *
      refine w_slL (SqL.of ey3) fun l hl => ?_
      rw [show cutV (r.map V.int) none (some cc) = (r.take cc.toNat).map V.int by
        have z := cut_take (r.map V.int) cc.toNat
        rw [show ((cc.toNat : Nat) : Int) = cc by omega] at z
        rw [z, List.map_take]]
      have s4 : Same H3 (upd H3 l (.lst ((r.take cc.toNat).map V.int))) := same_new hl
      have e4 : upd H3 l (.lst ((r.take cc.toNat).map V.int)) l = some (.lst ((r.take cc.toNat).map V.int)) := upd_same
      generalize upd H3 l (.lst ((r.take cc.toNat).map V.int)) = H4 at *
      have h14 := s4 _ _ h13
      have hsn : s.toNat < vs.length := by omega
      obtain ⟨ro, ero, lo8, po, epo, hpo⟩ := (rr3.same s4).2 s.toNat _ (List.getElem?_eq_getElem hsn)
      walk_at "run1"
      refine w_ixL (k := s.toNat) (SqL.of (s4 _ _ h23)) (by omega) ((List.getElem?_eq_getElem hsn).trans (by rw [epo])) ?_
      walk_at "run1"
      refine w_slL (SqL.of hpo) fun l2 hl2 => ?_
      rw [show cutV (ro.map V.int) (some cc) none = (ro.drop cc.toNat).map V.int by
        have z := cut_drop (ro.map V.int) cc.toNat
        rw [show ((cc.toNat : Nat) : Int) = cc by omega] at z
        rw [z, List.map_drop]]
      refine w_cat (upd_old e4 hl2) upd_same (by rw [List.length_map, List.length_map, List.length_take, List.length_drop]; omega) fun l3 hl3 => ?_
      rw [← List.map_append]
      have s5 := same_updN (o := .lst ((r.take cc.toNat ++ ro.drop cc.toNat).map V.int)) (same_new (o := .lst ((ro.drop cc.toNat).map V.int)) hl2) hl3
      have rl : RowAt (upd (upd H4 l2 (.lst ((ro.drop cc.toNat).map V.int))) l3 (.lst ((r.take cc.toNat ++ ro.drop cc.toNat).map V.int))) (.ref l3) (torn cc r ro) := .of (torn_len l8 lo8) upd_same
      generalize upd (upd H4 l2 _) l3 _ = H5 at *
      have s35 := s4.trans s5
      have h15 := s5 _ _ h14
      have h25 := s35 _ _ h23
      walk_at "run1"
      refine w_setL h25 ⟨hs0, hsn⟩ ?_
      have pa := plain_refs rr.ref
      have fr6 := row_upd (o := .lst (vs.set s.toNat (.ref l3))) h25 pa
      have ft6 := tup_upd (o := .lst (vs.set s.toNat (.ref l3))) h25 pa
      refine ⟨_, _, _, _, rfl, upd_oth h15 (ne_of h15 h25 fun z => nomatch z), ⟨_, upd_same, ?_⟩, upd_oth (s35 _ _ h33) ne.symm, (h43.map (fun _ _ y => y.same s35) fun _ _ e => s35 _ _ e).map fr6 ft6, sql_oth (s35.seq hq3) nqa, (st3.trans (.same s35)).upd (by simp [dkF])⟩
      rw [take_snoc hsr, cutS_snoc, htk, hcc]
      dsimp only
      rw [show (cutS D.secs (D.wr.take i) cs).getD s.toNat [] = ro by rw [List.getD_eq_getElem?_getD, ero]; rfl]
      exact ((rr3.same s35).map fr6).set (fr6 _ _ rl)
    · walk_at "run1"
      rename_i hlt
      have hc : cs[i]? = none := List.getElem?_eq_none (by simp only [List.length_map] at hlt; omega)
      refine ⟨_, _, _, _, rfl, h13, ⟨vs, h23, ?_⟩, h33, h43, hq3, st3⟩
      rw [take_snoc hsr, cutS_snoc, htk, hc]
      exact rr3
  · rintro σ H2 ⟨v3, v4, v5, v6, rfl, h1, ⟨vs, h2, rr⟩, h3, h4, hq2, st⟩
    rw [r2.1, List.take_length] at rr
    unfold dkO at h1
    walk_at "run1"
    rename_i w' hw' n' hn'
    have nwd : w' ≠ d := (ne_of_none h1 hw').symm
    have hn2 := none_of_upd (none_of_upd hn').1
    have nnd : n' ≠ d := (none_of_upd hn').2
    have nnw : n' ≠ w' := hn2.2
    obtain ⟨g1, g2⟩ := reset (C := C) (D := cutD D cs) (w' := w') (n' := n') (H5 := upd (upd (upd (upd (upd (upd H2 w' (.lst [])) d (.ins C.Disk dx [("blocks", .int D.blocks), ("sectors", .ref a), ("writes", .ref w'), ("newest", .ref n), ("left", optI D.left), ("power", .bl D.pw)])) n' (.dK [])) d (.ins C.Disk dx [("blocks", .int D.blocks), ("sectors", .ref a), ("writes", .ref w'), ("newest", .ref n'), ("left", optI D.left), ("power", .bl D.pw)])) d (.ins C.Disk dx [("blocks", .int D.blocks), ("sectors", .ref a), ("writes", .ref w'), ("newest", .ref n'), ("left", .non), ("power", .bl D.pw)])) d (dkO C dx a w' n' (cutD D cs)))
      st h1 h2 rr hw' hn2.1 (fun b o h nb => by
        rw [upd_ne nb, upd_ne nb, upd_ne nb, upd_ne (ne_of_none h hn2.1), upd_ne nb, upd_ne (ne_of_none h hw')]; exact h) upd_same
      (by rw [upd_ne nwd, upd_ne nwd, upd_ne nwd, upd_ne nnw.symm, upd_ne nwd]; exact upd_same) (by rw [upd_ne nnd, upd_ne nnd, upd_ne nnd]; exact upd_same) rfl
    exact k2 _ w' n' g1 g2
def imgD (D : DiskS) : List (List Int) := (List.range D.secs.length).map fun i => rdS D (i : Nat)
theorem lastW_mem {s : Int} {r : List Int} : ∀ {w : List (Int × List Int)}, lastW w s = some r → ∃ p ∈ w, p.1 = s
  | [], h => by cases h
  | (t, q) :: w, h => by
    have e : (match lastW w s with | some q => some q | none => if s = t then some q else none) = some r := h
    cases e2 : lastW w s with
    | some q2 =>
      obtain ⟨p, hp, hs⟩ := lastW_mem e2
      exact ⟨p, List.mem_cons_of_mem _ hp, hs⟩
    | none =>
      rw [e2] at e
      dsimp only at e
      by_cases q3 : s = t
      · exact ⟨(t, q), List.mem_cons_self .., q3.symm⟩
      · rw [if_neg q3] at e; cases e
def sp_Disk_image (K : PySem.W.Frag) (C : Ex) : Sp := S1 fun x H Q _ => ∃ d a w n D, x = .ref d ∧ DiskAt C H d a w n D ∧ DiskOk D ∧
  ∀ p, H p = none → ∀ H' vs, Same H H' → H' p = some (.lst vs) → RowsAt H' vs (imgD D) → NewL H vs → Q (.ref p) H'
def t_Disk_image (K : PySem.W.Frag) (C : Ex) (E : XK) : TS :=
  tSeq (tAsg (uMeth C.Disk "lasting" (sp_Disk_lasting K C) (WB E) (tVar 0) (tNil)) (gName 1))
  (tSeq (tLock (tFor (iKeys (uFld C.Disk "newest" (tVar 0))) (gName 2)
  (tAsg (tCB (uList K) (tCons (tDGet (uFld C.Disk "newest" (tVar 0)) (tVar 2)) (tNil))) (gSub (tVar 1) (tVar 2) uSet))))
  (tRet (tVar 1)))
theorem pure_Disk_image {K : PySem.W.Frag} {C : Ex} {vs : List V} {H : Hp} {Q : VK} {E : XK} (F : Fa K C) (h : sp_Disk_image K C vs H Q E) : t_Disk_image K C E { nx := fun _ H' => Q .non H', rt := Q } (start ["self", "rows", "sector"] vs) H := by
  obtain ⟨x, rfl, d, a, w, n, D, rfl, hD, ok, k⟩ := h
  have hD' := hD
  obtain ⟨⟨dx, i⟩, ⟨vs, e1, r1⟩, ⟨ws, e2, r2⟩, ⟨kvs, e3, r3⟩, ne⟩ := hD
  unfold dkO at i
  have hsz := ok.sz
  have hbl := ok.bl
  unfold t_Disk_image
  walk_at "run1"
  refine w_S1 ⟨d, a, w, n, D, rfl, hD', by omega, fun p hp H1 us s1 ep rp nw0 => ?_⟩
  have e31 := s1 _ _ e3
  have i1 := s1 _ _ i
  have r31 := r3.map fun _ _ y => y.same s1
  have pnn : p ≠ n := (ne_of_none e3 hp).symm
  have pnd : p ≠ d := (ne_of_none i hp).symm
  walk_at "run1"
  refine ⟨n, _, e31, trivial, fun od => ?_⟩
  have i2 : upd H1 n (.frz od (.dK kvs)) d = _ := upd_oth i1 (ne_of i1 e31 fun z => nomatch z)
  have p2 : upd H1 n (.frz od (.dK kvs)) p = _ := upd_oth ep pnn
  have fr2 : ∀ b o, H b = some o → b ≠ n → upd H1 n (.frz od (.dK kvs)) b = some o := fun b o h q => upd_oth (s1 _ _ h) q
  have n2 : upd H1 n (.frz od (.dK kvs)) n = some (.frz od (.dK kvs)) := upd_same
  have rw2 := row_upd (o := .frz od (.dK kvs)) e31 plain_dK
  have rp2 := rp.map rw2
  have r32 := r31.map rw2
  generalize upd H1 n (.frz od (.dK kvs)) = H2 at *
  refine w_for ?_
  unfold iKeys
  walk_at "run1"
  refine ⟨n, od, rfl, .inl ⟨kvs, n2, ?_⟩⟩
  refine f_any (n := kvs.length) (item := fun i x => ∃ k v, kvs[i]? = some (k, v) ∧ x = kV k)
    (fun i σ H3 => ∃ v2, σ = [some (.ref d), some (.ref p), v2] ∧ H3 n = some (.frz od (.dK kvs)) ∧ (∃ dx, H3 d = some (dkO C dx a w n D)) ∧ (∀ b o, H b = some o → b ≠ n → H3 b = some o) ∧ NwAt H3 kvs D.wr ∧ ∃ us rs, H3 p = some (.lst us) ∧ RowsAt H3 us rs ∧ rs.length = D.secs.length ∧ NewL H us ∧
      ∀ j : Nat, j < D.secs.length → ((∃ i' v, i' < i ∧ kvs[i']? = some (Sum.inl (j : Int), v)) → rs.getD j [] = rdS D (j : Nat)) ∧ ((¬ ∃ i' v, i' < i ∧ kvs[i']? = some (Sum.inl (j : Int), v)) → rs.getD j [] = D.secs.getD j []))
    ⟨none, rfl, n2, ⟨dx, i2⟩, fr2, r32, us, D.secs, p2, rp2, rfl, nw0, fun j hj => ⟨fun ⟨_, _, h, _⟩ => absurd h (by omega), fun _ => rfl⟩⟩ ?_ ?_ ?_ ?_
  · rintro i σ H3 hi ⟨v2, rfl, h3n, _⟩
    exact ⟨⟨h3n, hi⟩, fun x H' y => y⟩
  · rintro σ H3 ⟨v2, rfl, h3n, _⟩
    exact ⟨h3n, Nat.le_refl _⟩
  · rintro i x σ H3 hi ⟨kk, v, hkv, rfl⟩ ⟨v2, rfl, h3n, ⟨dx3, h3d⟩, fr3, r33, us, rs, h3p, rp3, lr, nw, hj⟩
    obtain ⟨s, hs⟩ := r33.2.1 _ (List.mem_of_getElem? hkv)
    have hs : kk = Sum.inl s := hs
    subst hs
    rcases r33.2.2 s with ⟨y, _⟩ | ⟨v', r, hv', hlw, h8, q, rfl, hq⟩
    · exfalso
      unfold valV at y
      rw [Option.map_eq_none_iff, List.find?_eq_none] at y
      exact y _ (List.mem_of_getElem? hkv) (decide_eq_true rfl)
    · have er : rdS D s = r := by unfold rdS; rw [hlw]; rfl
      obtain ⟨pw, hpw, es⟩ := lastW_mem hlw
      have bs := ok.wk pw hpw
      rw [es] at bs
      unfold dkO at h3d
      rw [show kV (Sum.inl s) = V.int s from rfl]
      walk_at "run1"
      refine ⟨n, _, rfl, .inl ⟨kvs, .inl s, .inr ⟨od, h3n⟩, rfl, hv'.symm⟩, ?_⟩
      walk_at "run1"
      refine w_tlist (SqL.of hq) fun l hl => ?_
      have s4 : Same H3 (upd H3 l (.lst (r.map V.int))) := same_new hl
      have rl : RowAt (upd H3 l (.lst (r.map V.int))) (.ref l) r := .of h8 upd_same
      have hl0 : H l = none := by
        cases e0 : H l with
        | none => rfl
        | some o =>
          by_cases q : l = n
          · rw [q, h3n] at hl; cases hl
          · rw [fr3 l o e0 q] at hl; cases hl
      generalize upd H3 l (.lst (r.map V.int)) = H4 at *
      walk_at "run1"
      refine w_setL (s4 _ _ h3p) ⟨bs.1, by rw [rp3.1, lr]; omega⟩ ?_
      have pl := plain_refs rp3.ref
      have rw5 := row_upd (o := .lst (us.set s.toNat (.ref l))) (s4 _ _ h3p) pl
      refine ⟨_, rfl, upd_oth (s4 _ _ h3n) pnn.symm, ⟨dx3, upd_oth (s4 _ _ h3d) pnd.symm⟩, fun b o h e => upd_oth (s4 _ _ (fr3 b o h e)) (ne_of_none h hp), (r33.map fun _ _ y => y.same s4).map rw5, _, rs.set s.toNat r, upd_same, ((rp3.same s4).map rw5).set (rw5 _ _ rl), by rw [List.length_set]; exact lr, nw.set rp3 hl hl0, fun j hj2 => ?_⟩
      obtain ⟨g1, g2⟩ := hj j hj2
      by_cases e : (j : Int) = s
      · have ej : s.toNat = j := by omega
        have e5 : (rs.set s.toNat r).getD j [] = rdS D (j : Nat) := by rw [ej, List.getD_eq_getElem?_getD, List.getElem?_set_self (by omega), e, er]; rfl
        exact ⟨fun _ => e5, fun z => absurd ⟨i, v, by omega, by rw [hkv, e]⟩ z⟩
      · have ej : s.toNat ≠ j := by omega
        have e5 : (rs.set s.toNat r).getD j [] = rs.getD j [] := by rw [List.getD_eq_getElem?_getD, List.getElem?_set_ne ej, List.getD_eq_getElem?_getD]
        rw [e5]
        have same : (∃ i' v, i' < i + 1 ∧ kvs[i']? = some (Sum.inl (j : Int), v)) ↔ ∃ i' v, i' < i ∧ kvs[i']? = some (Sum.inl (j : Int), v) := by
          refine ⟨fun ⟨i', v2, h1, h2⟩ => ?_, fun ⟨i', v2, h1, h2⟩ => ⟨i', v2, by omega, h2⟩⟩
          rcases Nat.lt_or_ge i' i with z | z
          · exact ⟨i', v2, z, h2⟩
          · obtain rfl : i' = i := by omega
            rw [hkv] at h2
            exact absurd (Sum.inl.inj (Prod.mk.inj (Option.some.inj h2)).1).symm e
        rw [same]
        exact ⟨g1, g2⟩
  · rintro σ H3 ⟨v2, rfl, h3n, _, fr3, r33, us, rs, h3p, rp3, lr, nw, hj⟩
    refine ⟨h3n, ?_⟩
    have rw4 : ∀ v r, RowAt H3 v r → RowAt (upd H3 n (.dK kvs)) v r := fun _ r x => x.upd h3n fun _ e => nomatch e
    have s4 : Same H (upd H3 n (.dK kvs)) := fun b o h => by
      by_cases e : b = n
      · subst e; rw [upd_same]; rw [e3] at h; exact h
      · rw [upd_ne e]; exact fr3 b o h e
    walk_at "run1"
    refine k p hp _ us s4 (upd_oth h3p pnn) ?_ nw
    have er : rs = imgD D := by
      refine List.ext_getElem (by unfold imgD; rw [lr, List.length_map, List.length_range]) fun j h1 h2 => ?_
      have hl : j < D.secs.length := by omega
      obtain ⟨g1, g2⟩ := hj j hl
      have e0 : rs.getD j [] = rs[j] := by rw [List.getD_eq_getElem?_getD, List.getElem?_eq_getElem h1]; rfl
      have e8 : (imgD D)[j]? = some (rdS D (j : Nat)) := by unfold imgD; rw [List.getElem?_map, List.getElem?_range hl]; rfl
      have e9 : (imgD D)[j] = rdS D (j : Nat) := (List.getElem?_eq_some_iff.mp e8).2
      rw [e9, ← e0]
      by_cases q : ∃ i' v, i' < kvs.length ∧ kvs[i']? = some (Sum.inl (j : Int), v)
      · exact g1 q
      · rw [g2 q]
        rcases r33.2.2 (j : Int) with ⟨_, y⟩ | ⟨v, r, y, _⟩
        · unfold rdS; rw [y]; rfl
        · exfalso
          apply q
          unfold valV at y
          rw [Option.map_eq_some_iff] at y
          obtain ⟨kv, hf, _⟩ := y
          have hm := List.mem_of_find?_eq_some hf
          have hk := List.find?_some hf
          obtain ⟨i', hi'⟩ := List.getElem?_of_mem hm
          refine ⟨i', kv.2, (List.getElem?_eq_some_iff.mp hi').1, ?_⟩
          rw [hi', ← of_decide_eq_true hk]
    rw [← er]
    exact rp3.map rw4
theorem imgD_at {D : DiskS} {i : Nat} (h : i < D.secs.length) : (imgD D)[i]? = some (rdS D (i : Nat)) := by
  unfold imgD
  rw [List.getElem?_map, List.getElem?_range h]
  rfl
def sp__law_zeros (K : PySem.W.Frag) (_ : Ex) : Sp := S0 fun H Q _ => ∀ l, H l = none → Q (.ref l) (upd H l (.lst ((List.replicate 8 (0 : Int)).map V.int)))
def t__law_zeros (K : PySem.W.Frag) (C : Ex) (E : XK) : TS :=
  tRet (tLst (tCons (tC (.int 0)) (tCons (tC (.int 0)) (tCons (tC (.int 0)) (tCons (tC (.int 0)) (tCons (tC (.int 0)) (tCons (tC (.int 0)) (tCons (tC (.int 0)) (tCons (tC (.int 0)) (tNil))))))))))
theorem pure__law_zeros {K : PySem.W.Frag} {C : Ex} {vs : List V} {H : Hp} {Q : VK} {E : XK} (F : Fa K C) (h : sp__law_zeros K C vs H Q E) : t__law_zeros K C E { nx := fun _ H' => Q .non H', rt := Q } (start [] vs) H := by
  obtain ⟨rfl, k⟩ := h
  unfold t__law_zeros
  walk_at "run1"
  rename_i l hl
  exact k l hl
def sp__law_equal (K : PySem.W.Frag) (_ : Ex) : Sp := S2 fun a b H Q _ => ∃ (p q : Addr) (r : List Int), a = .ref p ∧ b = .ref q ∧ SqL K H p (r.map V.int) ∧ SqL K H q (r.map V.int) ∧ r.length = 8 ∧ Q (.bl true) H
def t__law_equal (K : PySem.W.Frag) (C : Ex) (E : XK) : TS :=
  tSeq (tIfS (tOr (tNot (uTru K (tCB (uIsi K .list) (tCons (tVar 0) (tCons (tC (.ty "list")) (tNil)))))) (tTest (tOp (uNe K) (tCB (uLen K) (tCons (tVar 0) (tNil))) (tC (.int 8))))) (tRet (tC (.bl false))) (tNext))
  (tSeq (tFor (iRng1 (tCons (tC (.int 8)) (tNil))) (gName 2)
  (tIfS (tOr (tNot (uTru K (tCB (uIsi K .int) (tCons (tOp (uIx K) (tVar 0) (tVar 2)) (tCons (tC (.ty "int")) (tNil)))))) (tOr (uTru K (tCB (uIsi K .bool) (tCons (tOp (uIx K) (tVar 0) (tVar 2)) (tCons (tC (.ty "bool")) (tNil))))) (tTest (tOp (uNe K) (tOp (uIx K) (tVar 0) (tVar 2)) (tOp (uIx K) (tVar 1) (tVar 2)))))) (tRet (tC (.bl false))) (tNext)))
  (tRet (tC (.bl true))))
theorem pure__law_equal {K : PySem.W.Frag} {C : Ex} {vs : List V} {H : Hp} {Q : VK} {E : XK} (F : Fa K C) (h : sp__law_equal K C vs H Q E) : t__law_equal K C E { nx := fun _ H' => Q .non H', rt := Q } (start ["_law_told", "_law_due_here", "_law_j"] vs) H := by
  obtain ⟨a, b, rfl, p, q, r, rfl, rfl, hp, hq, h8, k⟩ := h
  unfold t__law_equal
  walk_at "run1"
  refine w_isi_list_L hp ?_
  walk_at "run1"
  · rename_i h
    rw [List.length_map] at h
    omega
  · walk_at "run1"
    refine f_range (fun i σ H1 => H1 = H ∧ ∃ v2, σ = [some (.ref p), some (.ref q), v2]) ⟨rfl, none, rfl⟩ ?_ ?_
    · rintro i σ H1 hi ⟨rfl, v2, rfl⟩
      have hi' : i < 8 := hi
      walk_at "run1"
      exact ⟨rfl, _, rfl⟩
    · rintro σ H1 ⟨rfl, v2, rfl⟩
      walk_at "run1"
      exact k
/-- what the law's own words are -/
def wordsF (n e : Int) : List Int := if e % 11 = 5 then [0, 0, 0, 0, 0, 0, 0, n] else
  let r := (List.range 8).map fun j : Nat => (n * ((j : Int) + 3) + e * (j : Int) * (j : Int)) % 1009
  if e % 7 = 3 then r.set (e % 8).toNat (n ^ 9) else r
def sp__law_words (K : PySem.W.Frag) (_ : Ex) : Sp := S2 fun a b H Q _ => ∃ n e : Int, a = .int n ∧ b = .int e ∧ (0 ≤ n ∧ n < 1000) ∧ (0 ≤ e ∧ e < 1000) ∧ ∀ l, H l = none → ∀ H', Same H H' → H' l = some (.lst ((wordsF n e).map V.int)) → Q (.ref l) H'
def t__law_words (K : PySem.W.Frag) (C : Ex) (E : XK) : TS :=
  tSeq (tAsg (tLc (iRng1 (tCons (tC (.int 8)) (tNil))) (gName 3) (tYes) (tOp (uMod) (tCB (uInt) (tCons (tOp (uAdd K) (tOp (uMul) (tVar 0) (tOp (uAdd K) (tVar 3) (tC (.int 3)))) (tOp (uMul) (tOp (uMul) (tVar 1) (tVar 3)) (tVar 3))) (tNil))) (tC (.int 1009))) [3]) (gName 2))
  (tCut (tIfS (tTest (tOp (uEq K) (tOp (uMod) (tVar 1) (tC (.int 7))) (tC (.int 3)))) (tAsg (tOp (uPow) (tVar 0) (tC (.int 9))) (gSub (tVar 2) (tOp (uMod) (tVar 1) (tC (.int 8))) uSet)) (tNext))
  (tCut (tIfS (tTest (tOp (uEq K) (tOp (uMod) (tVar 1) (tC (.int 11))) (tC (.int 5)))) (tAsg (tLst (tCons (tC (.int 0)) (tCons (tC (.int 0)) (tCons (tC (.int 0)) (tCons (tC (.int 0)) (tCons (tC (.int 0)) (tCons (tC (.int 0)) (tCons (tC (.int 0)) (tCons (tVar 0) (tNil)))))))))) (gName 2)) (tNext))
  (tRet (tVar 2))))
theorem pure__law_words {K : PySem.W.Frag} {C : Ex} {vs : List V} {H : Hp} {Q : VK} {E : XK} (F : Fa K C) (h : sp__law_words K C vs H Q E) : t__law_words K C E { nx := fun _ H' => Q .non H', rt := Q } (start ["_law_number", "_law_extra", "_law_words_here", "_law_j"] vs) H := by
  obtain ⟨a, b, rfl, n, e, rfl, rfl, hn, he, k⟩ := h
  unfold t__law_words
  walk_at "run1"
  refine l_range (fun b i H1 => Same H H1 ∧ H1 b = some (.lst (((List.range i).map fun j : Nat => (n * ((j : Int) + 3) + e * (j : Int) * (j : Int)) % 1009).map V.int))) (fun b hb => ⟨same_new hb, upd_same⟩) ?_ ?_
  · rintro b i H1 hb hi ⟨s1, h1⟩
    have hi' : i < 8 := hi
    walk_at "run1"
    refine ⟨rfl, ?_⟩
    walk_at "run1"
    refine ⟨_, h1, by rw [List.length_map, List.length_map, List.length_range]; exact lt_line (by omega), same_upd s1 hb, ?_⟩
    rw [upd_same, List.range_succ, List.map_append, List.map_append, show (0 + (i : Int)) = (i : Int) by omega]
    rfl
  · rintro b H1 hb ⟨s1, h1⟩
    have e8 : (8 : Int).toNat = 8 := rfl
    rw [e8] at h1
    walk_at "run1"
    refine w_cut (fun σ H2 => Same H H2 ∧ ∃ v3 : Option V, σ = [some (.int n), some (.int e), some (.ref b), v3] ∧ H2 b = some (.lst ((if e % 7 = 3 then ((List.range 8).map fun j : Nat => (n * ((j : Int) + 3) + e * (j : Int) * (j : Int)) % 1009).set (e % 8).toNat (n ^ 9) else ((List.range 8).map fun j : Nat => (n * ((j : Int) + 3) + e * (j : Int) * (j : Int)) % 1009)).map V.int))) ?_ ?_
    · walk_at "run1"
      · rename_i h
        refine w_setL h1 ⟨by omega, by rw [List.length_map, List.length_map, List.length_range]; omega⟩ ?_
        rw [if_pos h]
        refine ⟨same_upd s1 hb, none, rfl, ?_⟩
        rw [upd_same, List.map_set]
        rfl
      · rename_i h
        rw [if_neg h]
        exact ⟨s1, none, rfl, h1⟩
    · rintro σ H2 ⟨s2, v3, rfl, h2⟩
      walk_at "run1"
      refine w_cut (fun σ H3 => Same H H3 ∧ ∃ (v3 : Option V) (l : Addr), σ = [some (.int n), some (.int e), some (.ref l), v3] ∧ H l = none ∧ H3 l = some (.lst ((wordsF n e).map V.int))) ?_ ?_
      · unfold wordsF
        walk_at "run1"
        · rename_i h l hl
          rw [if_pos h]
          exact ⟨same_updN s2 hl, _, l, rfl, s2.free hl, upd_same⟩
        · walk_at "run1"
          rename_i h
          rw [if_neg h]
          exact ⟨s2, _, b, rfl, hb, h2⟩
      · rintro σ H3 ⟨s3, v3, l, rfl, hl, h3⟩
        walk_at "run1"
        exact k l hl H3 s3 h3
theorem wordsF_row {n e : Int} (hn : 0 ≤ n) : Row8 (wordsF n e) := by
  have pw : ∀ k : Nat, 0 ≤ n ^ k := fun k => by
    induction k with
    | zero => rw [Int.pow_zero]; decide
    | succ k ih => rw [Int.pow_succ]; exact Int.mul_nonneg ih hn
  have base : Row8 ((List.range 8).map fun j : Nat => (n * ((j : Int) + 3) + e * (j : Int) * (j : Int)) % 1009) := ⟨by rw [List.length_map, List.length_range], fun z hz => by
    obtain ⟨j, _, rfl⟩ := List.mem_map.mp hz
    exact Int.emod_nonneg _ (by decide)⟩
  unfold wordsF
  split
  · exact ⟨rfl, by simp; exact hn⟩
  · dsimp only
    split
    · exact base.set (pw 9)
    · exact base
abbrev z8 : List Int := List.replicate 8 0
theorem lastW_append (u v : List (Int × List Int)) (s : Int) : lastW (u ++ v) s = match lastW v s with | some q => some q | none => lastW u s := by
  induction u with
  | nil => show lastW v s = _; cases lastW v s <;> rfl
  | cons p u ih =>
    obtain ⟨t, r⟩ := p
    show (match lastW (u ++ v) s with | some q => some q | none => if s = t then some r else none) = _
    rw [ih]
    cases e : lastW v s with
    | some q => rfl
    | none => rfl
theorem lastW_at {ws : List (Int × List Int)} {s : Int} {r : List Int} {j : Nat} (h : ws[j]? = some (s, r)) (hn : lastW (ws.drop (j + 1)) s = none) : lastW ws s = some r := by
  obtain ⟨hl, he⟩ := List.getElem?_eq_some_iff.mp h
  rw [← List.take_append_drop j ws, lastW_append, List.drop_eq_getElem_cons hl, he]
  show (match (match lastW (ws.drop (j + 1)) s with | some q => some q | none => if s = s then some r else none) with | some q => some q | none => _) = some r
  rw [hn, if_pos rfl]
theorem lastW_skip {ws : List (Int × List Int)} {s t : Int} {r : List Int} {j : Nat} (h : ws[j]? = some (t, r)) (hn : lastW (ws.drop (j + 1)) s = none) (hne : t ≠ s) : lastW (ws.drop j) s = none := by
  obtain ⟨hl, he⟩ := List.getElem?_eq_some_iff.mp h
  rw [List.drop_eq_getElem_cons hl, he]
  show (match lastW (ws.drop (j + 1)) s with | some q => some q | none => if s = t then some r else none) = none
  rw [hn, if_neg fun q => hne q.symm]
def cutL : List (Int × List Int) → List (Int × List Int) → List Int → List (Int × List Int)
  | ls, [], _ => ls
  | ls, (s, r) :: w, cs => cutL (ls ++ [(s, torn (cs.headD 0) r ((lastW ls s).getD z8))]) w cs.tail
theorem cutL_snoc (s : Int) (r : List Int) : ∀ (w ls : List (Int × List Int)) (cs : List Int), cutL ls (w ++ [(s, r)]) cs = cutL ls w cs ++ [(s, torn (cs.getD w.length 0) r ((lastW (cutL ls w cs) s).getD z8))]
  | [], ls, [] => rfl
  | [], ls, c :: cs => rfl
  | (t, q) :: w, ls, cs => by
    show cutL (ls ++ [(t, torn (cs.headD 0) q ((lastW ls t).getD z8))]) (w ++ [(s, r)]) cs.tail = _
    rw [cutL_snoc s r w _ cs.tail]
    have e : cs.tail.getD w.length 0 = cs.getD ((t, q) :: w).length 0 := by cases cs <;> rfl
    rw [e]
    rfl
theorem cutL_len : ∀ (w ls : List (Int × List Int)) (cs : List Int), (cutL ls w cs).length = ls.length + w.length
  | [], ls, cs => rfl
  | (t, q) :: w, ls, cs => by
    show (cutL (ls ++ [_]) w cs.tail).length = _
    rw [cutL_len w _ cs.tail, List.length_append, List.length_cons, List.length_cons, List.length_nil]
    omega
/-- the disk's sectors are what lasts -/
def Agr (rs : List (List Int)) (ls : List (Int × List Int)) : Prop := ∀ t : Nat, t < rs.length → rs.getD t [] = (lastW ls t).getD z8
theorem Agr.cut : ∀ (w : List (Int × List Int)) (rs : List (List Int)) (ls : List (Int × List Int)) (cs : List Int), Agr rs ls → (∀ p ∈ w, 0 ≤ p.1 ∧ p.1 < rs.length) → Agr (cutS rs w cs) (cutL ls w cs)
  | [], rs, ls, cs, h, _ => by rw [cutS_e]; exact h
  | (s, r) :: w, rs, ls, [], h, hw => by
    rw [cutS_nil]
    have z := Agr.cut w rs (ls ++ [(s, torn 0 r ((lastW ls s).getD z8))]) [] (fun t ht => ?_) fun p hp => hw p (List.mem_cons_of_mem _ hp)
    · rw [cutS_nil] at z; exact z
    · rw [lastW_snoc]
      split
      · rename_i e
        have e2 : torn 0 r ((lastW ls s).getD z8) = (lastW ls s).getD z8 := rfl
        rw [e2, ← e]
        exact h t ht
      · exact h t ht
  | (s, r) :: w, rs, ls, c :: cs, h, hw => by
    have hs := hw (s, r) (List.mem_cons_self ..)
    have hs0 : 0 ≤ s := hs.1
    have hs1 : s < rs.length := hs.2
    refine Agr.cut w (rs.set s.toNat (torn c r (rs.getD s.toNat []))) (ls ++ [(s, torn c r ((lastW ls s).getD z8))]) cs (fun t ht => ?_) fun p hp => by rw [List.length_set]; exact hw p (List.mem_cons_of_mem _ hp)
    rw [List.length_set] at ht
    have eo : rs.getD s.toNat [] = (lastW ls s).getD z8 := by
      have z := h s.toNat (by omega)
      rw [show ((s.toNat : Nat) : Int) = s by omega] at z
      exact z
    rw [lastW_snoc, eo, List.getD_eq_getElem?_getD]
    by_cases e : (t : Int) = s
    · rw [if_pos e, show s.toNat = t by omega, List.getElem?_set_self ht]
      rfl
    · rw [if_neg e, List.getElem?_set_ne (by omega), ← List.getD_eq_getElem?_getD]
      exact h t ht
theorem NwAt.row {H : Hp} {kvs : List (Key × V)} {ls : List (Int × List Int)} (x : NwAt H kvs ls) {zp : Addr} (hz : RowAt H (.ref zp) z8) (s : Int) : RowAt H ((valV kvs (.inl s)).getD (.ref zp)) ((lastW ls s).getD z8) := by
  rcases x.2.2 s with ⟨a, b⟩ | ⟨v, r, a, b, c⟩
  · rw [a, b]; exact hz
  · rw [a, b]; exact c
def sp__law_sector (K : PySem.W.Frag) (_ : Ex) : Sp := S2 fun a b H Q _ => ∃ n m : Int, a = .int n ∧ b = .int m ∧ 0 ≤ n ∧ 21 ≤ m ∧ ∀ H' z, Same H H' → 0 ≤ z → z < m → Q (.int z) H'
def t__law_sector (K : PySem.W.Frag) (C : Ex) (E : XK) : TS :=
  tSeq (tAsg (tLst (tCons (tC (.int 0)) (tCons (tC (.int 1)) (tCons (tC (.int 4)) (tCons (tC (.int 19)) (tCons (tC (.int 20)) (tCons (tOp (uSub) (tVar 1) (tC (.int 1))) (tNil)))))))) (gName 2))
  (tSeq (tIfS (tTest (tOp (uLt K) (tOp (uMod) (tVar 0) (tC (.int 3))) (tC (.int 2)))) (tRet (tOp (uIx K) (tVar 2) (tOp (uMod) (tOp (uDiv) (tVar 0) (tC (.int 3))) (tC (.int 6))))) (tNext))
  (tRet (tOp (uMod) (tOp (uDiv) (tVar 0) (tC (.int 3))) (tVar 1))))
theorem pure__law_sector {K : PySem.W.Frag} {C : Ex} {vs : List V} {H : Hp} {Q : VK} {E : XK} (F : Fa K C) (h : sp__law_sector K C vs H Q E) : t__law_sector K C E { nx := fun _ H' => Q .non H', rt := Q } (start ["_law_number", "_law_many", "_law_menu"] vs) H := by
  obtain ⟨a, b, rfl, n, m, rfl, rfl, hn, hm, k⟩ := h
  unfold t__law_sector
  walk_at "run1"
  · rename_i l hl _
    refine w_ixI (ns := [0, 1, 4, 19, 20, m - 1]) (SqL.of upd_same) ⟨by omega, by show _ < 6; omega⟩ ?_
    have h2 := getD_mem (l := [0, 1, 4, 19, 20, m - 1]) (k := (n / 3 % 6).toNat) (P := fun z => 0 ≤ z ∧ z < m) (by show _ < 6; omega) (by simp; omega)
    exact k _ _ (same_new hl) h2.1 h2.2
  · walk_at "run1"
    rename_i l hl _
    exact k _ _ (same_new hl) (Int.emod_nonneg _ (by omega)) (Int.emod_lt_of_pos _ (by omega))
def sp__law_due (K : PySem.W.Frag) (_ : Ex) : Sp := S3 fun a b c H Q _ => ∃ (p q : Addr) (kvs : List (Key × V)) (ls ws : List (Int × List Int)) (vs : List V) (s : Int), a = .ref p ∧ b = .ref q ∧ c = .int s ∧ H p = some (.dK kvs) ∧ NwAt H kvs ls ∧ H q = some (.lst vs) ∧ WrsAt H vs ws ∧ ws.length ≤ 100000 ∧
  ∀ l H', H l = none → Same H H' → H' l = some (.lst (((lastW ws s).getD ((lastW ls s).getD z8)).map V.int)) → ((lastW ws s).getD ((lastW ls s).getD z8)).length = 8 → Q (.ref l) H'
def t__law_due (K : PySem.W.Frag) (C : Ex) (E : XK) : TS :=
  tSeq (tFor (iRng1 (tCons (tCB (uLen K) (tCons (tVar 1) (tNil))) (tNil))) (gName 3)
  (tSeq (tAsg (tOp (uIx K) (tVar 1) (tOp (uSub) (tOp (uSub) (tCB (uLen K) (tCons (tVar 1) (tNil))) (tC (.int 1))) (tVar 3))) (gName 4))
  (tIfS (tTest (tOp (uEq K) (tOp (uIx K) (tVar 4) (tC (.int 0))) (tVar 2))) (tRet (tCB (uList K) (tCons (tOp (uIx K) (tVar 4) (tC (.int 1))) (tNil)))) (tNext))))
  (tRet (tCB (uList K) (tCons (tDGet2 (tVar 0) (tVar 2) (uCall (sp__law_zeros K C) (WB E) tNil)) (tNil))))
theorem pure__law_due {K : PySem.W.Frag} {C : Ex} {vs : List V} {H : Hp} {Q : VK} {E : XK} (F : Fa K C) (h : sp__law_due K C vs H Q E) : t__law_due K C E { nx := fun _ H' => Q .non H', rt := Q } (start ["_law_lasts", "_law_writes", "_law_sector_here", "_law_k", "_law_write"] vs) H := by
  obtain ⟨a, b, c, rfl, p, q, kvs, ls, ws, vs, s, rfl, rfl, rfl, hp, hN, hq, hW, hwl, k⟩ := h
  have hlen := hW.1
  unfold t__law_due
  walk_at "run1"
  refine f_range (fun i σ H1 => H1 = H ∧ (∃ v3 v4, σ = [some (.ref p), some (.ref q), some (.int s), v3, v4]) ∧ lastW (ws.drop (ws.length - i)) s = none) ⟨rfl, ⟨none, none, rfl⟩, by rw [Nat.sub_zero, List.drop_length]; rfl⟩ ?_ ?_
  · rintro i σ H1 hi ⟨rfl, ⟨v3, v4, rfl⟩, hn⟩
    have hi' : i < vs.length := by omega
    have hj : ws.length - (i + 1) < vs.length := by omega
    obtain ⟨t, r, hw, tp, y, ev, et, l8, py, rfl, ey⟩ := hW.2 (ws.length - (i + 1)) _ (List.getElem?_eq_getElem hj)
    walk_at "run1"
    refine w_ixL (k := ws.length - (i + 1)) (SqL.of hq) (by omega) ((List.getElem?_eq_getElem hj).trans (by rw [ev])) ?_
    rw [show ws.length - i = ws.length - (i + 1) + 1 by omega] at hn
    walk_at "run1"
    · rename_i e
      subst e
      have el := lastW_at hw hn
      refine w_tlist (SqL.of ey) fun l hl => ?_
      rw [el] at k
      exact k l _ hl (same_new hl) upd_same l8
    · walk_at "run1"
      rename_i e
      exact ⟨rfl, ⟨_, _, rfl⟩, lastW_skip hw hn e⟩
  · rintro σ H1 ⟨rfl, ⟨v3, v4, rfl⟩, hn⟩
    rw [show ws.length - (((vs.length : Nat) : Int)).toNat = 0 by omega, List.drop_zero] at hn
    rw [hn] at k
    walk_at "run1"
    refine w_S0 fun zp hz => ?_
    have s1 := same_new (o := .lst ((List.replicate 8 (0 : Int)).map V.int)) hz
    have rz : RowAt (upd H1 zp (.lst ((List.replicate 8 (0 : Int)).map V.int))) (.ref zp) z8 := .of rfl upd_same
    generalize upd H1 zp _ = H2 at *
    have hp2 := s1 _ _ hp
    have hr := (hN.map fun _ _ y => y.same s1).row rz s
    obtain ⟨l8, pr, epr, hpr⟩ := hr
    walk_at "run1"
    rw [epr]
    refine w_tlist (SqL.of hpr) fun l hl => ?_
    exact k l _ (s1.free hl) (same_updN s1 hl) upd_same l8
def sp__law_after_cut (K : PySem.W.Frag) (_ : Ex) : Sp := S3 fun a b c H Q _ => ∃ (p q e : Addr) (kvs : List (Key × V)) (ls ws : List (Int × List Int)) (vs : List V) (cs : List Int), a = .ref p ∧ b = .ref q ∧ c = .ref e ∧ H p = some (.dK kvs) ∧ NwAt H kvs ls ∧ H q = some (.lst vs) ∧ WrsAt H vs ws ∧ SqL K H e (cs.map V.int) ∧
  (∀ z ∈ cs, 0 ≤ z ∧ z ≤ 8) ∧ ls.length + ws.length ≤ 100000 ∧ ∀ l H' kvs', H l = none → Same H H' → H' l = some (.dK kvs') → NwAt H' kvs' (cutL ls ws cs) → Q (.ref l) H'
def t__law_after_cut (K : PySem.W.Frag) (C : Ex) (E : XK) : TS :=
  tSeq (tAsg (tCB (uDict) (tCons (tVar 0) (tNil))) (gName 3))
  (tSeq (tFor (iRng1 (tCons (tCB (uLen K) (tCons (tVar 1) (tNil))) (tNil))) (gName 4)
  (tSeq (tAsg (tC (.int 0)) (gName 5))
  (tCut (tIfS (tTest (tOp (uLt K) (tVar 4) (tCB (uLen K) (tCons (tVar 2) (tNil))))) (tAsg (tOp (uIx K) (tVar 2) (tVar 4)) (gName 5)) (tNext))
  (tSeq (tAsg (tOp (uIx K) (tOp (uIx K) (tVar 1) (tVar 4)) (tC (.int 0))) (gName 6))
  (tSeq (tAsg (tDGet2 (tVar 3) (tVar 6) (uCall (sp__law_zeros K C) (WB E) tNil)) (gName 7))
  (sDPut (tVar 3) (tVar 6) (tOp (uAdd K) (tSl (uSl K) (tOp (uIx K) (tOp (uIx K) (tVar 1) (tVar 4)) (tC (.int 1))) (tNoPart) (tPart (tVar 5))) (tSl (uSl K) (tVar 7) (tPart (tVar 5)) (tNoPart)))))))))
  (tRet (tVar 3)))
theorem pure__law_after_cut {K : PySem.W.Frag} {C : Ex} {vs : List V} {H : Hp} {Q : VK} {E : XK} (F : Fa K C) (h : sp__law_after_cut K C vs H Q E) : t__law_after_cut K C E { nx := fun _ H' => Q .non H', rt := Q } (start ["_law_lasts", "_law_writes", "_law_choices_here", "_law_after", "_law_k", "_law_kept", "_law_sector_here", "_law_old"] vs) H := by
  obtain ⟨a, b, c, rfl, p, q, e, kvs, ls, ws, vs, cs, rfl, rfl, rfl, hp, hN, hq, hW, he, hcs, hwl, k⟩ := h
  have hlen := hW.1
  unfold t__law_after_cut
  walk_at "run1"
  refine w_tdict hp fun l hl => ?_
  have s0 := same_new (o := .dK kvs) hl
  have N0 := hN.map fun _ _ y => y.same s0
  have e0 : upd H l (.dK kvs) l = some (.dK kvs) := upd_same
  generalize upd H l _ = H0 at *
  have hq0 := s0 _ _ hq
  walk_at "run1"
  refine f_range (fun i σ H1 => Same H H1 ∧ ∃ v4 v5 v6 v7 kvs', σ = [some (.ref p), some (.ref q), some (.ref e), some (.ref l), v4, v5, v6, v7] ∧ H1 l = some (.dK kvs') ∧ NwAt H1 kvs' (cutL ls (ws.take i) cs)) ⟨s0, none, none, none, none, kvs, rfl, e0, N0⟩ ?_ ?_
  · rintro i σ H1 hi ⟨s1, v4, v5, v6, v7, kvs1, rfl, h1, N1⟩
    have hi' : i < vs.length := by omega
    obtain ⟨t, r, hw, tp, y, ev, et, l8, py, rfl, ey⟩ := hW.2 i _ (List.getElem?_eq_getElem hi')
    have evi : vs[i]? = some (.ref tp) := (List.getElem?_eq_getElem hi').trans (by rw [ev])
    have htk : (ws.take i).length = i := by rw [List.length_take]; omega
    have hq1 := s1 _ _ hq
    have he1 := s1.seq he
    have et1 := s1 _ _ et
    have ey1 := s1 _ _ ey
    walk_at "run1"
    refine w_cut (fun σ H2 => H2 = H1 ∧ σ = [some (.ref p), some (.ref q), some (.ref e), some (.ref l), some (.int (0 + (i : Int))), some (.int (cs.getD i 0)), v6, v7]) ?_ ?_
    · walk_at "run1"
      · rw [show (0 + (i : Int)).toNat = i by omega]
        exact ⟨rfl, rfl⟩
      · walk_at "run1"
        rename_i hc
        rw [List.getD_eq_getElem?_getD, List.getElem?_eq_none (by simp only [List.length_map] at hc; omega)]
        exact ⟨rfl, rfl⟩
    rintro σ H2 ⟨rfl, rfl⟩
    have hc8 : 0 ≤ cs.getD i 0 ∧ cs.getD i 0 ≤ 8 := by
      rw [List.getD_eq_getElem?_getD]
      cases ec : cs[i]? with
      | none => exact ⟨Int.le_refl 0, by decide⟩
      | some z => exact hcs z (List.mem_of_getElem? ec)
    have hNl := N1.1
    rw [cutL_len, htk] at hNl
    rw [take_snoc hw, cutL_snoc, htk]
    generalize cs.getD i 0 = cc at *
    walk_at "run1"
    refine w_ixL (k := i) (SqL.of hq1) (by omega) evi ?_
    walk_at "run1"
    refine w_S0 fun zp hz => ?_
    have s2 := same_new (o := .lst ((List.replicate 8 (0 : Int)).map V.int)) hz
    have rz : RowAt (upd H2 zp (.lst ((List.replicate 8 (0 : Int)).map V.int))) (.ref zp) z8 := .of rfl upd_same
    generalize upd H2 zp _ = H3 at *
    have h13 := s2 _ _ h1
    have N3 := N1.map fun _ _ y => y.same s2
    obtain ⟨lo8, po, epo, hpo⟩ := N3.row rz t
    have hq3 := s2 _ _ hq1
    have et3 := s2 _ _ et1
    have ey3 := s2 _ _ ey1
    walk_at "run1"
    refine w_ixL (k := i) (SqL.of hq3) (by omega) evi ?_
    walk_at "run1"
    refine w_slL (SqL.of ey3) fun l2 hl2 => ?_
    rw [show cutV (r.map V.int) none (some cc) = (r.take cc.toNat).map V.int by
      have z := cut_take (r.map V.int) cc.toNat
      rw [show ((cc.toNat : Nat) : Int) = cc by omega] at z
      rw [z, List.map_take]]
    walk_at "run1"
    rw [epo]
    refine w_slL (SqL.of (upd_old hpo hl2)) fun l3 hl3 => ?_
    rw [show cutV (((lastW (cutL ls (ws.take i) cs) t).getD z8).map V.int) (some cc) none = (((lastW (cutL ls (ws.take i) cs) t).getD z8).drop cc.toNat).map V.int by
      have z := cut_drop (((lastW (cutL ls (ws.take i) cs) t).getD z8).map V.int) cc.toNat
      rw [show ((cc.toNat : Nat) : Int) = cc by omega] at z
      rw [z, List.map_drop]]
    generalize (lastW (cutL ls (ws.take i) cs) t).getD z8 = ro at *
    refine w_cat (upd_old upd_same hl3) upd_same (by rw [List.length_map, List.length_map, List.length_take, List.length_drop]; omega) fun l4 hl4 => ?_
    rw [← List.map_append]
    have s4 := same_updN (o := .lst ((r.take cc.toNat ++ ro.drop cc.toNat).map V.int)) (same_updN (o := .lst ((ro.drop cc.toNat).map V.int)) (same_new (o := .lst ((r.take cc.toNat).map V.int)) hl2) hl3) hl4
    have rl : RowAt (upd (upd (upd H3 l2 (.lst ((r.take cc.toNat).map V.int))) l3 (.lst ((ro.drop cc.toNat).map V.int))) l4 (.lst ((r.take cc.toNat ++ ro.drop cc.toNat).map V.int))) (.ref l4) (torn cc r ro) := .of (torn_len l8 lo8) upd_same
    generalize upd (upd (upd H3 l2 _) l3 _) l4 _ = H4 at *
    have h14 := s4 _ _ h13
    walk_at "run1"
    refine w_dputI h14 (by omega) ?_
    have fr := row_upd (o := .dK (putK kvs1 (.inl t) (.ref l4))) h14 plain_dK
    exact ⟨same_upd ((s1.trans s2).trans s4) hl, _, _, _, _, _, rfl, upd_same, ((N3.map fun _ _ y => y.same s4).put rl).map fr⟩
  · rintro σ H1 ⟨s1, v4, v5, v6, v7, kvs1, rfl, h1, N1⟩
    rw [show (((vs.length : Nat) : Int)).toNat = ws.length by omega, List.take_length] at N1
    walk_at "run1"
    exact k l H1 kvs1 hl s1 h1 N1
def sp__law_choices (K : PySem.W.Frag) (_ : Ex) : Sp := S3 fun a b c H Q _ => ∃ (p : Addr) (ts : List Int) (st m : Int), a = .ref p ∧ b = .int st ∧ c = .int m ∧ SqL K H p (ts.map V.int) ∧ 0 ≤ st ∧ (0 ≤ m ∧ m ≤ 10000) ∧ TapeOk ts ∧
  ∀ l, H l = none → ∀ (H' : Hp) (cs : List Int), Same H H' → H' l = some (.lst (cs.map V.int)) → (∀ z ∈ cs, 0 ≤ z ∧ z ≤ 8) → cs.length = m.toNat → Q (.ref l) H'
def t__law_choices (K : PySem.W.Frag) (C : Ex) (E : XK) : TS :=
  tSeq (tAsg (tLst (tNil)) (gName 3))
  (tSeq (tFor (iRng1 (tCons (tVar 2) (tNil))) (gName 4)
  (tSeq (tAsg (uCall (sp__law_at K C) (WB E) (tCons (tVar 0) (tCons (tOp (uAdd K) (tVar 1) (tVar 4)) (tNil)))) (gName 5))
  (tIfS (tTest (tOp (uEq K) (tOp (uMod) (tVar 5) (tC (.int 3))) (tC (.int 0)))) (tDrop (tBM K "list" (rAppend) (tVar 3) (tCons (tC (.int 8)) (tNil)))) (tIfS (tTest (tOp (uEq K) (tOp (uMod) (tVar 5) (tC (.int 3))) (tC (.int 1)))) (tDrop (tBM K "list" (rAppend) (tVar 3) (tCons (tOp (uMod) (tOp (uDiv) (tVar 5) (tC (.int 3))) (tC (.int 9))) (tNil)))) (tDrop (tBM K "list" (rAppend) (tVar 3) (tCons (tC (.int 0)) (tNil))))))))
  (tRet (tVar 3)))
theorem pure__law_choices {K : PySem.W.Frag} {C : Ex} {vs : List V} {H : Hp} {Q : VK} {E : XK} (F : Fa K C) (h : sp__law_choices K C vs H Q E) : t__law_choices K C E { nx := fun _ H' => Q .non H', rt := Q } (start ["_law_tape_here", "_law_start", "_law_many", "_law_choices_here", "_law_k", "_law_number"] vs) H := by
  obtain ⟨a, b, c, rfl, p, ts, st, m, rfl, rfl, rfl, hS, h0, hm, hT, k⟩ := h
  unfold t__law_choices
  walk_at "run1"
  rename_i l hl
  have s0 := same_new (o := .lst []) hl
  have e0 : upd H l (.lst []) l = some (.lst (([] : List Int).map V.int)) := upd_same
  generalize upd H l _ = H0 at *
  walk_at "run1"
  refine f_range (fun i σ H1 => Same H H1 ∧ ∃ (v4 v5 : Option V) (cs : List Int), σ = [some (.ref p), some (.int st), some (.int m), some (.ref l), v4, v5] ∧ H1 l = some (.lst (cs.map V.int)) ∧ (∀ z ∈ cs, 0 ≤ z ∧ z ≤ 8) ∧ cs.length = i) ⟨s0, none, none, [], rfl, e0, fun z h => by simp at h, rfl⟩ ?_ ?_
  · rintro i σ H1 hi ⟨s1, v4, v5, cs, rfl, h1, hc, hlc⟩
    have hi' : i < m.toNat := hi
    have hS1 := s1.seq hS
    have ht := hT.at (st + (0 + (i : Int))).toNat
    have app : ∀ z : Int, 0 ≤ z → z ≤ 8 → ∀ y ∈ cs ++ [z], 0 ≤ y ∧ y ≤ 8 := fun z z0 z1 y hy => by
      rcases List.mem_append.mp hy with hy | hy
      · exact hc y hy
      · rw [List.mem_singleton.mp hy]; exact ⟨z0, z1⟩
    have len : ∀ z : Int, (cs ++ [z]).length = i + 1 := fun z => by rw [List.length_append, hlc]; rfl
    walk_at "run1"
    · exact ⟨same_upd s1 hl, _, _, _, rfl, upd_same, app 8 (by decide) (by decide), len 8⟩
    · walk_at "run1"
      · exact ⟨same_upd s1 hl, _, _, _, rfl, upd_same, app _ (by omega) (by omega), len _⟩
      · walk_at "run1"
        exact ⟨same_upd s1 hl, _, _, _, rfl, upd_same, app 0 (by decide) (by decide), len 0⟩
  · rintro σ H1 ⟨s1, v4, v5, cs, rfl, h1, hc, hlc⟩
    walk_at "run1"
    exact k l hl H1 cs s1 h1 hc hlc
structure LawD (C : Ex) (M H : Hp) (d a w n pl lw : Addr) (D : DiskS) (kvs : List (Key × V)) (ls : List (Int × List Int)) (vsW : List V) (many : Int) (m : Nat) : Prop where
  dk : DiskAt C H d a w n D
  ok : DiskOk D
  bl : 4 * D.blocks = many
  sm : Same M H
  mn : ∀ b ∈ dkF d a w n, M b = none
  npl : pl ∉ dkF d a w n
  nlw : lw ∉ dkF d a w n
  epl : H pl = some (.dK kvs)
  elw : H lw = some (.lst vsW)
  N : NwAt H kvs ls
  W : WrsAt H vsW D.wr
  ag : Agr D.secs ls
  r8 : Rd8 D
  cn : ls.length + D.wr.length ≤ m
section
variable {C : Ex} {M H H' : Hp} {d a w n w' n' pl lw : Addr} {D D' : DiskS} {kvs : List (Key × V)} {ls : List (Int × List Int)} {vsW : List V} {many : Int} {m m' : Nat}
theorem LawD.sz (x : LawD C M H d a w n pl lw D kvs ls vsW many m) : (D.secs.length : Int) = many := by rw [x.ok.sz, x.bl]
theorem LawD.same (x : LawD C M H d a w n pl lw D kvs ls vsW many m) (s : Same H H') : LawD C M H' d a w n pl lw D kvs ls vsW many m :=
  ⟨x.dk.same s, x.ok, x.bl, x.sm.trans s, x.mn, x.npl, x.nlw, s _ _ x.epl, s _ _ x.elw, x.N.same s, x.W.same s, x.ag, x.r8, x.cn⟩
theorem LawD.mono (x : LawD C M H d a w n pl lw D kvs ls vsW many m) (h : m ≤ m') : LawD C M H d a w n pl lw D kvs ls vsW many m' :=
  ⟨x.dk, x.ok, x.bl, x.sm, x.mn, x.npl, x.nlw, x.epl, x.elw, x.N, x.W, x.ag, x.r8, Nat.le_trans x.cn h⟩
theorem LawD.rd (x : LawD C M H d a w n pl lw D kvs ls vsW many m) {s : Int} (h0 : 0 ≤ s) (h1 : s < many) : rdS D s = (lastW D.wr s).getD ((lastW ls s).getD z8) := by
  have z := x.ag s.toNat (by have := x.sz; omega)
  rw [show ((s.toNat : Nat) : Int) = s by omega] at z
  unfold rdS
  rw [z]
/-- the disk holds a new write; the law's own list follows -/
theorem LawD.push (x : LawD C M H d a w n pl lw D kvs ls vsW many m) {s : Int} {r : List Int} {H1 : Hp} {lw' : Addr} {v : V} (hD : DiskAt C H1 d a w n D') (st : Stp (dkF d a w n) H (dkF d a w n) H1) (s1 : Same H1 H') (q1 : D'.secs = D.secs) (q2 : D'.wr = D.wr ++ [(s, r)]) (q3 : D'.blocks = D.blocks) (hm : m < 100000) (h0 : 0 ≤ s) (h1 : s < many) (l8 : r.length = 8)
    (n1 : H1 lw' = none) (e1 : H' lw' = some (.lst (vsW ++ [v]))) (hv : WrAt H' v s r) : LawD C M H' d a w n pl lw' D' kvs ls (vsW ++ [v]) many (m + 1) := by
  have bl := x.bl
  have cn := x.cn
  refine ⟨hD.same s1, ⟨by rw [q3]; exact x.ok.bl, by rw [q1, q3]; exact x.ok.sz, fun p hp => ?_, ?_⟩, by rw [q3]; exact x.bl, ((st.toSame x.mn x.sm).1).trans s1, x.mn, x.npl, hD.fresh n1, s1 _ _ (st.keep x.epl x.npl).1, e1, (x.N.map fun _ _ y => y.stp x.dk st).same s1, by rw [q2]; exact ((x.W.stp x.dk st).same s1).snoc hv, by rw [q1]; exact x.ag, fun t t0 t1 => ?_, ?_⟩
  · rw [q2] at hp
    rw [q3]
    rcases List.mem_append.mp hp with q | q
    · exact x.ok.wk p q
    · rw [List.mem_singleton.mp q]
      show 0 ≤ s ∧ s < 4 * D.blocks
      omega
  · rw [q2, List.length_append]
    simp only [List.length_cons, List.length_nil]
    omega
  · have z := x.r8 t t0 (by rw [← q1]; exact t1)
    unfold rdS at z ⊢
    rw [q1, q2, lastW_snoc]
    split
    · exact l8
    · exact z
  · rw [q2, List.length_append]
    simp only [List.length_cons, List.length_nil]
    omega
/-- nothing waits any more -/
theorem LawD.reset (x : LawD C M H d a w n pl lw D kvs ls vsW many m) {H1 : Hp} {pl' lw' : Addr} {kvs' : List (Key × V)} {ls' : List (Int × List Int)} (hD : DiskAt C H1 d a w' n' D') (st : Stp (dkF d a w n) H (dkF d a w' n') H1) (s1 : Same H1 H') (e2 : D'.wr = []) (e3 : D'.blocks = D.blocks) (e4 : D'.secs.length = D.secs.length)
    (n1 : H1 pl' = none) (e1 : H' pl' = some (.dK kvs')) (N : NwAt H' kvs' ls') (n2 : H1 lw' = none) (e5 : H' lw' = some (.lst [])) (ag : Agr D'.secs ls') (hl : ls'.length ≤ m) : LawD C M H' d a w' n' pl' lw' D' kvs' ls' [] many m := by
  obtain ⟨sm, mn⟩ := st.toSame x.mn x.sm
  have r8 : Rd8 D' := fun t t0 t1 => by
    obtain ⟨vs, _, rr⟩ := hD.sec
    have hi : t.toNat < vs.length := by rw [rr.1]; omega
    obtain ⟨r, er, l8, _⟩ := rr.2 _ _ (List.getElem?_eq_getElem hi)
    unfold rdS
    rw [e2]
    show (D'.secs.getD t.toNat []).length = 8
    rw [List.getD_eq_getElem?_getD, er]
    exact l8
  refine ⟨hD.same s1, ⟨by rw [e3]; exact x.ok.bl, by rw [e4, e3]; exact x.ok.sz, fun p hp => (by rw [e2] at hp; cases hp), by rw [e2]; exact Nat.zero_le _⟩, by rw [e3]; exact x.bl, sm.trans s1, mn, hD.fresh n1, hD.fresh n2, e1, e5, N, by rw [e2]; exact ⟨rfl, fun i v h => by simp at h⟩, ag, r8, by rw [e2]; exact hl⟩
end
theorem flush_cut : ∀ (w : List (Int × List Int)) (rs : List (List Int)), (∀ p ∈ w, p.2.length = 8 ∧ 0 ≤ p.1 ∧ p.1 < rs.length) → (∀ r ∈ rs, r.length = 8) → flushS rs w = cutS rs w (List.replicate w.length 8)
  | [], rs, _, _ => by rw [cutS_e]; rfl
  | (s, r) :: w, rs, h, h8 => by
    obtain ⟨l8, s0, s1⟩ := h (s, r) (List.mem_cons_self ..)
    have l8 : r.length = 8 := l8
    have s0 : 0 ≤ s := s0
    have s1 : s < rs.length := s1
    have hi : s.toNat < rs.length := by omega
    have e : torn 8 r (rs.getD s.toNat []) = r := by
      unfold torn
      have z := h8 _ (List.getElem_mem hi)
      rw [List.getD_eq_getElem?_getD, List.getElem?_eq_getElem hi, Option.getD_some, show (8 : Int).toNat = 8 from rfl, List.take_of_length_le (by omega), List.drop_eq_nil_of_le (by omega), List.append_nil]
    show flushS (rs.set s.toNat r) w = cutS (rs.set s.toNat (torn 8 r (rs.getD s.toNat []))) w (List.replicate w.length 8)
    rw [e]
    refine flush_cut w _ (fun p hp => ?_) fun x hx => ?_
    · rw [List.length_set]; exact h p (List.mem_cons_of_mem _ hp)
    · rcases List.mem_or_eq_of_mem_set hx with q | q
      · exact h8 x q
      · rw [q]; exact l8
theorem RowsAt.len8 {H : Hp} {vs : List V} {rs : List (List Int)} (x : RowsAt H vs rs) : ∀ r ∈ rs, r.length = 8 := fun r hr => by
  obtain ⟨i, hi⟩ := List.getElem?_of_mem hr
  have hl : i < vs.length := by rw [x.1]; exact (List.getElem?_eq_some_iff.mp hi).1
  obtain ⟨r', e, l8, _⟩ := x.2 i _ (List.getElem?_eq_getElem hl)
  rw [hi] at e
  cases e
  exact l8
theorem WrsAt.len8 {H : Hp} {vs : List V} {ws : List (Int × List Int)} (x : WrsAt H vs ws) : ∀ p ∈ ws, p.2.length = 8 := fun p hp => by
  obtain ⟨i, hi⟩ := List.getElem?_of_mem hp
  have hl : i < vs.length := by rw [x.1]; exact (List.getElem?_eq_some_iff.mp hi).1
  obtain ⟨s, r, e, t, y, _, _, l8, _⟩ := x.2 i _ (List.getElem?_eq_getElem hl)
  rw [hi] at e
  cases e
  exact l8
theorem w_badW {K : PySem.W.Frag} {C : Ex} {H : Hp} {Q : VK} {E : XK} {d a w n l : Addr} {D : DiskS} {b : V} {xs : List V} (hD : DiskAt C H d a w n D) (ok : DiskOk D) (wl : D.wr.length < 100000) (kb : Known K H b) (hl : H l = some (.lst xs)) (kx : ∀ x ∈ xs, Known K H x)
    (bad : btw 0 (D.secs.length - 1) b = false ∨ (decide ((xs.length : Int) = 8) && xs.all isWord) = false) (e : E (.ref C.NotValid) none H) : sp_Disk_write K C [.ref d, b, .ref l] H Q E := by
  refine w_S3 ⟨d, a, w, n, D, rfl, hD, ok, wl, kb, .inl ⟨l, _, rfl, SqL.of hl, kx, fun _ => e, fun s es s0 s1 r er l8 hr => ?_⟩⟩
  exfalso
  rcases bad with z | z
  · rw [es, btw_int s0 (by omega)] at z
    cases z
  · have : (r.map V.int).all isWord = true := List.all_eq_true.mpr fun y hy => by
      obtain ⟨i, hi, rfl⟩ := List.mem_map.mp hy
      exact decide_eq_true (hr i hi)
    rw [er, this, decide_eq_true (by rw [List.length_map, l8]; rfl)] at z
    cases z
theorem w_badR {K : PySem.W.Frag} {C : Ex} {H : Hp} {Q : VK} {E : XK} {d a w n : Addr} {D : DiskS} {b : V} (hD : DiskAt C H d a w n D) (ok : DiskOk D) (pw : D.pw = true) (kb : Known K H b) (bad : btw 0 (D.secs.length - 1) b = false) (e : E (.ref C.NotValid) none H) : sp_Disk_read K C [.ref d, b] H Q E := by
  refine w_S2 ⟨d, a, w, n, D, rfl, hD, ok, kb, (fun q => by rw [pw] at q; cases q), fun _ _ => e, fun s _ es s0 s1 => ?_⟩
  rw [es, btw_int s0 (by omega)] at bad
  cases bad
theorem w_badC {K : PySem.W.Frag} {C : Ex} {H : Hp} {Q : VK} {E : XK} {d a w n l : Addr} {D : DiskS} {xs : List V} (hD : DiskAt C H d a w n D) (ok : DiskOk D) (nl : l ∉ dkF d a w n) (hl : H l = some (.lst xs)) (kx : ∀ x ∈ xs, Known K H x)
    (bad : xs.all (btw 0 8) = false) (e : E (.ref C.NotValid) none H) : sp_Disk_cut K C [.ref d, .ref l] H Q E := by
  refine w_S2 ⟨d, a, w, n, D, l, _, rfl, rfl, hD, ok, SqL.of hl, kx, (fun q => nl (by rw [q]; simp [dkF])), fun _ => e, fun cs ecs hc => ?_⟩
  exfalso
  have : (cs.map V.int).all (btw 0 8) = true := List.all_eq_true.mpr fun y hy => by
    obtain ⟨i, hi, rfl⟩ := List.mem_map.mp hy
    exact btw_int (hc i hi).1 (hc i hi).2
  rw [ecs, this] at bad
  cases bad
theorem btw_out {z m : Int} (h : z < 0 ∨ m < z) : btw 0 m (.int z) = false := by
  cases e : btw 0 m (.int z) with
  | false => rfl
  | true =>
    obtain ⟨y, q, h0, h1⟩ := btw_inv e
    cases q
    omega
theorem known_all {K : PySem.W.Frag} {H : Hp} {xs : List V} (h : ∀ x ∈ xs, (∃ i, x = .int i) ∨ ∃ b, x = .bl b) : ∀ x ∈ xs, Known K H x := fun x hx => by
  rcases h x hx with ⟨i, rfl⟩ | ⟨b, rfl⟩
  · trivial
  · trivial
/-- the disk has power -/
structure DskP (D : DiskS) : Prop where
  ok : DiskOk D
  lf : D.left = none
  pw : D.pw = true
def sp__law_refused (K : PySem.W.Frag) (C : Ex) : Sp := S3 fun x b c H Q _ => ∃ (d a w n : Addr) (D : DiskS) (k many : Int), x = .ref d ∧ b = .int k ∧ c = .int many ∧ DiskAt C H d a w n D ∧ DskP D ∧ D.wr.length < 100000 ∧ (D.secs.length : Int) = many ∧ 0 ≤ k ∧ ∀ H', Same H H' → Q (.bl true) H'
def t__law_refused (K : PySem.W.Frag) (C : Ex) (E : XK) : TS :=
  tSeq (tAsg (uCall (sp__law_zeros K C) (WB E) tNil) (gName 3))
  (tSeq (tAsg (tOp (uMod) (tVar 1) (tC (.int 11))) (gName 4))
  (tSeq (uTryAs K (.ref C.LaminaError) 5 (fun W => tIfS (tTest (tOp (uEq K) (tVar 4) (tC (.int 0)))) (tDrop (uMeth C.Disk "write" (sp_Disk_write K C) W (tVar 0) (tCons (tVar 2) (tCons (tVar 3) (tNil))))) (tIfS (tTest (tOp (uEq K) (tVar 4) (tC (.int 1)))) (tDrop (uMeth C.Disk "write" (sp_Disk_write K C) W (tVar 0) (tCons (tUn uNeg (tC (.int 1))) (tCons (tVar 3) (tNil))))) (tIfS (tTest (tOp (uEq K) (tVar 4) (tC (.int 2)))) (tDrop (uMeth C.Disk "write" (sp_Disk_write K C) W (tVar 0) (tCons (tC (.int 4)) (tCons (tOp (uAdd K) (tVar 3) (tLst (tCons (tC (.int 1)) (tNil)))) (tNil))))) (tIfS (tTest (tOp (uEq K) (tVar 4) (tC (.int 3)))) (tDrop (uMeth C.Disk "write" (sp_Disk_write K C) W (tVar 0) (tCons (tC (.int 4)) (tCons (tSl (uSl K) (tVar 3) (tPart (tC (.int 1))) (tNoPart)) (tNil))))) (tIfS (tTest (tOp (uEq K) (tVar 4) (tC (.int 4)))) (tDrop (uMeth C.Disk "write" (sp_Disk_write K C) W (tVar 0) (tCons (tC (.int 4)) (tCons (tLst (tCons (tC (.int 0)) (tCons (tC (.int 0)) (tCons (tC (.int 0)) (tCons (tUn uNeg (tC (.int 1))) (tCons (tC (.int 0)) (tCons (tC (.int 0)) (tCons (tC (.int 0)) (tCons (tC (.int 0)) (tNil)))))))))) (tNil))))) (tIfS (tTest (tOp (uEq K) (tVar 4) (tC (.int 5)))) (tDrop (uMeth C.Disk "write" (sp_Disk_write K C) W (tVar 0) (tCons (tC (.int 4)) (tCons (tLst (tCons (tC (.int 0)) (tCons (tC (.int 0)) (tCons (tC (.int 0)) (tCons (tC (.int 0)) (tCons (tC (.int 0)) (tCons (tC (.bl true)) (tCons (tC (.int 0)) (tCons (tC (.int 0)) (tNil)))))))))) (tNil))))) (tIfS (tTest (tOp (uEq K) (tVar 4) (tC (.int 6)))) (tDrop (uMeth C.Disk "read" (sp_Disk_read K C) W (tVar 0) (tCons (tOp (uAdd K) (tVar 2) (tVar 1)) (tNil)))) (tIfS (tTest (tOp (uEq K) (tVar 4) (tC (.int 7)))) (tDrop (uMeth C.Disk "read" (sp_Disk_read K C) W (tVar 0) (tCons (tUn uNeg (tC (.int 1))) (tNil)))) (tIfS (tTest (tOp (uEq K) (tVar 4) (tC (.int 8)))) (tDrop (uMeth C.Disk "cut" (sp_Disk_cut K C) W (tVar 0) (tCons (tLst (tCons (tC (.int 8)) (tCons (tC (.int 0)) (tCons (tC (.int 9)) (tNil))))) (tNil)))) (tIfS (tTest (tOp (uEq K) (tVar 4) (tC (.int 9)))) (tDrop (uMeth C.Disk "cut" (sp_Disk_cut K C) W (tVar 0) (tCons (tLst (tCons (tC (.int 8)) (tCons (tUn uNeg (tC (.int 1))) (tNil)))) (tNil)))) (tDrop (uMeth C.Disk "cut" (sp_Disk_cut K C) W (tVar 0) (tCons (tLst (tCons (tC (.int 0)) (tCons (tC (.bl true)) (tNil)))) (tNil)))))))))))))) (fun a cls d => tRet (tAndV (tCB (uIsE K a cls d) (tCons (tVar 5) (tCons (tC (.ref C.NotValid)) (tNil)))) (tNotV (tCB (uIsE K a cls d) (tCons (tVar 5) (tCons (tC (.ref C.BadImage)) (tNil))))))) (WB E))
  (tRet (tC (.bl false)))))
theorem pure__law_refused {K : PySem.W.Frag} {C : Ex} {vs : List V} {H : Hp} {Q : VK} {E : XK} (F : Fa K C) (h : sp__law_refused K C vs H Q E) : t__law_refused K C E { nx := fun _ H' => Q .non H', rt := Q } (start ["_law_disk", "_law_number", "_law_many", "_law_words_here", "_law_kind", "e"] vs) H := by
  obtain ⟨x, b, c, rfl, d, a, w, n, D, k, many, rfl, rfl, rfl, hD, P, wl, sz, k0, kk⟩ := h
  have ok := P.ok
  have bl := ok.bl
  have sz2 := ok.sz
  unfold t__law_refused
  walk_at "run1"
  refine w_S0 fun zp hz => ?_
  have s1 := same_new (o := .lst ((List.replicate 8 (0 : Int)).map V.int)) hz
  have e1 : upd H zp (.lst ((List.replicate 8 (0 : Int)).map V.int)) zp = some (.lst ((List.replicate 8 (0 : Int)).map V.int)) := upd_same
  have hD1 := hD.same s1
  have kz : ∀ H', ∀ x ∈ ((List.replicate 8 (0 : Int)).map V.int), Known K H' x := fun H' x hx => by
    obtain ⟨i, _, rfl⟩ := List.mem_map.mp hx
    trivial
  generalize upd H zp _ = H1 at *
  obtain ⟨dx, i⟩ := hD1.ins
  unfold dkO at i
  walk_at "run1"
  · refine w_badW hD1 ok wl trivial e1 (kz _) (.inl (btw_out (.inr (by omega)))) ?_
    walk_at "run1"
    exact kk _ s1
  walk_at "run1"
  · refine w_badW hD1 ok wl trivial e1 (kz _) (.inl (btw_out (.inl (by omega)))) ?_
    walk_at "run1"
    exact kk _ s1
  walk_at "run1"
  · rename_i l1 hl1
    refine w_cat (upd_old e1 hl1) upd_same (by decide) fun l2 hl2 => ?_
    have s2 := same_updN (o := .lst ((List.replicate 8 (0 : Int)).map V.int ++ [.int 1])) (same_new (o := .lst [.int 1]) hl1) hl2
    have i2 := s2 _ _ i
    walk_at "run1"
    refine w_badW (hD1.same s2) ok wl trivial upd_same (known_all fun x hx => .inl ?_) (.inr (by decide)) ?_
    · simp only [List.mem_append, List.mem_map, List.mem_singleton] at hx
      rcases hx with ⟨i, _, rfl⟩ | rfl
      · exact ⟨i, rfl⟩
      · exact ⟨1, rfl⟩
    · walk_at "run1"
      exact kk _ (s1.trans s2)
  walk_at "run1"
  · refine w_slL (SqL.of e1) fun l2 hl2 => ?_
    rw [show cutV ((List.replicate 8 (0 : Int)).map V.int) (some 1) none = ((List.replicate 7 (0 : Int)).map V.int) by
      have z := cut_drop ((List.replicate 8 (0 : Int)).map V.int) 1
      exact z]
    have s2 := same_new (o := .lst ((List.replicate 7 (0 : Int)).map V.int)) hl2
    have i2 := s2 _ _ i
    walk_at "run1"
    refine w_badW (hD1.same s2) ok wl trivial upd_same (known_all fun x hx => .inl ?_) (.inr (by decide)) ?_
    · obtain ⟨i, _, rfl⟩ := List.mem_map.mp hx
      exact ⟨i, rfl⟩
    · walk_at "run1"
      exact kk _ (s1.trans s2)
  walk_at "run1"
  · rename_i l2 hl2
    have s2 := same_new (o := .lst [.int 0, .int 0, .int 0, .int (-1), .int 0, .int 0, .int 0, .int 0]) hl2
    refine w_badW (hD1.same s2) ok wl trivial upd_same (known_all fun x hx => ?_) (.inr (by decide +kernel)) ?_
    · simp only [List.mem_cons, List.not_mem_nil, or_false] at hx
      rcases hx with rfl | rfl | rfl | rfl | rfl | rfl | rfl | rfl <;> exact .inl ⟨_, rfl⟩
    · walk_at "run1"
      exact kk _ (s1.trans s2)
  walk_at "run1"
  · rename_i l2 hl2
    have s2 := same_new (o := .lst [.int 0, .int 0, .int 0, .int 0, .int 0, .bl true, .int 0, .int 0]) hl2
    refine w_badW (hD1.same s2) ok wl trivial upd_same (known_all fun x hx => ?_) (.inr (by decide +kernel)) ?_
    · simp only [List.mem_cons, List.not_mem_nil, or_false] at hx
      rcases hx with rfl | rfl | rfl | rfl | rfl | rfl | rfl | rfl <;> first | exact .inl ⟨_, rfl⟩ | exact .inr ⟨_, rfl⟩
    · walk_at "run1"
      exact kk _ (s1.trans s2)
  walk_at "run1"
  · refine w_badR hD1 ok P.pw trivial (btw_out (.inr (by omega))) ?_
    walk_at "run1"
    exact kk _ s1
  walk_at "run1"
  · refine w_badR hD1 ok P.pw trivial (btw_out (.inl (by omega))) ?_
    walk_at "run1"
    exact kk _ s1
  walk_at "run1"
  · rename_i l2 hl2
    have s2 := same_new (o := .lst [.int 8, .int 0, .int 9]) hl2
    refine w_badC (hD1.same s2) ok (hD1.fresh hl2) upd_same (known_all fun x hx => ?_) (by decide +kernel) ?_
    · simp only [List.mem_cons, List.not_mem_nil, or_false] at hx
      rcases hx with rfl | rfl | rfl <;> exact .inl ⟨_, rfl⟩
    · walk_at "run1"
      exact kk _ (s1.trans s2)
  walk_at "run1"
  · rename_i l2 hl2
    have s2 := same_new (o := .lst [.int 8, .int (-1)]) hl2
    refine w_badC (hD1.same s2) ok (hD1.fresh hl2) upd_same (known_all fun x hx => ?_) (by decide +kernel) ?_
    · simp only [List.mem_cons, List.not_mem_nil, or_false] at hx
      rcases hx with rfl | rfl <;> exact .inl ⟨_, rfl⟩
    · walk_at "run1"
      exact kk _ (s1.trans s2)
  walk_at "run1"
  rename_i l2 hl2
  have s2 := same_new (o := .lst [.int 0, .bl true]) hl2
  refine w_badC (hD1.same s2) ok (hD1.fresh hl2) upd_same (known_all fun x hx => ?_) (by decide +kernel) ?_
  · simp only [List.mem_cons, List.not_mem_nil, or_false] at hx
    rcases hx with rfl | rfl
    · exact .inl ⟨_, rfl⟩
    · exact .inr ⟨_, rfl⟩
  · walk_at "run1"
    exact kk _ (s1.trans s2)
theorem nodup_at {qs : List Addr} {i j : Nat} {q : Addr} (nd : qs.Nodup) (h1 : qs[i]? = some q) (h2 : qs[j]? = some q) : i = j :=
  (List.getElem?_inj (List.getElem?_eq_some_iff.mp h1).1 nd).mp (h1.trans h2.symm)
def sp__law_look (K : PySem.W.Frag) (C : Ex) : Sp := S5 fun x b c e f H Q _ => ∃ (M : Hp) (d a w n pl lw : Addr) (D : DiskS) (kvs : List (Key × V)) (ls : List (Int × List Int)) (vsW : List V) (many s : Int) (m : Nat), x = .ref d ∧ b = .ref pl ∧ c = .ref lw ∧ e = .int many ∧ f = .int s ∧
  LawD C M H d a w n pl lw D kvs ls vsW many m ∧ DskP D ∧ m ≤ 1000 ∧ 0 ≤ s ∧ s < many ∧ ∀ H', Same H H' → Q (.bl true) H'
def t__law_look (K : PySem.W.Frag) (C : Ex) (E : XK) : TS :=
  tSeq (tIfS (tNot (uTru K (uCall (sp__law_equal K C) (WB E) (tCons (uMeth C.Disk "read" (sp_Disk_read K C) (WB E) (tVar 0) (tCons (tVar 4) (tNil))) (tCons (uCall (sp__law_due K C) (WB E) (tCons (tVar 1) (tCons (tVar 2) (tCons (tVar 4) (tNil))))) (tNil)))))) (tRet (tC (.bl false))) (tNext))
  (tSeq (tAsg (uMeth C.Disk "waiting" (sp_Disk_waiting K C) (WB E) (tVar 0) (tNil)) (gName 5))
  (tSeq (tIfS (tOr (tNot (uTru K (tCB (uIsi K .list) (tCons (tVar 5) (tCons (tC (.ty "list")) (tNil)))))) (tTest (tOp (uNe K) (tCB (uLen K) (tCons (tVar 5) (tNil))) (tCB (uLen K) (tCons (tVar 2) (tNil)))))) (tRet (tC (.bl false))) (tNext))
  (tSeq (tFor (iRng1 (tCons (tCB (uLen K) (tCons (tVar 2) (tNil))) (tNil))) (gName 6)
  (tSeq (tIfS (tOr (tNot (uTru K (tCB (uIsi K .tuple) (tCons (tOp (uIx K) (tVar 5) (tVar 6)) (tCons (tC (.ty "tuple")) (tNil)))))) (tOr (tTest (tOp (uNe K) (tCB (uLen K) (tCons (tOp (uIx K) (tVar 5) (tVar 6)) (tNil))) (tC (.int 2)))) (tTest (tOp (uNe K) (tOp (uIx K) (tOp (uIx K) (tVar 5) (tVar 6)) (tC (.int 0))) (tOp (uIx K) (tOp (uIx K) (tVar 2) (tVar 6)) (tC (.int 0))))))) (tRet (tC (.bl false))) (tNext))
  (tSeq (tIfS (tNot (uTru K (uCall (sp__law_equal K C) (WB E) (tCons (tOp (uIx K) (tOp (uIx K) (tVar 5) (tVar 6)) (tC (.int 1))) (tCons (tOp (uIx K) (tOp (uIx K) (tVar 2) (tVar 6)) (tC (.int 1))) (tNil)))))) (tRet (tC (.bl false))) (tNext))
  (tAsg (tC (.int 5)) (gSub (tOp (uIx K) (tOp (uIx K) (tVar 5) (tVar 6)) (tC (.int 1))) (tC (.int 0)) uSet)))))
  (tRet (tC (.bl true))))))
theorem pure__law_look {K : PySem.W.Frag} {C : Ex} {vs : List V} {H : Hp} {Q : VK} {E : XK} (F : Fa K C) (h : sp__law_look K C vs H Q E) : t__law_look K C E { nx := fun _ H' => Q .non H', rt := Q } (start ["_law_disk", "_law_lasts", "_law_writes", "_law_many", "_law_sector_here", "_law_told", "_law_k"] vs) H := by
  obtain ⟨x, b, c, e, f, rfl, M, d, a, w, n, pl, lw, D, kvs, ls, vsW, many, s, m, rfl, rfl, rfl, rfl, rfl, X, P, hm, s0, s1, kk⟩ := h
  have cn := X.cn
  have sz := X.sz
  have lW := X.W.1
  obtain ⟨dx, i⟩ := X.dk.ins
  unfold dkO at i
  unfold t__law_look
  walk_at "run1"
  refine w_read X.dk P.ok X.r8 P.pw s0 (by omega) fun p1 hp1 H1 st1 e1 => ?_
  have X1 := X.same st1
  walk_at "run1"
  refine w_S3 ⟨pl, lw, kvs, ls, D.wr, vsW, s, rfl, rfl, rfl, X1.epl, X1.N, X1.elw, X1.W, by omega, fun l2 H2 hl2 st2 e2 l8 => ?_⟩
  rw [← X1.rd s0 s1] at e2 l8
  walk_at "run1"
  refine w_S2 ⟨p1, l2, _, rfl, rfl, SqL.of (st2 _ _ e1), SqL.of e2, l8, ?_⟩
  have X2 := X1.same st2
  have st12 := st1.trans st2
  have i2 := st12 _ _ i
  clear X1 X i e1 e2 l8 hl2 hp1
  walk_at "run1"
  refine w_S1 ⟨d, a, w, n, D, rfl, X2.dk, by omega, fun p3 hp3 H3 vs3 s3 e3 r3 nw => ?_⟩
  have l3 := r3.1
  have X3 := X2.same s3
  have elw3 := X3.elw
  walk_at "run1"
  refine w_isi_list_L (SqL.of e3) ?_
  walk_at "run1"
  · rename_i h
    exact absurd (by omega) h
  walk_at "run1"
  obtain ⟨qs, lq, nd, hn, ht⟩ := nw
  have row : ∀ j : Nat, j < vs3.length → ∃ t q s r, vs3[j]? = some (.ref t) ∧ qs[j]? = some q ∧ D.wr[j]? = some (s, r) ∧ r.length = 8 ∧ H3 t = some (.tup [.int s, .ref q]) ∧ H3 q = some (.lst (r.map V.int)) := fun j hj => by
    obtain ⟨t, x, q, e4, e5, e6⟩ := ht j _ (List.getElem?_eq_getElem hj)
    obtain ⟨s, r, e7, t2, y, e8, e9, l8, p, rfl, hp⟩ := r3.2 j _ (List.getElem?_eq_getElem hj)
    rw [e4] at e8
    cases e8
    rw [e6] at e9
    cases e9
    exact ⟨t, q, s, r, (List.getElem?_eq_getElem hj).trans (by rw [e4]), e5, e7, l8, e6, hp⟩
  refine f_range (fun i σ H' => Same H2 H' ∧ (∃ v6, σ = [some (.ref d), some (.ref pl), some (.ref lw), some (.int many), some (.int s), some (.ref p3), v6]) ∧ H' p3 = some (.lst vs3) ∧ (∀ t xs, H3 t = some (.tup xs) → H' t = some (.tup xs)) ∧
    ∀ (j : Nat) q s r, i ≤ j → qs[j]? = some q → D.wr[j]? = some (s, r) → H' q = some (.lst (r.map V.int)))
    ⟨s3, ⟨none, rfl⟩, e3, fun _ _ h => h, fun j q s r _ h1 h2 => ?_⟩ ?_ ?_
  · obtain ⟨t, q', s', r', _, b1, b2, _, _, b3⟩ := row j (by rw [← lq]; exact (List.getElem?_eq_some_iff.mp h1).1)
    rw [h1] at b1
    rw [h2] at b2
    cases b1
    cases b2
    exact b3
  · rintro i σ H' hi ⟨s', ⟨v6, rfl⟩, h3, hT, hR⟩
    have hi' : i < vs3.length := by omega
    obtain ⟨t, q, s9, r, b1, b2, b3, l8, b4, b5⟩ := row i hi'
    have X' := X2.same s'
    obtain ⟨s8, r8, b6, t2, y, b7, b8, _, q2, rfl, b9⟩ := X'.W.2 i _ (List.getElem?_eq_getElem (show i < vsW.length by omega))
    rw [b3] at b6
    cases b6
    have b10 : vsW[i]? = some (.ref t2) := (List.getElem?_eq_getElem (show i < vsW.length by omega)).trans (by rw [b7])
    have ht4 := hT _ _ b4
    have hq4 := hR i q _ _ (Nat.le_refl i) b2 b3
    have elw4 := X'.elw
    walk_at "run1"
    refine w_ixL (k := i) (SqL.of h3) (by omega) b1 ?_
    walk_at "run1"
    refine w_isi_tuple_T (SqT.of ht4) ?_
    walk_at "run1"
    refine w_ixL (k := i) (SqL.of h3) (by omega) b1 ?_
    walk_at "run1"
    refine w_ixL (k := i) (SqL.of h3) (by omega) b1 ?_
    walk_at "run1"
    refine w_ixL (k := i) (SqL.of elw4) (by omega) b10 ?_
    walk_at "run1"
    refine w_ixL (k := i) (SqL.of h3) (by omega) b1 ?_
    walk_at "run1"
    refine w_ixL (k := i) (SqL.of elw4) (by omega) b10 ?_
    walk_at "run1"
    refine w_S2 ⟨q, q2, r, rfl, rfl, SqL.of hq4, SqL.of b9, l8, ?_⟩
    walk_at "run1"
    refine w_ixL (k := i) (SqL.of h3) (by omega) b1 ?_
    walk_at "run1"
    refine w_setL hq4 ⟨by omega, by rw [List.length_map]; omega⟩ ?_
    have nq : H2 q = none := hn q (List.mem_of_getElem? b2)
    refine ⟨same_upd s' nq, ⟨_, rfl⟩, upd_oth h3 (ne_of h3 hq4 fun z => row_ne l8 r3.ref z.symm), fun t xs e => upd_oth (hT t xs e) (ne_of (hT t xs e) hq4 fun z => nomatch z), fun j q' s r hj g1 g2 => ?_⟩
    refine upd_oth (hR j q' s r (by omega) g1 g2) fun z => ?_
    rw [z] at g1
    have := nodup_at nd g1 b2
    omega
  · rintro σ H' ⟨s', ⟨v6, rfl⟩, _⟩
    walk_at "run1"
    exact kk _ (st12.trans s')
/-- rows that a law spoils one by one -/
structure RowI (H : Hp) (p : Addr) (vs : List V) (qs : List Addr) (rs : List (List Int)) (i : Nat) : Prop where
  ls : H p = some (.lst vs)
  rw : ∀ (j : Nat) q r, i ≤ j → qs[j]? = some q → rs[j]? = some r → H q = some (.lst (r.map V.int))
section
variable {H H' : Hp} {p q : Addr} {vs : List V} {qs : List Addr} {rs : List (List Int)} {i : Nat} {r : List Int} {o : HO}
theorem RowI.same (x : RowI H p vs qs rs i) (s : Same H H') : RowI H' p vs qs rs i := ⟨s _ _ x.ls, fun j q r a b c => s _ _ (x.rw j q r a b c)⟩
theorem RowI.hit (x : RowI H p vs qs rs i) (hv : AllRef vs) (nd : qs.Nodup) (hq : qs[i]? = some q) (e : H q = some (.lst (r.map V.int))) (l8 : r.length = 8) : RowI (upd H q o) p vs qs rs (i + 1) :=
  ⟨upd_oth x.ls (ne_of x.ls e fun z => row_ne l8 hv z.symm), fun j q' r' a b c => upd_oth (x.rw j q' r' (by omega) b c) fun z => by
    rw [z] at b
    have := nodup_at nd b hq
    omega⟩
theorem RowI.miss (x : RowI H p vs qs rs i) (hv : AllRef vs) (hq : q ∉ qs) (e : H q = some (.lst (r.map V.int))) (l8 : r.length = 8) : RowI (upd H q o) p vs qs rs i :=
  ⟨upd_oth x.ls (ne_of x.ls e fun z => row_ne l8 hv z.symm), fun j q' r' a b c => upd_oth (x.rw j q' r' a b c) fun z => hq (by rw [← z]; exact List.mem_of_getElem? b)⟩
theorem RowI.of (e : H p = some (.lst vs)) (rr : RowsAt H vs rs) (q : vs = qs.map V.ref) : RowI H p vs qs rs 0 := ⟨e, fun j a r _ h1 h2 => by
  have hv : vs[j]? = some (.ref a) := by rw [q, List.getElem?_map, h1]; rfl
  obtain ⟨r', e', _, p', ep, hp⟩ := rr.2 j _ hv
  rw [h2] at e'
  cases e'
  cases ep
  exact hp⟩
end
def sp__law_images (K : PySem.W.Frag) (C : Ex) : Sp := S4 fun x b c e H Q _ => ∃ (M : Hp) (d a w n pl lw : Addr) (D : DiskS) (kvs : List (Key × V)) (ls : List (Int × List Int)) (vsW : List V) (many : Int) (m : Nat), x = .ref d ∧ b = .ref pl ∧ c = .ref lw ∧ e = .int many ∧
  LawD C M H d a w n pl lw D kvs ls vsW many m ∧ DskP D ∧ m ≤ 1000 ∧ ∀ H', Same H H' → Q (.bl true) H'
def t__law_images (K : PySem.W.Frag) (C : Ex) (E : XK) : TS :=
  tSeq (tAsg (uMeth C.Disk "lasting" (sp_Disk_lasting K C) (WB E) (tVar 0) (tNil)) (gName 4))
  (tSeq (tAsg (uMeth C.Disk "image" (sp_Disk_image K C) (WB E) (tVar 0) (tNil)) (gName 5))
  (tSeq (tIfS (tOr (tNot (uTru K (tCB (uIsi K .list) (tCons (tVar 4) (tCons (tC (.ty "list")) (tNil)))))) (tOr (tNot (uTru K (tCB (uIsi K .list) (tCons (tVar 5) (tCons (tC (.ty "list")) (tNil)))))) (tOr (tTest (tOp (uNe K) (tCB (uLen K) (tCons (tVar 4) (tNil))) (tVar 3))) (tTest (tOp (uNe K) (tCB (uLen K) (tCons (tVar 5) (tNil))) (tVar 3)))))) (tRet (tC (.bl false))) (tNext))
  (tSeq (tFor (iRng1 (tCons (tVar 3) (tNil))) (gName 6)
  (tSeq (tIfS (tNot (uTru K (uCall (sp__law_equal K C) (WB E) (tCons (tOp (uIx K) (tVar 4) (tVar 6)) (tCons (tDGet2 (tVar 1) (tVar 6) (uCall (sp__law_zeros K C) (WB E) tNil)) (tNil)))))) (tRet (tC (.bl false))) (tNext))
  (tSeq (tIfS (tNot (uTru K (uCall (sp__law_equal K C) (WB E) (tCons (tOp (uIx K) (tVar 5) (tVar 6)) (tCons (uCall (sp__law_due K C) (WB E) (tCons (tVar 1) (tCons (tVar 2) (tCons (tVar 6) (tNil))))) (tNil)))))) (tRet (tC (.bl false))) (tNext))
  (tSeq (tAsg (tC (.int 3)) (gSub (tOp (uIx K) (tVar 4) (tVar 6)) (tC (.int 1)) uSet))
  (tAsg (tC (.int 3)) (gSub (tOp (uIx K) (tVar 5) (tVar 6)) (tC (.int 2)) uSet))))))
  (tRet (tC (.bl true))))))
theorem pure__law_images {K : PySem.W.Frag} {C : Ex} {vs : List V} {H : Hp} {Q : VK} {E : XK} (F : Fa K C) (h : sp__law_images K C vs H Q E) : t__law_images K C E { nx := fun _ H' => Q .non H', rt := Q } (start ["_law_disk", "_law_lasts", "_law_writes", "_law_many", "_law_lasting", "_law_image", "_law_sector_here"] vs) H := by
  obtain ⟨x, b, c, e, rfl, M, d, a, w, n, pl, lw, D, kvs, ls, vsW, many, m, rfl, rfl, rfl, rfl, X, P, hm, kk⟩ := h
  have cn := X.cn
  have sz := X.sz
  have lW := X.W.1
  have bl := X.ok.bl
  have sz2 := X.ok.sz
  obtain ⟨dx, i⟩ := X.dk.ins
  unfold dkO at i
  unfold t__law_images
  walk_at "run1"
  refine w_S1 ⟨d, a, w, n, D, rfl, X.dk, by omega, fun p3 hp3 H3 vs3 s3 e3 r3 nw3 => ?_⟩
  have X3 := X.same s3
  have i3 := s3 _ _ i
  walk_at "run1"
  refine w_S1 ⟨d, a, w, n, D, rfl, X3.dk, X3.ok, fun p4 hp4 H4 vs4 s4 e4 r4 nw4 => ?_⟩
  have X4 := X3.same s4
  have e34 := s4 _ _ e3
  have l3 := r3.1
  have l4 : vs4.length = D.secs.length := by rw [r4.1]; unfold imgD; rw [List.length_map, List.length_range]
  walk_at "run1"
  refine w_isi_list_L (SqL.of e34) ?_
  walk_at "run1"
  refine w_isi_list_L (SqL.of e4) ?_
  walk_at "run1"
  · rename_i h
    exact absurd (by omega) h
  walk_at "run1"
  · rename_i h
    exact absurd (by omega) h
  walk_at "run1"
  obtain ⟨qs3, q3, nd3, hn3⟩ := nw3
  obtain ⟨qs4, q4, nd4, hn4⟩ := nw4
  have a3 := r3.ref
  have a4 := r4.ref
  have h83 := r3.len8
  have h84 := r4.len8
  have cross : ∀ q ∈ qs3, q ∉ qs4 := fun q h g => by
    obtain ⟨o, ho⟩ := NewL.here q3 r3 q h
    rw [hn4 q g] at ho
    cases ho
  have I3 := (RowI.of e3 r3 q3).same s4
  have I4 := RowI.of e4 r4 q4
  have hn4' : ∀ q ∈ qs4, H q = none := fun q h => s3.free (hn4 q h)
  have lq3 : qs3.length = vs3.length := by rw [q3, List.length_map]
  have lq4 : qs4.length = vs4.length := by rw [q4, List.length_map]
  have X0 := X
  clear X3 X4 e3 e4 e34 r3 r4 i3 hn4 X
  refine f_range (fun i σ H' => Same H H' ∧ (∃ v6, σ = [some (.ref d), some (.ref pl), some (.ref lw), some (.int many), some (.ref p3), some (.ref p4), v6]) ∧ RowI H' p3 vs3 qs3 D.secs i ∧ RowI H' p4 vs4 qs4 (imgD D) i)
    ⟨s3.trans s4, ⟨none, rfl⟩, I3, I4⟩ ?_ ?_
  · clear I3 I4
    rintro i σ H' hi ⟨s', ⟨v6, rfl⟩, J3, J4⟩
    have hi3 : i < D.secs.length := by omega
    obtain ⟨y3, b3⟩ : ∃ y, qs3[i]? = some y := ⟨_, List.getElem?_eq_getElem (by omega)⟩
    obtain ⟨y4, b4⟩ : ∃ y, qs4[i]? = some y := ⟨_, List.getElem?_eq_getElem (by omega)⟩
    obtain ⟨r3, g3⟩ : ∃ r, D.secs[i]? = some r := ⟨_, List.getElem?_eq_getElem hi3⟩
    have v3 : vs3[i]? = some (.ref y3) := by rw [q3, List.getElem?_map, b3]; rfl
    have v4 : vs4[i]? = some (.ref y4) := by rw [q4, List.getElem?_map, b4]; rfl
    have g4 := imgD_at hi3
    have r38 := h83 _ (List.mem_of_getElem? g3)
    have r48 := h84 _ (List.mem_of_getElem? g4)
    have er1 : r3 = (lastW ls i).getD z8 := by
      rw [← X0.ag i hi3, List.getD_eq_getElem?_getD, g3]
      rfl
    have X1 := X0.same s'
    have epl := X1.epl
    have h3 := J3.ls
    have h4 := J4.ls
    walk_at "run1"
    refine w_ixL (k := i) (SqL.of h3) (by omega) v3 ?_
    walk_at "run1"
    refine w_S0 fun zp hz => ?_
    have s8 := same_new (o := .lst ((List.replicate 8 (0 : Int)).map V.int)) hz
    have rz : RowAt (upd H' zp (.lst ((List.replicate 8 (0 : Int)).map V.int))) (.ref zp) z8 := .of rfl upd_same
    generalize upd H' zp _ = H8 at *
    have X8 := X1.same s8
    have epl8 := X8.epl
    have K3 := J3.same s8
    have K4 := J4.same s8
    obtain ⟨l83, q9, gq3, hq3⟩ := X8.N.row rz (0 + (i : Int))
    rw [show (0 + (i : Int)) = (i : Int) by omega] at gq3 hq3
    rw [← er1] at hq3
    have n3 : H y3 = none := hn3 _ (List.mem_of_getElem? b3)
    have n4 : H y4 = none := hn4' _ (List.mem_of_getElem? b4)
    walk_at "run1"
    simp only [Int.zero_add]
    rw [gq3]
    refine w_S2 ⟨y3, q9, r3, rfl, rfl, SqL.of (K3.rw i _ _ (Nat.le_refl i) b3 g3), SqL.of hq3, r38, ?_⟩
    have K4l := K4.ls
    walk_at "run1"
    refine w_ixL (k := i) (SqL.of K4l) (by omega) v4 ?_
    walk_at "run1"
    refine w_S3 ⟨pl, lw, kvs, ls, D.wr, vsW, (i : Int), rfl, rfl, rfl, X8.epl, X8.N, X8.elw, X8.W, by omega, fun l9 H9 hl9 s9 e9 l89 => ?_⟩
    rw [← X8.rd (by omega) (by omega)] at e9
    have M3 := K3.same s9
    have M4 := K4.same s9
    have M3l := M3.ls
    have z3 := M3.rw i _ _ (Nat.le_refl i) b3 g3
    have z4 := M4.rw i _ _ (Nat.le_refl i) b4 g4
    walk_at "run1"
    refine w_S2 ⟨y4, l9, _, rfl, rfl, SqL.of z4, SqL.of e9, r48, ?_⟩
    walk_at "run1"
    refine w_ixL (k := i) (SqL.of M3l) (by omega) v3 ?_
    walk_at "run1"
    refine w_setL z3 ⟨by omega, by rw [List.length_map]; omega⟩ ?_
    have nc := cross _ (List.mem_of_getElem? b3)
    have ny : y4 ≠ y3 := fun z => nc (by rw [← z]; exact List.mem_of_getElem? b4)
    have sA := same_upd (o := .lst ((r3.map V.int).set (1 : Int).toNat (.int 3))) ((s'.trans s8).trans s9) n3
    have A3 := M3.hit (o := .lst ((r3.map V.int).set (1 : Int).toNat (.int 3))) a3 nd3 b3 z3 r38
    have A4 := M4.miss (o := .lst ((r3.map V.int).set (1 : Int).toNat (.int 3))) a4 nc z3 r38
    have w4 := upd_oth (o := .lst ((r3.map V.int).set (1 : Int).toNat (.int 3))) z4 ny
    generalize upd H9 y3 _ = HA at *
    have A4l := A4.ls
    walk_at "run1"
    refine w_ixL (k := i) (SqL.of A4l) (by omega) v4 ?_
    walk_at "run1"
    refine w_setL w4 ⟨by omega, by rw [List.length_map]; omega⟩ ?_
    exact ⟨same_upd sA n4, ⟨_, rfl⟩, A3.miss a3 (fun z => cross _ z (List.mem_of_getElem? b4)) w4 r48, A4.hit a4 nd4 b4 w4 r48⟩
  · rintro σ H' ⟨s', ⟨v6, rfl⟩, _⟩
    walk_at "run1"
    exact kk _ s'
theorem same_msk {H : Hp} {l : Addr} {o : HO} (h : H l = none) : Same H (msk [l] (upd H l o)) := fun b w e => by
  have n : b ≠ l := ne_of_none e h
  refine msk_at ?_ (by simp [n])
  rw [upd_ne n]
  exact e
theorem msk_upd {H : Hp} {l : Addr} {o : HO} : Same (msk [l] H) (upd H l o) := fun b w e => by
  obtain ⟨n, e2⟩ := msk_none_iff e
  rw [upd_ne (by simpa using n)]
  exact e2
theorem Stp.mskd {S T : List Addr} {H H' : Hp} (x : Stp S H S H') : Stp S (msk T H) S (msk T H') := ⟨fun b o h n => by
  obtain ⟨m, e⟩ := msk_none_iff h
  exact msk_at (x.1 b o e n) m, fun _ h => .inl h⟩
abbrev sp_law (K : PySem.W.Frag) (_ : Ex) : Sp := spLaw K
def t_law (K : PySem.W.Frag) (C : Ex) (E : XK) : TS :=
  tSeq (tAsg (uCall (sp__law_tape K C) (WB E) (tCons (tVar 0) (tNil))) (gName 1))
  (tSeq (tAsg (tOp (uIx K) (tLst (tCons (tC (.int 96)) (tCons (tC (.int 97)) (tCons (tC (.int 130)) (tCons (tC (.int 256)) (tNil)))))) (tOp (uMod) (uCall (sp__law_at K C) (WB E) (tCons (tVar 1) (tCons (tC (.int 0)) (tNil)))) (tC (.int 4)))) (gName 2))
  (tSeq (tAsg (uMake C.Disk (sp_Disk___init__ K C) (WB E) (tCons (tVar 2) (tNil))) (gName 3))
  (tSeq (tAsg (tOp (uMul) (tC (.int 4)) (tVar 2)) (gName 4))
  (tSeq (tIfS (tTest (tOp (uNe K) (uFld C.Disk "blocks" (tVar 3)) (tVar 2))) (tRet (tC (.bl false))) (tNext))
  (tSeq (tAsg (tDNewK) (gName 5))
  (tSeq (tAsg (tLst (tNil)) (gName 6))
  (tSeq (tFor (iRng1 (tCons (tCB (uMin K) (tCons (tC (.int 50)) (tCons (tOp (uDiv) (tCB (uLen K) (tCons (tVar 1) (tNil))) (tC (.int 4))) (tNil)))) (tNil))) (gName 7)
  (tSeq (tAsg (uCall (sp__law_at K C) (WB E) (tCons (tVar 1) (tCons (tOp (uAdd K) (tOp (uMul) (tC (.int 4)) (tVar 7)) (tC (.int 1))) (tNil)))) (gName 8))
  (tSeq (tAsg (uCall (sp__law_sector K C) (WB E) (tCons (uCall (sp__law_at K C) (WB E) (tCons (tVar 1) (tCons (tOp (uAdd K) (tOp (uMul) (tC (.int 4)) (tVar 7)) (tC (.int 2))) (tNil)))) (tCons (tVar 4) (tNil)))) (gName 9))
  (tCut (tIfS (tTest (tOp (uLt K) (tOp (uMod) (tVar 8) (tC (.int 10))) (tC (.int 6)))) (tSeq (tAsg (uCall (sp__law_words K C) (WB E) (tCons (uCall (sp__law_at K C) (WB E) (tCons (tVar 1) (tCons (tOp (uAdd K) (tOp (uMul) (tC (.int 4)) (tVar 7)) (tC (.int 3))) (tNil)))) (tCons (uCall (sp__law_at K C) (WB E) (tCons (tVar 1) (tCons (tOp (uAdd K) (tOp (uMul) (tC (.int 4)) (tVar 7)) (tC (.int 4))) (tNil)))) (tNil)))) (gName 10))
  (tSeq (tAsg (tCB (uList K) (tCons (tVar 10) (tNil))) (gName 11))
  (tSeq (tDrop (uMeth C.Disk "write" (sp_Disk_write K C) (WB E) (tVar 3) (tCons (tVar 9) (tCons (tVar 11) (tNil)))))
  (tSeq (tAsg (tOp (uAdd K) (tOp (uIx K) (tVar 11) (tC (.int 0))) (tC (.int 1))) (gSub (tVar 11) (tC (.int 0)) uSet))
  (tAsg (tOp (uAdd K) (tVar 6) (tLst (tCons (tTup (tCons (tVar 9) (tCons (tVar 10) (tNil)))) (tNil)))) (gName 6)))))) (tIfS (tTest (tOp (uEq K) (tOp (uMod) (tVar 8) (tC (.int 10))) (tC (.int 6)))) (tSeq (tDrop (uMeth C.Disk "flush" (sp_Disk_flush K C) (WB E) (tVar 3) (tNil)))
  (tSeq (tAsg (uCall (sp__law_after_cut K C) (WB E) (tCons (tVar 5) (tCons (tVar 6) (tCons (tOp (uMul) (tLst (tCons (tC (.int 8)) (tNil))) (tCB (uLen K) (tCons (tVar 6) (tNil)))) (tNil))))) (gName 5))
  (tAsg (tLst (tNil)) (gName 6)))) (tIfS (tTest (tOp (uEq K) (tOp (uMod) (tVar 8) (tC (.int 10))) (tC (.int 7)))) (tSeq (tAsg (uCall (sp__law_choices K C) (WB E) (tCons (tVar 1) (tCons (tOp (uAdd K) (tOp (uMul) (tC (.int 4)) (tVar 7)) (tC (.int 2))) (tCons (tOp (uMod) (tOp (uDiv) (tVar 8) (tC (.int 10))) (tC (.int 13))) (tNil))))) (gName 12))
  (tSeq (tAsg (tCB (uList K) (tCons (tVar 12) (tNil))) (gName 11))
  (tSeq (tDrop (uMeth C.Disk "cut" (sp_Disk_cut K C) (WB E) (tVar 3) (tCons (tVar 11) (tNil))))
  (tSeq (tIfS (tTest (tOp (uNe K) (tVar 11) (tVar 12))) (tRet (tC (.bl false))) (tNext))
  (tSeq (tAsg (uCall (sp__law_after_cut K C) (WB E) (tCons (tVar 5) (tCons (tVar 6) (tCons (tVar 12) (tNil))))) (gName 5))
  (tAsg (tLst (tNil)) (gName 6))))))) (tIfS (tNot (uTru K (uCall (sp__law_refused K C) (WB E) (tCons (tVar 3) (tCons (tOp (uAdd K) (tOp (uDiv) (tVar 8) (tC (.int 10))) (tVar 7)) (tCons (tVar 4) (tNil))))))) (tRet (tC (.bl false))) (tNext)))))
  (tIfS (tNot (uTru K (uCall (sp__law_look K C) (WB E) (tCons (tVar 3) (tCons (tVar 5) (tCons (tVar 6) (tCons (tVar 4) (tCons (tVar 9) (tNil))))))))) (tRet (tC (.bl false))) (tNext))))))
  (tRet (tAndV (uCall (sp__law_images K C) (WB E) (tCons (tVar 3) (tCons (tVar 5) (tCons (tVar 6) (tCons (tVar 4) (tNil)))))) (uCall (sp__law_images K C) (WB E) (tCons (tVar 3) (tCons (tVar 5) (tCons (tVar 6) (tCons (tVar 4) (tNil)))))))))))))))
theorem pure_law {K : PySem.W.Frag} {C : Ex} {vs : List V} {H : Hp} {Q : VK} {E : XK} (F : Fa K C) (h : sp_law K C vs H Q E) : t_law K C E { nx := fun _ H' => Q .non H', rt := Q } (start ["_law_script", "_law_tape_here", "_law_blocks", "_law_disk", "_law_many", "_law_lasts", "_law_writes", "_law_k", "_law_number", "_law_sector_here", "_law_words_here", "_law_passed", "_law_choices_here"] vs) H := by
  obtain ⟨a0, rfl, p, ns, rfl, hS, hn, kk⟩ := h
  unfold t_law
  walk_at "run1"
  refine w_S1 ⟨p, ns, rfl, hS, hn, fun B0 q ts hs hq hl hT => ?_⟩
  have t0 := hT.at (0 : Int).toNat
  walk_at "run1"
  rename_i l0 hl0
  refine w_ixI (ns := [96, 97, 130, 256]) (SqL.of upd_same) ⟨by omega, by show _ < 4; omega⟩ ?_
  have hb := getD_mem (l := [96, 97, 130, 256]) (k := (ts.getD (0 : Int).toNat 0 % 4).toNat) (P := fun z => (96 : Int) ≤ z ∧ z ≤ 256) (by show _ < 4; omega) (by simp)
  have sB0 := same_new (o := .lst [.int 96, .int 97, .int 130, .int 256]) hl0
  have hl1 := sB0 _ _ hl
  generalize ([96, 97, 130, 256] : List Int).getD (ts.getD (0 : Int).toNat 0 % 4).toNat 0 = nb at *
  generalize upd B0 l0 _ = B at *
  clear t0 hl0 sB0 hl hq hs hS
  walk_at "run1"
  intro d dx hd hdx hne
  refine w_S2 ⟨d, dx, rfl, upd_same, trivial, fun z ez _ _ H1 a w n fr fa fw fn hD => ⟨rfl, ?_⟩, fun h => by rw [btw_int hb.1 hb.2] at h; cases h⟩
  cases ez
  have sB : Same B H1 := fun b o h => fr b o (by rw [upd_ne (ne_of_none h hd), upd_ne (ne_of_none h hdx)]; exact h) (ne_of_none h hd)
  have fS : ∀ b ∈ dkF d a w n, B b = none := by
    have f1 : ∀ b, upd (upd B dx (.own d)) d (.ins C.Disk dx []) b = none → B b = none := fun b h => (none_of_upd (none_of_upd h).1).1
    intro b hb
    simp only [dkF, List.mem_cons, List.not_mem_nil, or_false] at hb
    rcases hb with rfl | rfl | rfl | rfl
    · exact hd
    · exact f1 _ fa
    · exact f1 _ fw
    · exact f1 _ fn
  clear fr fa fw fn
  have on := newD_on (z := nb) hb
  have hq1 := sB _ _ hl1
  obtain ⟨dx0, i0⟩ := hD.ins
  unfold dkO at i0
  have eb : (newD nb).blocks = nb := rfl
  rw [eb] at i0
  have hmn : 0 ≤ (if (((ts.map V.int).length : Nat) : Int) / 4 < 50 then (((ts.map V.int).length : Nat) : Int) / 4 else 50) ∧ (if (((ts.map V.int).length : Nat) : Int) / 4 < 50 then (((ts.map V.int).length : Nat) : Int) / 4 else 50) ≤ 50 := by split <;> omega
  walk_at "run1"
  rename_i l3 hl3 l4 hl4
  have s2 := same_updN (o := .lst []) (same_new (o := .dK []) hl3) hl4
  have X0 : LawD C B (upd (upd H1 l3 (.dK [])) l4 (.lst [])) d a w n l3 l4 (newD nb) [] [] [] (4 * nb) 0 :=
    ⟨hD.same s2, on.ok, rfl, sB.trans s2, fS, hD.fresh hl3, (hD.same (same_new hl3)).fresh hl4, upd_old upd_same hl4, upd_same, ⟨Nat.le_refl 0, fun _ h => by simp at h, fun s => .inl ⟨rfl, rfl⟩⟩, ⟨rfl, fun i v h => by simp at h⟩, fun t ht => by
      have ht : t < (newD nb).secs.length := ht
      have sz := on.ok.sz
      have z := rd_new (z := nb) (t := (t : Int)) (by omega) (by rw [on.bl] at sz; omega)
      have e : rdS (newD nb) (t : Int) = (newD nb).secs.getD t [] := by unfold rdS; rfl
      rw [e] at z
      exact z, on.r8, Nat.le_refl 0⟩
  generalize upd (upd H1 l3 _) l4 _ = H2 at *
  clear s2 i0
  generalize hmm : (if (((ts.map V.int).length : Nat) : Int) / 4 < 50 then (((ts.map V.int).length : Nat) : Int) / 4 else 50) = mn at *
  refine f_range (fun i σ H' => ∃ (w n pl lw : Addr) (D : DiskS) (kvs : List (Key × V)) (ls : List (Int × List Int)) (vsW : List V) (v7 v8 v9 v10 v11 v12 : Option V), σ = [some (.ref p), some (.ref q), some (.int nb), some (.ref d), some (.int (4 * nb)), some (.ref pl), some (.ref lw), v7, v8, v9, v10, v11, v12] ∧
      LawD C B H' d a w n pl lw D kvs ls vsW (4 * nb) i ∧ D.left = none ∧ D.pw = true)
    ⟨w, n, l3, l4, newD nb, [], [], [], none, none, none, none, none, none, rfl, X0, rfl, rfl⟩ ?_ ?_
  · clear X0 hD on w n hl3 hl4 l3 l4 hq1 sB fS eb
    rintro i σ H2 hi ⟨w, n, pl, lw, D, kvs, ls, vsW, v7, v8, v9, v10, v11, v12, rfl, X, lf, pw⟩
    have hi' : i < 50 := by omega
    have hq2 := X.sm _ _ hl1
    have t1 := hT.at (4 * (0 + (i : Int)) + 1).toNat
    have t2 := hT.at (4 * (0 + (i : Int)) + 2).toNat
    have t3 := hT.at (4 * (0 + (i : Int)) + 3).toNat
    have t4 := hT.at (4 * (0 + (i : Int)) + 4).toNat
    walk_at "run1"
    refine w_S2 ⟨_, _, rfl, rfl, t2.1, by omega, fun H3 s s3 s0 s1 => ?_⟩
    have hq3 := s3 _ _ hq2
    have X3 := X.same s3
    generalize ts.getD (4 * (0 + (i : Int)) + 1).toNat 0 = nu at *
    have bl := X3.bl
    have sz := X3.sz
    have cn := X3.cn
    obtain ⟨dx3, i3⟩ := X3.dk.ins
    unfold dkO at i3
    have o3 : DskOn D D.blocks D.wr.length := ⟨X3.ok, lf, pw, rfl, X3.r8, Nat.le_refl _⟩
    clear X s3 hq2
    walk_at "run1"
    refine w_cut (fun σ H' => ∃ (w n pl lw : Addr) (D : DiskS) (kvs : List (Key × V)) (ls : List (Int × List Int)) (vsW : List V) (v7 v8 v10 v11 v12 : Option V), σ = [some (.ref p), some (.ref q), some (.int nb), some (.ref d), some (.int (4 * nb)), some (.ref pl), some (.ref lw), v7, v8, some (.int s), v10, v11, v12] ∧
      LawD C B H' d a w n pl lw D kvs ls vsW (4 * nb) (i + 1) ∧ D.left = none ∧ D.pw = true) ?_ ?_
    · walk_at "run1"
      · -- a write
        refine w_S2 ⟨_, _, rfl, rfl, t3, t4, fun pr hpr H4 s4 e4 => ?_⟩
        have R := wordsF_row (n := ts.getD (4 * (0 + (i : Int)) + 3).toNat 0) (e := ts.getD (4 * (0 + (i : Int)) + 4).toNat 0) t3.1
        generalize wordsF (ts.getD (4 * (0 + (i : Int)) + 3).toNat 0) (ts.getD (4 * (0 + (i : Int)) + 4).toNat 0) = wd at *
        have X4 := X3.same s4
        have i4 := s4 _ _ i3
        clear X3 i3 t1 t2 t3 t4
        walk_at "run1"
        refine w_tlist (SqL.of e4) fun l hl => ?_
        have s5 := same_new (o := .lst (wd.map V.int)) hl
        have sG := same_msk (o := .lst (wd.map V.int)) hl
        have e5 : upd H4 l (.lst (wd.map V.int)) l = some (.lst (wd.map V.int)) := upd_same
        have nl := X4.dk.fresh hl
        have XG := X4.same sG
        have rp := (RowAt.of R.1 e4).same sG
        generalize upd H4 l _ = H5 at *
        have i5 := s5 _ _ i4
        walk_at "run1"
        refine w_write (X4.same s5).dk o3 (by omega) s0 (by omega) (SqL.of e5) R.1 R.2 fun H7 hD7 st7 mk7 => ?_
        have hM := mk7 [l] (fun b hb => by rw [List.mem_singleton.mp hb]; exact ⟨⟨_, e5⟩, nl⟩) XG.dk
        have stM := st7.mskd (T := [l])
        have e7 := (st7.keep e5 nl).1
        have rpM := rp.stp XG.dk stM
        have elwM := (stM.keep XG.elw XG.nlw).1
        clear mk7 hD7 st7 i5 i4 X4 s5 sG rp e5 hl e4
        walk_at "run1"
        refine w_ixI (ns := wd) (SqL.of e7) ⟨by omega, by have := R.1; omega⟩ ?_
        walk_at "run1"
        refine w_setL e7 ⟨by omega, by rw [List.length_map]; have := R.1; omega⟩ ?_
        have s8 := msk_upd (H := H7) (l := l) (o := .lst ((wd.map V.int).set (0 : Int).toNat (.int (wd.getD (0 : Int).toNat 0 + 1))))
        generalize upd H7 l _ = H8 at *
        have elw8 := s8 _ _ elwM
        walk_at "run1"
        rename_i t9 ht9 l9 hl9
        refine w_cat (upd_old (upd_old elw8 ht9) hl9) upd_same (by rw [XG.W.1]; simp only [List.length_cons, List.length_nil]; omega) fun l10 hl10 => ?_
        have s9 := same_updN (o := .lst (vsW ++ [.ref t9])) (same_updN (o := .lst [.ref t9]) (same_new (o := .tup [.int s, .ref pr]) ht9) hl9) hl10
        walk_at "run1"
        exact ⟨_, _, _, l10, pushW D s wd, _, _, _, _, _, _, _, _, rfl, XG.push hM stM (s8.trans s9) rfl rfl rfl (by omega) s0 s1 R.1 (s8.free (none_of_upd (none_of_upd hl10).1).1) upd_same ⟨t9, _, rfl, upd_old (upd_old upd_same hl9) hl10, rpM.same (s8.trans s9)⟩, lf, pw⟩
      walk_at "run1"
      · -- a flush
        refine w_flush X3.dk o3 fun H7 w7 n7 hD7 st7 => ?_
        have elw7 := (st7.keep X3.elw X3.nlw).1
        have epl7 := (st7.keep X3.epl X3.npl).1
        have N7 := X3.N.map fun _ _ y => y.stp X3.dk st7
        have W7 := X3.W.stp X3.dk st7
        have lW := X3.W.1
        walk_at "run1"
        rename_i l8 hl8 l9 hl9
        have s9 := same_updN (o := .lst ((List.replicate ((vsW.length : Nat) : Int).toNat (8 : Int)).map V.int)) (same_new (o := .lst [.int 8]) hl8) hl9
        have e9 : upd (upd H7 l8 (.lst [.int 8])) l9 (.lst ((List.replicate ((vsW.length : Nat) : Int).toNat (8 : Int)).map V.int)) l9 = some (.lst ((List.replicate ((vsW.length : Nat) : Int).toNat (8 : Int)).map V.int)) := upd_same
        generalize upd (upd H7 l8 _) l9 _ = H9 at *
        refine w_S3 ⟨pl, lw, l9, kvs, ls, D.wr, vsW, List.replicate ((vsW.length : Nat) : Int).toNat 8, rfl, rfl, rfl, s9 _ _ epl7, N7.same s9, s9 _ _ elw7, W7.same s9, SqL.of e9, fun z hz => by rw [List.eq_of_mem_replicate hz]; decide, by omega, fun lb H10 kvs10 hlb s10 e10 N10 => ?_⟩
        walk_at "run1"
        rename_i l11 hl11
        have s11 := same_new (o := .lst []) hl11
        have eR : List.replicate ((vsW.length : Nat) : Int).toNat (8 : Int) = List.replicate D.wr.length 8 := by rw [Int.toNat_natCast, lW]
        rw [eR] at N10
        have fc : (flushD D).secs = cutS D.secs D.wr (List.replicate D.wr.length 8) := by
          obtain ⟨vs0, _, rr0⟩ := X3.dk.sec
          exact flush_cut _ _ (fun x hx => ⟨X3.W.len8 x hx, by have := X3.ok.wk x hx; have := X3.bl; omega⟩) rr0.len8
        refine ⟨_, _, _, _, flushD D, _, _, _, _, _, _, _, _, rfl, (X3.reset (H' := upd H10 l11 (.lst [])) (lw' := l11) hD7 st7 ((s9.trans s10).trans s11) rfl rfl (by rw [fc, cutS_len]) (s9.free hlb) (s11 _ _ e10) (N10.same s11) (s9.free (s10.free hl11)) upd_same ?_ (by rw [cutL_len]; omega)).mono (Nat.le_succ _), lf, pw⟩
        rw [fc]
        exact Agr.cut _ _ _ _ X3.ag fun x hx => by have := X3.ok.wk x hx; have := X3.bl; omega
      walk_at "run1"
      · -- a cut
        refine w_S3 ⟨q, ts, _, _, rfl, rfl, rfl, SqL.of hq3, by omega, ⟨by omega, by omega⟩, hT, fun lc hlc H5 cs s5 ec hcs lcs => ?_⟩
        have X5 := X3.same s5
        have i5 := s5 _ _ i3
        walk_at "run1"
        refine w_tlist (SqL.of ec) fun lp hlp => ?_
        have s6 := same_new (o := .lst (cs.map V.int)) hlp
        have ep : upd H5 lp (.lst (cs.map V.int)) lp = some (.lst (cs.map V.int)) := upd_same
        have nlp := X5.dk.fresh hlp
        have nlc := (X3.dk.same (L2.Same.refl _)).fresh hlc
        generalize upd H5 lp _ = H6 at *
        have X6 := X5.same s6
        have i6 := s6 _ _ i5
        have ec6 := s6 _ _ ec
        clear X5 i5 ec X3 i3
        walk_at "run1"
        refine w_S2 ⟨d, a, w, n, D, lp, _, rfl, rfl, X6.dk, X6.ok, SqL.of ep, fun y hy => ?_, fun h => nlp (by rw [h]; simp [dkF]), fun h => ?_, fun cs2 ecs _ H7 w7 n7 hD7 st7 => ?_⟩
        · obtain ⟨i, _, rfl⟩ := List.mem_map.mp hy
          trivial
        · have : (cs.map V.int).all (btw 0 8) = true := List.all_eq_true.mpr fun y hy => by
            obtain ⟨i, hi, rfl⟩ := List.mem_map.mp hy
            exact btw_int (hcs i hi).1 (hcs i hi).2
          rw [this] at h
          cases h
        obtain rfl : cs = cs2 := (List.map_inj_right (fun _ _ h => V.int.inj h)).mp ecs
        have elw7 := (st7.keep X6.elw X6.nlw).1
        have epl7 := (st7.keep X6.epl X6.npl).1
        have ec7 := (st7.keep ec6 nlc).1
        have ep7 := (st7.keep ep nlp).1
        have N7 := X6.N.map fun _ _ y => y.stp X6.dk st7
        have W7 := X6.W.stp X6.dk st7
        walk_at "run1"
        refine w_neD (Dt.list (SqL.of ep7) (DtAll.ints cs)) (Dt.list (SqL.of ec7) (DtAll.ints cs)) (by decide) ⟨_, rfl⟩ ?_
        rw [decide_eq_true rfl]
        walk_at "run1"
        refine w_S3 ⟨pl, lw, lc, kvs, ls, D.wr, vsW, cs, rfl, rfl, rfl, epl7, N7, elw7, W7, SqL.of ec7, hcs, by omega, fun lb H10 kvs10 hlb s10 e10 N10 => ?_⟩
        walk_at "run1"
        rename_i l11 hl11
        have s11 := same_new (o := .lst []) hl11
        refine ⟨_, _, _, _, cutD D cs, _, _, _, _, _, _, _, _, rfl, (X6.reset (H' := upd H10 l11 (.lst [])) (lw' := l11) hD7 st7 (s10.trans s11) rfl rfl (cutS_len _ _ _) hlb (s11 _ _ e10) (N10.same s11) (s10.free hl11) upd_same ?_ (by rw [cutL_len]; omega)).mono (Nat.le_succ _), rfl, rfl⟩
        exact Agr.cut _ _ _ _ X6.ag fun x hx => by have := X6.ok.wk x hx; have := X6.bl; omega
      -- what is refused
      walk_at "run1"
      refine w_S3 ⟨d, a, w, n, D, _, _, rfl, rfl, rfl, X3.dk, ⟨X3.ok, lf, pw⟩, by omega, sz, by omega, fun H5 s5 => ?_⟩
      walk_at "run1"
      exact ⟨_, _, _, _, D, _, _, _, _, _, _, _, _, rfl, (X3.same s5).mono (Nat.le_succ _), lf, pw⟩
    · clear X3 i3 o3 bl sz cn lf pw
      rintro σ H4 ⟨w, n, pl, lw, D, kvs, ls, vsW, v7, v8, v10, v11, v12, rfl, X, lf, pw⟩
      walk_at "run1"
      refine w_S5 ⟨B, d, a, w, n, pl, lw, D, kvs, ls, vsW, 4 * nb, s, i + 1, rfl, rfl, rfl, rfl, rfl, X, ⟨X.ok, lf, pw⟩, by omega, s0, s1, fun H5 s5 => ?_⟩
      walk_at "run1"
      exact ⟨_, _, _, _, D, _, _, _, _, _, _, _, _, _, rfl, X.same s5, lf, pw⟩
  rintro σ H2 ⟨w, n, pl, lw, D, kvs, ls, vsW, v7, v8, v9, v10, v11, v12, rfl, X, lf, pw⟩
  walk_at "run1"
  refine w_S4 ⟨B, d, a, w, n, pl, lw, D, kvs, ls, vsW, 4 * nb, _, rfl, rfl, rfl, rfl, X, ⟨X.ok, lf, pw⟩, by omega, fun H3 s3 => ?_⟩
  walk_at "run1"
  refine w_S4 ⟨B, d, a, w, n, pl, lw, D, kvs, ls, vsW, 4 * nb, _, rfl, rfl, rfl, rfl, X.same s3, ⟨X.ok, lf, pw⟩, by omega, fun H4 s4 => ?_⟩
  walk_at "run1"
  exact kk _
def topS (i : Nat) : Stmt := PySem.Challenge.pw_laminae_k04_disk_reads_and_cuts.main.body.getD i (.Pass ⟨0, 0, 0, 0⟩)
abbrev s_is_between : Stmt := topS 7
theorem sc_is_between : FnScope ["value", "low", "high"] ["value", "low", "high"] (defScope s_is_between) := ⟨rfl, rfl, rfl, by decide +kernel, rfl, by decide +kernel, by decide +kernel⟩
abbrev s_is_word : Stmt := topS 8
theorem sc_is_word : FnScope ["value"] ["value"] (defScope s_is_word) := ⟨rfl, rfl, rfl, by decide +kernel, rfl, by decide +kernel, by decide +kernel⟩
abbrev s_are_words : Stmt := topS 9
theorem sc_are_words : FnScope ["values", "many", "value"] ["values", "many"] (defScope s_are_words) := ⟨rfl, rfl, rfl, by decide +kernel, rfl, by decide +kernel, by decide +kernel⟩
abbrev s_Disk___init__ : Stmt := inClass (topS 15) 0
theorem sc_Disk___init__ : FnScope ["self", "blocks", "sector"] ["self", "blocks"] (defScope s_Disk___init__) := ⟨rfl, rfl, rfl, by decide +kernel, rfl, by decide +kernel, by decide +kernel⟩
abbrev s_Disk_read : Stmt := inClass (topS 15) 1
theorem sc_Disk_read : FnScope ["self", "sector"] ["self", "sector"] (defScope s_Disk_read) := ⟨rfl, rfl, rfl, by decide +kernel, rfl, by decide +kernel, by decide +kernel⟩
abbrev s_Disk_operate : Stmt := inClass (topS 15) 2
theorem sc_Disk_operate : FnScope ["self"] ["self"] (defScope s_Disk_operate) := ⟨rfl, rfl, rfl, by decide +kernel, rfl, by decide +kernel, by decide +kernel⟩
abbrev s_Disk_write : Stmt := inClass (topS 15) 3
theorem sc_Disk_write : FnScope ["self", "sector", "words"] ["self", "sector", "words"] (defScope s_Disk_write) := ⟨rfl, rfl, rfl, by decide +kernel, rfl, by decide +kernel, by decide +kernel⟩
abbrev s_Disk_flush : Stmt := inClass (topS 15) 4
theorem sc_Disk_flush : FnScope ["self", "sector", "words"] ["self"] (defScope s_Disk_flush) := ⟨rfl, rfl, rfl, by decide +kernel, rfl, by decide +kernel, by decide +kernel⟩
abbrev s_Disk_waiting : Stmt := inClass (topS 15) 5
theorem sc_Disk_waiting : FnScope ["self", "sector", "words"] ["self"] (defScope s_Disk_waiting) := ⟨rfl, rfl, rfl, by decide +kernel, rfl, by decide +kernel, by decide +kernel⟩
abbrev s_Disk_cut : Stmt := inClass (topS 15) 7
theorem sc_Disk_cut : FnScope ["self", "choices", "choice", "index", "sector", "words", "kept"] ["self", "choices"] (defScope s_Disk_cut) := ⟨rfl, rfl, rfl, by decide +kernel, rfl, by decide +kernel, by decide +kernel⟩
abbrev s_Disk_image : Stmt := inClass (topS 15) 8
theorem sc_Disk_image : FnScope ["self", "rows", "sector"] ["self"] (defScope s_Disk_image) := ⟨rfl, rfl, rfl, by decide +kernel, rfl, by decide +kernel, by decide +kernel⟩
abbrev s_Disk_lasting : Stmt := inClass (topS 15) 9
theorem sc_Disk_lasting : FnScope ["self", "words"] ["self"] (defScope s_Disk_lasting) := ⟨rfl, rfl, rfl, by decide +kernel, rfl, by decide +kernel, by decide +kernel⟩
abbrev s__law_tape : Stmt := topS 17
theorem sc__law_tape : FnScope ["_law_script", "_law_tape_here", "_law_k", "_law_value", "_law_step"] ["_law_script"] (defScope s__law_tape) := ⟨rfl, rfl, rfl, by decide +kernel, rfl, by decide +kernel, by decide +kernel⟩
abbrev s__law_at : Stmt := topS 18
theorem sc__law_at : FnScope ["_law_tape_here", "_law_k"] ["_law_tape_here", "_law_k"] (defScope s__law_at) := ⟨rfl, rfl, rfl, by decide +kernel, rfl, by decide +kernel, by decide +kernel⟩
abbrev s__law_zeros : Stmt := topS 19
theorem sc__law_zeros : FnScope [] [] (defScope s__law_zeros) := ⟨rfl, rfl, rfl, by decide +kernel, rfl, by decide +kernel, by decide +kernel⟩
abbrev s__law_words : Stmt := topS 20
theorem sc__law_words : FnScope ["_law_number", "_law_extra", "_law_words_here", "_law_j"] ["_law_number", "_law_extra"] (defScope s__law_words) := ⟨rfl, rfl, rfl, by decide +kernel, rfl, by decide +kernel, by decide +kernel⟩
abbrev s__law_sector : Stmt := topS 21
theorem sc__law_sector : FnScope ["_law_number", "_law_many", "_law_menu"] ["_law_number", "_law_many"] (defScope s__law_sector) := ⟨rfl, rfl, rfl, by decide +kernel, rfl, by decide +kernel, by decide +kernel⟩
abbrev s__law_due : Stmt := topS 22
theorem sc__law_due : FnScope ["_law_lasts", "_law_writes", "_law_sector_here", "_law_k", "_law_write"] ["_law_lasts", "_law_writes", "_law_sector_here"] (defScope s__law_due) := ⟨rfl, rfl, rfl, by decide +kernel, rfl, by decide +kernel, by decide +kernel⟩
abbrev s__law_after_cut : Stmt := topS 23
theorem sc__law_after_cut : FnScope ["_law_lasts", "_law_writes", "_law_choices_here", "_law_after", "_law_k", "_law_kept", "_law_sector_here", "_law_old"] ["_law_lasts", "_law_writes", "_law_choices_here"] (defScope s__law_after_cut) := ⟨rfl, rfl, rfl, by decide +kernel, rfl, by decide +kernel, by decide +kernel⟩
abbrev s__law_equal : Stmt := topS 24
theorem sc__law_equal : FnScope ["_law_told", "_law_due_here", "_law_j"] ["_law_told", "_law_due_here"] (defScope s__law_equal) := ⟨rfl, rfl, rfl, by decide +kernel, rfl, by decide +kernel, by decide +kernel⟩
abbrev s__law_choices : Stmt := topS 25
theorem sc__law_choices : FnScope ["_law_tape_here", "_law_start", "_law_many", "_law_choices_here", "_law_k", "_law_number"] ["_law_tape_here", "_law_start", "_law_many"] (defScope s__law_choices) := ⟨rfl, rfl, rfl, by decide +kernel, rfl, by decide +kernel, by decide +kernel⟩
abbrev s__law_refused : Stmt := topS 26
theorem sc__law_refused : FnScope ["_law_disk", "_law_number", "_law_many", "_law_words_here", "_law_kind", "e"] ["_law_disk", "_law_number", "_law_many"] (defScope s__law_refused) := ⟨rfl, rfl, rfl, by decide +kernel, rfl, by decide +kernel, by decide +kernel⟩
abbrev s__law_look : Stmt := topS 27
theorem sc__law_look : FnScope ["_law_disk", "_law_lasts", "_law_writes", "_law_many", "_law_sector_here", "_law_told", "_law_k"] ["_law_disk", "_law_lasts", "_law_writes", "_law_many", "_law_sector_here"] (defScope s__law_look) := ⟨rfl, rfl, rfl, by decide +kernel, rfl, by decide +kernel, by decide +kernel⟩
abbrev s__law_images : Stmt := topS 28
theorem sc__law_images : FnScope ["_law_disk", "_law_lasts", "_law_writes", "_law_many", "_law_lasting", "_law_image", "_law_sector_here"] ["_law_disk", "_law_lasts", "_law_writes", "_law_many"] (defScope s__law_images) := ⟨rfl, rfl, rfl, by decide +kernel, rfl, by decide +kernel, by decide +kernel⟩
abbrev s_law : Stmt := topS 29
theorem sc_law : FnScope ["_law_script", "_law_tape_here", "_law_blocks", "_law_disk", "_law_many", "_law_lasts", "_law_writes", "_law_k", "_law_number", "_law_sector_here", "_law_words_here", "_law_passed", "_law_choices_here"] ["_law_script"] (defScope s_law) := ⟨rfl, rfl, rfl, by decide +kernel, rfl, by decide +kernel, by decide +kernel⟩
structure Adr where
  ex : Ex
  f_is_between : Addr
  d_is_between : FuncData
  f_is_word : Addr
  d_is_word : FuncData
  f_are_words : Addr
  d_are_words : FuncData
  f_Disk___init__ : Addr
  d_Disk___init__ : FuncData
  f_Disk_read : Addr
  d_Disk_read : FuncData
  f_Disk_operate : Addr
  d_Disk_operate : FuncData
  f_Disk_write : Addr
  d_Disk_write : FuncData
  f_Disk_flush : Addr
  d_Disk_flush : FuncData
  f_Disk_waiting : Addr
  d_Disk_waiting : FuncData
  f_Disk_cut : Addr
  d_Disk_cut : FuncData
  f_Disk_image : Addr
  d_Disk_image : FuncData
  f_Disk_lasting : Addr
  d_Disk_lasting : FuncData
  f__law_tape : Addr
  d__law_tape : FuncData
  f__law_at : Addr
  d__law_at : FuncData
  f__law_zeros : Addr
  d__law_zeros : FuncData
  f__law_words : Addr
  d__law_words : FuncData
  f__law_sector : Addr
  d__law_sector : FuncData
  f__law_due : Addr
  d__law_due : FuncData
  f__law_after_cut : Addr
  d__law_after_cut : FuncData
  f__law_equal : Addr
  d__law_equal : FuncData
  f__law_choices : Addr
  d__law_choices : FuncData
  f__law_refused : Addr
  d__law_refused : FuncData
  f__law_look : Addr
  d__law_look : FuncData
  f__law_images : Addr
  d__law_images : FuncData
  f_law : Addr
  d_law : FuncData
structure Top (K : PySem.W.Frag) (mg : Str → Option Value) (A : Adr) : Prop where
  F_is_between : Fun K "is_between" "is_between" s_is_between A.f_is_between A.d_is_between
  b_is_between : Binds K A.d_is_between ["value", "low", "high"] []
  g_is_between : mg "is_between" = some (.ref A.f_is_between)
  F_is_word : Fun K "is_word" "is_word" s_is_word A.f_is_word A.d_is_word
  b_is_word : Binds K A.d_is_word ["value"] []
  g_is_word : mg "is_word" = some (.ref A.f_is_word)
  F_are_words : Fun K "are_words" "are_words" s_are_words A.f_are_words A.d_are_words
  b_are_words : Binds K A.d_are_words ["values", "many"] []
  g_are_words : mg "are_words" = some (.ref A.f_are_words)
  F_Disk___init__ : Fun K "__init__" "Disk.__init__" s_Disk___init__ A.f_Disk___init__ A.d_Disk___init__
  b_Disk___init__ : Binds K A.d_Disk___init__ ["self", "blocks"] []
  F_Disk_read : Fun K "read" "Disk.read" s_Disk_read A.f_Disk_read A.d_Disk_read
  b_Disk_read : Binds K A.d_Disk_read ["self", "sector"] []
  m_Disk_read : Meth K A.ex.Disk "read" A.f_Disk_read
  F_Disk_operate : Fun K "operate" "Disk.operate" s_Disk_operate A.f_Disk_operate A.d_Disk_operate
  b_Disk_operate : Binds K A.d_Disk_operate ["self"] []
  m_Disk_operate : Meth K A.ex.Disk "operate" A.f_Disk_operate
  F_Disk_write : Fun K "write" "Disk.write" s_Disk_write A.f_Disk_write A.d_Disk_write
  b_Disk_write : Binds K A.d_Disk_write ["self", "sector", "words"] []
  m_Disk_write : Meth K A.ex.Disk "write" A.f_Disk_write
  F_Disk_flush : Fun K "flush" "Disk.flush" s_Disk_flush A.f_Disk_flush A.d_Disk_flush
  b_Disk_flush : Binds K A.d_Disk_flush ["self"] []
  m_Disk_flush : Meth K A.ex.Disk "flush" A.f_Disk_flush
  F_Disk_waiting : Fun K "waiting" "Disk.waiting" s_Disk_waiting A.f_Disk_waiting A.d_Disk_waiting
  b_Disk_waiting : Binds K A.d_Disk_waiting ["self"] []
  m_Disk_waiting : Meth K A.ex.Disk "waiting" A.f_Disk_waiting
  F_Disk_cut : Fun K "cut" "Disk.cut" s_Disk_cut A.f_Disk_cut A.d_Disk_cut
  b_Disk_cut : Binds K A.d_Disk_cut ["self", "choices"] []
  m_Disk_cut : Meth K A.ex.Disk "cut" A.f_Disk_cut
  F_Disk_image : Fun K "image" "Disk.image" s_Disk_image A.f_Disk_image A.d_Disk_image
  b_Disk_image : Binds K A.d_Disk_image ["self"] []
  m_Disk_image : Meth K A.ex.Disk "image" A.f_Disk_image
  F_Disk_lasting : Fun K "lasting" "Disk.lasting" s_Disk_lasting A.f_Disk_lasting A.d_Disk_lasting
  b_Disk_lasting : Binds K A.d_Disk_lasting ["self"] []
  m_Disk_lasting : Meth K A.ex.Disk "lasting" A.f_Disk_lasting
  F__law_tape : Fun K "_law_tape" "_law_tape" s__law_tape A.f__law_tape A.d__law_tape
  b__law_tape : Binds K A.d__law_tape ["_law_script"] []
  g__law_tape : mg "_law_tape" = some (.ref A.f__law_tape)
  F__law_at : Fun K "_law_at" "_law_at" s__law_at A.f__law_at A.d__law_at
  b__law_at : Binds K A.d__law_at ["_law_tape_here", "_law_k"] []
  g__law_at : mg "_law_at" = some (.ref A.f__law_at)
  F__law_zeros : Fun K "_law_zeros" "_law_zeros" s__law_zeros A.f__law_zeros A.d__law_zeros
  b__law_zeros : Binds K A.d__law_zeros [] []
  g__law_zeros : mg "_law_zeros" = some (.ref A.f__law_zeros)
  F__law_words : Fun K "_law_words" "_law_words" s__law_words A.f__law_words A.d__law_words
  b__law_words : Binds K A.d__law_words ["_law_number", "_law_extra"] []
  g__law_words : mg "_law_words" = some (.ref A.f__law_words)
  F__law_sector : Fun K "_law_sector" "_law_sector" s__law_sector A.f__law_sector A.d__law_sector
  b__law_sector : Binds K A.d__law_sector ["_law_number", "_law_many"] []
  g__law_sector : mg "_law_sector" = some (.ref A.f__law_sector)
  F__law_due : Fun K "_law_due" "_law_due" s__law_due A.f__law_due A.d__law_due
  b__law_due : Binds K A.d__law_due ["_law_lasts", "_law_writes", "_law_sector_here"] []
  g__law_due : mg "_law_due" = some (.ref A.f__law_due)
  F__law_after_cut : Fun K "_law_after_cut" "_law_after_cut" s__law_after_cut A.f__law_after_cut A.d__law_after_cut
  b__law_after_cut : Binds K A.d__law_after_cut ["_law_lasts", "_law_writes", "_law_choices_here"] []
  g__law_after_cut : mg "_law_after_cut" = some (.ref A.f__law_after_cut)
  F__law_equal : Fun K "_law_equal" "_law_equal" s__law_equal A.f__law_equal A.d__law_equal
  b__law_equal : Binds K A.d__law_equal ["_law_told", "_law_due_here"] []
  g__law_equal : mg "_law_equal" = some (.ref A.f__law_equal)
  F__law_choices : Fun K "_law_choices" "_law_choices" s__law_choices A.f__law_choices A.d__law_choices
  b__law_choices : Binds K A.d__law_choices ["_law_tape_here", "_law_start", "_law_many"] []
  g__law_choices : mg "_law_choices" = some (.ref A.f__law_choices)
  F__law_refused : Fun K "_law_refused" "_law_refused" s__law_refused A.f__law_refused A.d__law_refused
  b__law_refused : Binds K A.d__law_refused ["_law_disk", "_law_number", "_law_many"] []
  g__law_refused : mg "_law_refused" = some (.ref A.f__law_refused)
  F__law_look : Fun K "_law_look" "_law_look" s__law_look A.f__law_look A.d__law_look
  b__law_look : Binds K A.d__law_look ["_law_disk", "_law_lasts", "_law_writes", "_law_many", "_law_sector_here"] []
  g__law_look : mg "_law_look" = some (.ref A.f__law_look)
  F__law_images : Fun K "_law_images" "_law_images" s__law_images A.f__law_images A.d__law_images
  b__law_images : Binds K A.d__law_images ["_law_disk", "_law_lasts", "_law_writes", "_law_many"] []
  g__law_images : mg "_law_images" = some (.ref A.f__law_images)
  F_law : Fun K "law" "law" s_law A.f_law A.d_law
  b_law : Binds K A.d_law ["_law_script"] []
  g_law : mg "law" = some (.ref A.f_law)
  n_abs : mg "abs" = none
  n_bool : mg "bool" = none
  n_dict : mg "dict" = none
  n_enumerate : mg "enumerate" = none
  n_int : mg "int" = none
  n_isinstance : mg "isinstance" = none
  n_len : mg "len" = none
  n_list : mg "list" = none
  n_min : mg "min" = none
  n_range : mg "range" = none
  n_tuple : mg "tuple" = none
  k_BLOCK_SECTORS : ∃ t, mg "BLOCK_SECTORS" = some (.int 4 t)
  k_MAX_BLOCKS : ∃ t, mg "MAX_BLOCKS" = some (.int 256 t)
  k_MIN_BLOCKS : ∃ t, mg "MIN_BLOCKS" = some (.int 96 t)
  k_SECTOR_WORDS : ∃ t, mg "SECTOR_WORDS" = some (.int 8 t)
  x_BadImage : Exc K mg "BadImage" A.ex.BadImage
  x_LaminaError : Exc K mg "LaminaError" A.ex.LaminaError
  x_NotValid : Exc K mg "NotValid" A.ex.NotValid
  x_PowerOff : Exc K mg "PowerOff" A.ex.PowerOff
  n_Disk_blocks : NoAttr K A.ex.Disk "blocks"
  n_Disk_left : NoAttr K A.ex.Disk "left"
  n_Disk_newest : NoAttr K A.ex.Disk "newest"
  n_Disk_power : NoAttr K A.ex.Disk "power"
  n_Disk_sectors : NoAttr K A.ex.Disk "sectors"
  n_Disk_writes : NoAttr K A.ex.Disk "writes"
  c_Disk : Cls K A.ex.Disk
  M_Disk : Mk K A.ex.Disk A.f_Disk___init__
  gC_Disk : mg "Disk" = some (.ref A.ex.Disk)
  fa : Fa K A.ex
section
variable {P : Program} {w : World} {K : PySem.W.Frag} {mg : Str → Option Value} {base : Heap} {A : Adr}
theorem ok_is_between (T : Top K mg A) : FnOk P w K mg base (L2.CX P w) 1 A.f_is_between A.d_is_between ["value", "low", "high"] (sp_is_between K A.ex) := by
  refine T.F_is_between.okX sc_is_between (fun vs H Q E h => len3 h) (fun cdv Ar outer s H vs Q E hr h => ⟨t_is_between K A.ex E, ?_, pure_is_between T.fa h⟩)
  have tk : Takes (cxOf (L2.CX P w) P w K mg base ["value", "low", "high"] "is_between" (defScope s_is_between) A.f_is_between cdv Ar outer s H E) (WB E) := takes_of rfl rfl rfl rfl
  have hu := hu_of hr
  have hl := Nat.lt_of_succ_lt hu
  exact pss_cons (ps_if (PW.pt (pw_or (pt_not (t_tru (pe_callB (c_isi .int) (by rfl) T.n_isinstance (by decide +kernel) (pa_cons (pv 0) (pa_cons (pe_bltn rfl T.n_int (by decide +kernel) rfl) (pa_nil)))))) (pw_or1 (t_tru (pe_callB (c_isi .bool) (by rfl) T.n_isinstance (by decide +kernel) (pa_cons (pv 0) (pa_cons (pe_bltn rfl T.n_bool (by decide +kernel) rfl) (pa_nil)))))))) (pss_one (ps_ret (pe_bl))) (pss_nil))
        (pss_one (ps_ret (pe_chain (o_le hl) (o_le hl) (pv 1) (pv 0) (pv 2))))
theorem ok_is_word (T : Top K mg A) : FnOk P w K mg base (L2.CX P w) 1 A.f_is_word A.d_is_word ["value"] (sp_is_word K A.ex) := by
  refine T.F_is_word.okX sc_is_word (fun vs H Q E h => len1 h) (fun cdv Ar outer s H vs Q E hr h => ⟨t_is_word K A.ex E, ?_, pure_is_word T.fa h⟩)
  have tk : Takes (cxOf (L2.CX P w) P w K mg base ["value"] "is_word" (defScope s_is_word) A.f_is_word cdv Ar outer s H E) (WB E) := takes_of rfl rfl rfl rfl
  have hu := hu_of hr
  have hl := Nat.lt_of_succ_lt hu
  exact pss_cons (ps_if (PW.pt (pw_or (pt_not (t_tru (pe_callB (c_isi .int) (by rfl) T.n_isinstance (by decide +kernel) (pa_cons (pv 0) (pa_cons (pe_bltn rfl T.n_int (by decide +kernel) rfl) (pa_nil)))))) (pw_or1 (t_tru (pe_callB (c_isi .bool) (by rfl) T.n_isinstance (by decide +kernel) (pa_cons (pv 0) (pa_cons (pe_bltn rfl T.n_bool (by decide +kernel) rfl) (pa_nil)))))))) (pss_one (ps_ret (pe_bl))) (pss_nil))
        (pss_one (ps_ret (pe_cmpR (o_ge hl) (pv 0) (pe_int) (nomark _))))
theorem ok_are_words (T : Top K mg A) : FnOk P w K mg base (L2.CX P w) 2 A.f_are_words A.d_are_words ["values", "many"] (sp_are_words K A.ex) := by
  refine T.F_are_words.okX sc_are_words (fun vs H Q E h => len2 h) (fun cdv Ar outer s H vs Q E hr h => ⟨t_are_words K A.ex E, ?_, pure_are_words T.fa h⟩)
  have tk : Takes (cxOf (L2.CX P w) P w K mg base ["values", "many", "value"] "are_words" (defScope s_are_words) A.f_are_words cdv Ar outer s H E) (WB E) := takes_of rfl rfl rfl rfl
  have po : PassesOwn (model P w) (cxOf (L2.CX P w) P w K mg base ["values", "many", "value"] "are_words" (defScope s_are_words) A.f_are_words cdv Ar outer s H E).A (cxOf (L2.CX P w) P w K mg base ["values", "many", "value"] "are_words" (defScope s_are_words) A.f_are_words cdv Ar outer s H E).env (cxOf (L2.CX P w) P w K mg base ["values", "many", "value"] "are_words" (defScope s_are_words) A.f_are_words cdv Ar outer s H E).xe := passes_of rfl
  exact pss_cons (ps_if (PW.pt (pw_or (pt_not (t_tru (pe_callB (c_isi .list) (by rfl) T.n_isinstance (by decide +kernel) (pa_cons (pv 0) (pa_cons (pe_bltn rfl T.n_list (by decide +kernel) rfl) (pa_nil)))))) (pw_or1 (pt_cmpR (o_ne hr.units) (pe_callB (c_len) (by rfl) T.n_len (by decide +kernel) (pa_cons (pv 0) (pa_nil))) (pv 1) (nomark _))))) (pss_one (ps_ret (pe_bl))) (pss_nil))
        (pss_cons (ps_for po rfl (pi_list (pv 0)) (pg_name (i := 2) sc_are_words.nd rfl (Or.inl rfl))
        (pss_one (ps_if (pt_not (t_tru (e_call (ok_is_word T) (hr.mono (by decide)) T.g_is_word T.F_is_word.kp T.b_is_word tk (pa_cons (pv 2) (pa_nil))))) (pss_one (ps_ret (pe_bl))) (pss_nil))))
        (pss_one (ps_ret (pe_bl))))
theorem ok_Disk___init__ (T : Top K mg A) : FnOk P w K mg base (L2.CX P w) 2 A.f_Disk___init__ A.d_Disk___init__ ["self", "blocks"] (sp_Disk___init__ K A.ex) := by
  refine T.F_Disk___init__.okX sc_Disk___init__ (fun vs H Q E h => len2 h) (fun cdv Ar outer s H vs Q E hr h => ⟨t_Disk___init__ K A.ex E, ?_, pure_Disk___init__ T.fa h⟩)
  have tk : Takes (cxOf (L2.CX P w) P w K mg base ["self", "blocks", "sector"] "Disk.__init__" (defScope s_Disk___init__) A.f_Disk___init__ cdv Ar outer s H E) (WB E) := takes_of rfl rfl rfl rfl
  exact pss_cons (ps_if (pt_not (t_tru (e_call (ok_is_between T) (hr.mono (by decide)) T.g_is_between T.F_is_between.kp T.b_is_between tk (pa_cons (pv 1) (pa_cons (pe_glob rfl T.k_MIN_BLOCKS.choose_spec ⟨_, rfl⟩) (pa_cons (pe_glob rfl T.k_MAX_BLOCKS.choose_spec ⟨_, rfl⟩) (pa_nil))))))) (pss_one (s_raise T.x_NotValid tk)) (pss_nil))
        (pss_cons (s_fld T.c_Disk T.n_Disk_blocks (pv 0) (pv 1))
        (pss_cons (s_fld T.c_Disk T.n_Disk_sectors (pv 0) (pe_lc (own := [("sector", 2)]) (by rfl) sc_Disk___init__.nd (pi_range1 (by rfl) T.n_range (pa_cons (pe_op o_mul (pv 1) (pe_glob rfl T.k_BLOCK_SECTORS.choose_spec ⟨_, rfl⟩)) (pa_nil))) (blkOk_by (N := ["self", "blocks", "sector"]) (sc := defScope s_Disk___init__) (by decide +kernel)) (fun _ _ _ _ _ => pg_name (i := 2) sc_Disk___init__.nd rfl (Or.inl rfl)) (fun _ _ _ _ _ => pts_nil) (fun _ _ _ _ _ => pe_op o_mul (pe_lst (pa_cons (pe_int) (pa_nil))) (pe_glob rfl T.k_SECTOR_WORDS.choose_spec ⟨_, rfl⟩))))
        (pss_cons (s_fld T.c_Disk T.n_Disk_writes (pv 0) (pe_lst (pa_nil)))
        (pss_cons (s_fld T.c_Disk T.n_Disk_newest (pv 0) (pe_dnewK))
        (pss_cons (s_fld T.c_Disk T.n_Disk_left (pv 0) (pe_non))
        (pss_one (s_fld T.c_Disk T.n_Disk_power (pv 0) (pe_bl))))))))
theorem ok_Disk_read (T : Top K mg A) : FnOk P w K mg base (L2.CX P w) 2 A.f_Disk_read A.d_Disk_read ["self", "sector"] (sp_Disk_read K A.ex) := by
  refine T.F_Disk_read.okX sc_Disk_read (fun vs H Q E h => len2 h) (fun cdv Ar outer s H vs Q E hr h => ⟨t_Disk_read K A.ex E, ?_, pure_Disk_read T.fa h⟩)
  have tk : Takes (cxOf (L2.CX P w) P w K mg base ["self", "sector"] "Disk.read" (defScope s_Disk_read) A.f_Disk_read cdv Ar outer s H E) (WB E) := takes_of rfl rfl rfl rfl
  have hu := hu_of hr
  exact pss_cons (ps_if (pt_not (t_tru (e_fld T.c_Disk T.n_Disk_power (pv 0)))) (pss_one (s_raise T.x_PowerOff tk)) (pss_nil))
        (pss_cons (ps_if (pt_not (t_tru (e_call (ok_is_between T) (hr.mono (by decide)) T.g_is_between T.F_is_between.kp T.b_is_between tk (pa_cons (pv 1) (pa_cons (pe_int) (pa_cons (pe_op o_sub (pe_callB (c_len) (by rfl) T.n_len (by decide +kernel) (pa_cons (e_fld T.c_Disk T.n_Disk_sectors (pv 0)) (pa_nil))) (pe_int)) (pa_nil))))))) (pss_one (s_raise T.x_NotValid tk)) (pss_nil))
        (pss_cons (ps_if (pt_cmpR (o_in hu) (pv 1) (e_fld T.c_Disk T.n_Disk_newest (pv 0)) (by rfl)) (pss_one (ps_ret (pe_callTy (c_list) (by rfl) T.n_list (by decide +kernel) (pa_cons (e_dg hu (e_fld T.c_Disk T.n_Disk_newest (pv 0)) (pv 1)) (pa_nil))))) (pss_nil))
        (pss_one (ps_ret (pe_callTy (c_list) (by rfl) T.n_list (by decide +kernel) (pa_cons (e_ix (e_fld T.c_Disk T.n_Disk_sectors (pv 0)) (pv 1)) (pa_nil)))))))
theorem ok_Disk_operate (T : Top K mg A) : FnOk P w K mg base (L2.CX P w) 1 A.f_Disk_operate A.d_Disk_operate ["self"] (sp_Disk_operate K A.ex) := by
  refine T.F_Disk_operate.okX sc_Disk_operate (fun vs H Q E h => len1 h) (fun cdv Ar outer s H vs Q E hr h => ⟨t_Disk_operate K A.ex E, ?_, pure_Disk_operate T.fa h⟩)
  have tk : Takes (cxOf (L2.CX P w) P w K mg base ["self"] "Disk.operate" (defScope s_Disk_operate) A.f_Disk_operate cdv Ar outer s H E) (WB E) := takes_of rfl rfl rfl rfl
  exact pss_cut (ps_if (pt_cmpR (o_eq hr.units) (e_fld T.c_Disk T.n_Disk_left (pv 0)) (pe_int) (nomark _)) (pss_one (s_fld T.c_Disk T.n_Disk_power (pv 0) (pe_bl))) (pss_nil))
        (pss_cons (ps_if (pt_not (t_tru (e_fld T.c_Disk T.n_Disk_power (pv 0)))) (pss_one (s_raise T.x_PowerOff tk)) (pss_nil))
        (pss_one (ps_if (pt_cmpR (o_isnt) (e_fld T.c_Disk T.n_Disk_left (pv 0)) (pe_non) (nomark _)) (pss_one (s_augf T.c_Disk T.n_Disk_left (pv 0) (pe_int) in_sub)) (pss_nil))))
theorem ok_Disk_write (T : Top K mg A) : FnOk P w K mg base (L2.CX P w) 3 A.f_Disk_write A.d_Disk_write ["self", "sector", "words"] (sp_Disk_write K A.ex) := by
  refine T.F_Disk_write.okX sc_Disk_write (fun vs H Q E h => len3 h) (fun cdv Ar outer s H vs Q E hr h => ⟨t_Disk_write K A.ex E, ?_, pure_Disk_write T.fa h⟩)
  have tk : Takes (cxOf (L2.CX P w) P w K mg base ["self", "sector", "words"] "Disk.write" (defScope s_Disk_write) A.f_Disk_write cdv Ar outer s H E) (WB E) := takes_of rfl rfl rfl rfl
  have hu := hu_of hr
  exact pss_cons (ps_if (pt_not (t_tru (e_call (ok_is_between T) (hr.mono (by decide)) T.g_is_between T.F_is_between.kp T.b_is_between tk (pa_cons (pv 1) (pa_cons (pe_int) (pa_cons (pe_op o_sub (pe_callB (c_len) (by rfl) T.n_len (by decide +kernel) (pa_cons (e_fld T.c_Disk T.n_Disk_sectors (pv 0)) (pa_nil))) (pe_int)) (pa_nil))))))) (pss_one (s_raise T.x_NotValid tk)) (pss_nil))
        (pss_cons (ps_if (pt_not (t_tru (e_call (ok_are_words T) (hr.mono (by decide)) T.g_are_words T.F_are_words.kp T.b_are_words tk (pa_cons (pv 2) (pa_cons (pe_glob rfl T.k_SECTOR_WORDS.choose_spec ⟨_, rfl⟩) (pa_nil)))))) (pss_one (s_raise T.x_NotValid tk)) (pss_nil))
        (pss_cons (ps_expr (e_meth0 (pv 0) T.c_Disk T.m_Disk_operate (ok_Disk_operate T) (hr.mono (by decide)) T.b_Disk_operate tk))
        (pss_cons (ps_expr (pe_bm PySem.F.plainAttrs_list PySem.F.slot_list_append PySem.F.type_list_append mt_append (e_fld T.c_Disk T.n_Disk_writes (pv 0)) (pa_cons (pe_tup (pa_cons (pv 1) (pa_cons (pe_callTy (c_list) (by rfl) T.n_list (by decide +kernel) (pa_cons (pv 2) (pa_nil))) (pa_nil)))) (pa_nil))))
        (pss_one (ps_dput hu (e_fld T.c_Disk T.n_Disk_newest (pv 0)) (pv 1) (pe_callTy (c_list) (by rfl) T.n_list (by decide +kernel) (pa_cons (pv 2) (pa_nil))) rfl)))))
theorem ok_Disk_flush (T : Top K mg A) : FnOk P w K mg base (L2.CX P w) 2 A.f_Disk_flush A.d_Disk_flush ["self"] (sp_Disk_flush K A.ex) := by
  refine T.F_Disk_flush.okX sc_Disk_flush (fun vs H Q E h => len1 h) (fun cdv Ar outer s H vs Q E hr h => ⟨t_Disk_flush K A.ex E, ?_, pure_Disk_flush T.fa h⟩)
  have tk : Takes (cxOf (L2.CX P w) P w K mg base ["self", "sector", "words"] "Disk.flush" (defScope s_Disk_flush) A.f_Disk_flush cdv Ar outer s H E) (WB E) := takes_of rfl rfl rfl rfl
  have po : PassesOwn (model P w) (cxOf (L2.CX P w) P w K mg base ["self", "sector", "words"] "Disk.flush" (defScope s_Disk_flush) A.f_Disk_flush cdv Ar outer s H E).A (cxOf (L2.CX P w) P w K mg base ["self", "sector", "words"] "Disk.flush" (defScope s_Disk_flush) A.f_Disk_flush cdv Ar outer s H E).env (cxOf (L2.CX P w) P w K mg base ["self", "sector", "words"] "Disk.flush" (defScope s_Disk_flush) A.f_Disk_flush cdv Ar outer s H E).xe := passes_of rfl
  have hu := hu_of hr
  exact pss_cons (ps_expr (e_meth0 (pv 0) T.c_Disk T.m_Disk_operate (ok_Disk_operate T) (hr.mono (by decide)) T.b_Disk_operate tk))
        (pss_cons (ps_for po rfl (pi_list (e_fld T.c_Disk T.n_Disk_writes (pv 0))) (pg_tup rfl (pgs_cons (pg_name (i := 1) sc_Disk_flush.nd rfl (Or.inl rfl)) (pgs_cons (pg_name (i := 2) sc_Disk_flush.nd rfl (Or.inl rfl)) (pgs_nil))))
        (pss_one (ps_asg (pe_callTy (c_list) (by rfl) T.n_list (by decide +kernel) (pa_cons (pv 2) (pa_nil))) (pg_sub (e_fld T.c_Disk T.n_Disk_sectors (pv 0)) (pv 1) (set_u hu)))))
        (pss_cons (s_fld T.c_Disk T.n_Disk_writes (pv 0) (pe_lst (pa_nil)))
        (pss_one (s_fld T.c_Disk T.n_Disk_newest (pv 0) (pe_dnewK)))))
theorem ok_Disk_waiting (T : Top K mg A) : FnOk P w K mg base (L2.CX P w) 1 A.f_Disk_waiting A.d_Disk_waiting ["self"] (sp_Disk_waiting K A.ex) := by
  refine T.F_Disk_waiting.okX sc_Disk_waiting (fun vs H Q E h => len1 h) (fun cdv Ar outer s H vs Q E hr h => ⟨t_Disk_waiting K A.ex E, ?_, pure_Disk_waiting T.fa h⟩)
  have tk : Takes (cxOf (L2.CX P w) P w K mg base ["self", "sector", "words"] "Disk.waiting" (defScope s_Disk_waiting) A.f_Disk_waiting cdv Ar outer s H E) (WB E) := takes_of rfl rfl rfl rfl
  exact pss_one (ps_ret (pe_lc (own := [("sector", 1), ("words", 2)]) (by rfl) sc_Disk_waiting.nd (pi_list (e_fld T.c_Disk T.n_Disk_writes (pv 0))) (blkOk_by (N := ["self", "sector", "words"]) (sc := defScope s_Disk_waiting) (by decide +kernel)) (fun _ _ _ _ _ => pg_tup rfl (pgs_cons (pg_name (i := 1) sc_Disk_waiting.nd rfl (Or.inl rfl)) (pgs_cons (pg_name (i := 2) sc_Disk_waiting.nd rfl (Or.inl rfl)) (pgs_nil)))) (fun _ _ _ _ _ => pts_nil) (fun _ _ _ _ _ => pe_tup (pa_cons (pv 1) (pa_cons (pe_callTy (c_list) (by rfl) T.n_list (by decide +kernel) (pa_cons (pv 2) (pa_nil))) (pa_nil))))))
theorem ok_Disk_cut (T : Top K mg A) : FnOk P w K mg base (L2.CX P w) 2 A.f_Disk_cut A.d_Disk_cut ["self", "choices"] (sp_Disk_cut K A.ex) := by
  refine T.F_Disk_cut.okX sc_Disk_cut (fun vs H Q E h => len2 h) (fun cdv Ar outer s H vs Q E hr h => ⟨t_Disk_cut K A.ex E, ?_, pure_Disk_cut T.fa h⟩)
  have tk : Takes (cxOf (L2.CX P w) P w K mg base ["self", "choices", "choice", "index", "sector", "words", "kept"] "Disk.cut" (defScope s_Disk_cut) A.f_Disk_cut cdv Ar outer s H E) (WB E) := takes_of rfl rfl rfl rfl
  have po : PassesOwn (model P w) (cxOf (L2.CX P w) P w K mg base ["self", "choices", "choice", "index", "sector", "words", "kept"] "Disk.cut" (defScope s_Disk_cut) A.f_Disk_cut cdv Ar outer s H E).A (cxOf (L2.CX P w) P w K mg base ["self", "choices", "choice", "index", "sector", "words", "kept"] "Disk.cut" (defScope s_Disk_cut) A.f_Disk_cut cdv Ar outer s H E).env (cxOf (L2.CX P w) P w K mg base ["self", "choices", "choice", "index", "sector", "words", "kept"] "Disk.cut" (defScope s_Disk_cut) A.f_Disk_cut cdv Ar outer s H E).xe := passes_of rfl
  have hu := hu_of hr
  have hl := Nat.lt_of_succ_lt hu
  exact pss_cons (ps_if (pt_not (t_tru (pe_callB (c_isi .list) (by rfl) T.n_isinstance (by decide +kernel) (pa_cons (pv 1) (pa_cons (pe_bltn rfl T.n_list (by decide +kernel) rfl) (pa_nil)))))) (pss_one (s_raise T.x_NotValid tk)) (pss_nil))
        (pss_cons (ps_for po rfl (pi_list (pv 1)) (pg_name (i := 2) sc_Disk_cut.nd rfl (Or.inl rfl))
        (pss_one (ps_if (pt_not (t_tru (e_call (ok_is_between T) (hr.mono (by decide)) T.g_is_between T.F_is_between.kp T.b_is_between tk (pa_cons (pv 2) (pa_cons (pe_int) (pa_cons (pe_glob rfl T.k_SECTOR_WORDS.choose_spec ⟨_, rfl⟩) (pa_nil))))))) (pss_one (s_raise T.x_NotValid tk)) (pss_nil))))
        (pss_cons (ps_for po rfl (pi_enum (by rfl) T.n_enumerate (pa_cons (e_fld T.c_Disk T.n_Disk_writes (pv 0)) (pa_nil))) (pg_tup rfl (pgs_cons (pg_name (i := 3) sc_Disk_cut.nd rfl (Or.inl rfl)) (pgs_cons (pg_tup rfl (pgs_cons (pg_name (i := 4) sc_Disk_cut.nd rfl (Or.inl rfl)) (pgs_cons (pg_name (i := 5) sc_Disk_cut.nd rfl (Or.inl rfl)) (pgs_nil)))) (pgs_nil))))
        (pss_one (ps_if (pt_cmpR (o_lt hl) (pv 3) (pe_callB (c_len) (by rfl) T.n_len (by decide +kernel) (pa_cons (pv 1) (pa_nil))) (nomark _)) (pss_cons (ps_set (i := 6) sc_Disk_cut.nd rfl (Or.inl rfl) (e_ix (pv 1) (pv 3)))
        (pss_one (ps_asg (pe_op o_add (e_sl (pv 5) (po_none) (po_some (pv 6))) (e_sl (e_ix (e_fld T.c_Disk T.n_Disk_sectors (pv 0)) (pv 4)) (po_some (pv 6)) (po_none))) (pg_sub (e_fld T.c_Disk T.n_Disk_sectors (pv 0)) (pv 4) (set_u hu))))) (pss_nil))))
        (pss_cons (s_fld T.c_Disk T.n_Disk_writes (pv 0) (pe_lst (pa_nil)))
        (pss_cons (s_fld T.c_Disk T.n_Disk_newest (pv 0) (pe_dnewK))
        (pss_cons (s_fld T.c_Disk T.n_Disk_left (pv 0) (pe_non))
        (pss_one (s_fld T.c_Disk T.n_Disk_power (pv 0) (pe_bl))))))))
theorem ok_Disk_lasting (T : Top K mg A) : FnOk P w K mg base (L2.CX P w) 1 A.f_Disk_lasting A.d_Disk_lasting ["self"] (sp_Disk_lasting K A.ex) := by
  refine T.F_Disk_lasting.okX sc_Disk_lasting (fun vs H Q E h => len1 h) (fun cdv Ar outer s H vs Q E hr h => ⟨t_Disk_lasting K A.ex E, ?_, pure_Disk_lasting T.fa h⟩)
  have tk : Takes (cxOf (L2.CX P w) P w K mg base ["self", "words"] "Disk.lasting" (defScope s_Disk_lasting) A.f_Disk_lasting cdv Ar outer s H E) (WB E) := takes_of rfl rfl rfl rfl
  exact pss_one (ps_ret (pe_lc (own := [("words", 1)]) (by rfl) sc_Disk_lasting.nd (pi_list (e_fld T.c_Disk T.n_Disk_sectors (pv 0))) (blkOk_by (N := ["self", "words"]) (sc := defScope s_Disk_lasting) (by decide +kernel)) (fun _ _ _ _ _ => pg_name (i := 1) sc_Disk_lasting.nd rfl (Or.inl rfl)) (fun _ _ _ _ _ => pts_nil) (fun _ _ _ _ _ => pe_callTy (c_list) (by rfl) T.n_list (by decide +kernel) (pa_cons (pv 1) (pa_nil)))))
theorem ok_Disk_image (T : Top K mg A) : FnOk P w K mg base (L2.CX P w) 2 A.f_Disk_image A.d_Disk_image ["self"] (sp_Disk_image K A.ex) := by
  refine T.F_Disk_image.okX sc_Disk_image (fun vs H Q E h => len1 h) (fun cdv Ar outer s H vs Q E hr h => ⟨t_Disk_image K A.ex E, ?_, pure_Disk_image T.fa h⟩)
  have tk : Takes (cxOf (L2.CX P w) P w K mg base ["self", "rows", "sector"] "Disk.image" (defScope s_Disk_image) A.f_Disk_image cdv Ar outer s H E) (WB E) := takes_of rfl rfl rfl rfl
  have po : PassesOwn (model P w) (cxOf (L2.CX P w) P w K mg base ["self", "rows", "sector"] "Disk.image" (defScope s_Disk_image) A.f_Disk_image cdv Ar outer s H E).A (cxOf (L2.CX P w) P w K mg base ["self", "rows", "sector"] "Disk.image" (defScope s_Disk_image) A.f_Disk_image cdv Ar outer s H E).env (cxOf (L2.CX P w) P w K mg base ["self", "rows", "sector"] "Disk.image" (defScope s_Disk_image) A.f_Disk_image cdv Ar outer s H E).xe := passes_of rfl
  have hu := hu_of hr
  exact pss_cons (ps_set (i := 1) sc_Disk_image.nd rfl (Or.inl rfl) (e_meth0 (pv 0) T.c_Disk T.m_Disk_lasting (ok_Disk_lasting T) (hr.mono (by decide)) T.b_Disk_lasting tk))
        (pss_cons (ps_lock (ps_for po rfl (pi_keys (e_fld T.c_Disk T.n_Disk_newest (pv 0))) (pg_name (i := 2) sc_Disk_image.nd rfl (Or.inl rfl))
        (pss_one (ps_asg (pe_callTy (c_list) (by rfl) T.n_list (by decide +kernel) (pa_cons (e_dg hu (e_fld T.c_Disk T.n_Disk_newest (pv 0)) (pv 2)) (pa_nil))) (pg_sub (pv 1) (pv 2) (set_u hu))))))
        (pss_one (ps_ret (pv 1))))
theorem ok__law_tape (T : Top K mg A) : FnOk P w K mg base (L2.CX P w) 1 A.f__law_tape A.d__law_tape ["_law_script"] (sp__law_tape K A.ex) := by
  refine T.F__law_tape.okX sc__law_tape (fun vs H Q E h => len1 h) (fun cdv Ar outer s H vs Q E hr h => ⟨t__law_tape K A.ex E, ?_, pure__law_tape T.fa h⟩)
  have tk : Takes (cxOf (L2.CX P w) P w K mg base ["_law_script", "_law_tape_here", "_law_k", "_law_value", "_law_step"] "_law_tape" (defScope s__law_tape) A.f__law_tape cdv Ar outer s H E) (WB E) := takes_of rfl rfl rfl rfl
  have po : PassesOwn (model P w) (cxOf (L2.CX P w) P w K mg base ["_law_script", "_law_tape_here", "_law_k", "_law_value", "_law_step"] "_law_tape" (defScope s__law_tape) A.f__law_tape cdv Ar outer s H E).A (cxOf (L2.CX P w) P w K mg base ["_law_script", "_law_tape_here", "_law_k", "_law_value", "_law_step"] "_law_tape" (defScope s__law_tape) A.f__law_tape cdv Ar outer s H E).env (cxOf (L2.CX P w) P w K mg base ["_law_script", "_law_tape_here", "_law_k", "_law_value", "_law_step"] "_law_tape" (defScope s__law_tape) A.f__law_tape cdv Ar outer s H E).xe := passes_of rfl
  have hu := hu_of hr
  have hl := Nat.lt_of_succ_lt hu
  exact pss_cons (ps_set (i := 1) sc__law_tape.nd rfl (Or.inl rfl) (pe_lst (pa_nil)))
        (pss_cons (ps_for po rfl (pi_range1 (by rfl) T.n_range (pa_cons (pe_callB (c_len) (by rfl) T.n_len (by decide +kernel) (pa_cons (pv 0) (pa_nil))) (pa_nil))) (pg_name (i := 2) sc__law_tape.nd rfl (Or.inl rfl))
        (pss_cons (ps_set (i := 3) sc__law_tape.nd rfl (Or.inl rfl) (pe_callB (c_abs) (by rfl) T.n_abs (by decide +kernel) (pa_cons (pe_callTy (c_int) (by rfl) T.n_int (by decide +kernel) (pa_cons (e_ix (pv 0) (pv 2)) (pa_nil))) (pa_nil))))
        (pss_one (ps_if (pt_cmpR (o_ge hl) (pv 3) (pe_op o_pow (pe_int) (pe_int)) (nomark _)) (pss_one (ps_for po rfl (pi_range1 (by rfl) T.n_range (pa_cons (pe_int) (pa_nil))) (pg_name (i := 4) sc__law_tape.nd rfl (Or.inl rfl))
        (pss_one (ps_if (pt_cmpR (o_gt) (pv 3) (pe_int) (nomark _)) (pss_cons (ps_expr (pe_bm PySem.F.plainAttrs_list PySem.F.slot_list_append PySem.F.type_list_append mt_append (pv 1) (pa_cons (pe_op o_mod (pv 3) (pe_int)) (pa_nil))))
        (pss_one (ps_set (i := 3) sc__law_tape.nd rfl (Or.inl rfl) (pe_op o_div (pv 3) (pe_int))))) (pss_nil))))) (pss_one (ps_for po rfl (pi_range1 (by rfl) T.n_range (pa_cons (pe_int) (pa_nil))) (pg_name (i := 4) sc__law_tape.nd rfl (Or.inl rfl))
        (pss_cons (ps_set (i := 3) sc__law_tape.nd rfl (Or.inl rfl) (pe_op o_mod (pe_op o_add (pe_op o_add (pe_op o_mul (pv 3) (pe_int)) (pe_op o_mul (pe_int) (pe_op o_add (pv 2) (pe_int)))) (pe_op o_mul (pe_int) (pv 4))) (pe_int)))
        (pss_cons (ps_set (i := 3) sc__law_tape.nd rfl (Or.inl rfl) (pe_op o_mod (pe_op o_mul (pv 3) (pe_int)) (pe_int)))
        (pss_one (ps_expr (pe_bm PySem.F.plainAttrs_list PySem.F.slot_list_append PySem.F.type_list_append mt_append (pv 1) (pa_cons (pe_op o_mod (pe_op o_div (pv 3) (pe_int)) (pe_int)) (pa_nil)))))))))))))
        (pss_one (ps_ret (pv 1))))
theorem ok__law_at (T : Top K mg A) : FnOk P w K mg base (L2.CX P w) 1 A.f__law_at A.d__law_at ["_law_tape_here", "_law_k"] (sp__law_at K A.ex) := by
  refine T.F__law_at.okX sc__law_at (fun vs H Q E h => len2 h) (fun cdv Ar outer s H vs Q E hr h => ⟨t__law_at K A.ex E, ?_, pure__law_at T.fa h⟩)
  have tk : Takes (cxOf (L2.CX P w) P w K mg base ["_law_tape_here", "_law_k"] "_law_at" (defScope s__law_at) A.f__law_at cdv Ar outer s H E) (WB E) := takes_of rfl rfl rfl rfl
  have hu := hu_of hr
  have hl := Nat.lt_of_succ_lt hu
  exact pss_cons (ps_if (pt_cmpR (o_lt hl) (pv 1) (pe_callB (c_len) (by rfl) T.n_len (by decide +kernel) (pa_cons (pv 0) (pa_nil))) (nomark _)) (pss_one (ps_ret (e_ix (pv 0) (pv 1)))) (pss_nil))
        (pss_one (ps_ret (pe_int)))
theorem ok__law_zeros (T : Top K mg A) : FnOk P w K mg base (L2.CX P w) 1 A.f__law_zeros A.d__law_zeros [] (sp__law_zeros K A.ex) := by
  refine T.F__law_zeros.okX sc__law_zeros (fun vs H Q E h => len0 h) (fun cdv Ar outer s H vs Q E hr h => ⟨t__law_zeros K A.ex E, ?_, pure__law_zeros T.fa h⟩)
  have tk : Takes (cxOf (L2.CX P w) P w K mg base [] "_law_zeros" (defScope s__law_zeros) A.f__law_zeros cdv Ar outer s H E) (WB E) := takes_of rfl rfl rfl rfl
  exact pss_one (ps_ret (pe_lst (pa_cons (pe_int) (pa_cons (pe_int) (pa_cons (pe_int) (pa_cons (pe_int) (pa_cons (pe_int) (pa_cons (pe_int) (pa_cons (pe_int) (pa_cons (pe_int) (pa_nil)))))))))))
theorem ok__law_words (T : Top K mg A) : FnOk P w K mg base (L2.CX P w) 1 A.f__law_words A.d__law_words ["_law_number", "_law_extra"] (sp__law_words K A.ex) := by
  refine T.F__law_words.okX sc__law_words (fun vs H Q E h => len2 h) (fun cdv Ar outer s H vs Q E hr h => ⟨t__law_words K A.ex E, ?_, pure__law_words T.fa h⟩)
  have tk : Takes (cxOf (L2.CX P w) P w K mg base ["_law_number", "_law_extra", "_law_words_here", "_law_j"] "_law_words" (defScope s__law_words) A.f__law_words cdv Ar outer s H E) (WB E) := takes_of rfl rfl rfl rfl
  have hu := hu_of hr
  exact pss_cons (ps_setLc (i := 2) (own := [("_law_j", 3)]) (by rfl) sc__law_words.nd rfl rfl (sw_true rfl rfl rfl (by decide +kernel)) (pi_range1 (by rfl) T.n_range (pa_cons (pe_int) (pa_nil))) (blkOk_by (N := ["_law_number", "_law_extra", "_law_words_here", "_law_j"]) (sc := defScope s__law_words) (by decide +kernel)) (fun _ _ _ _ _ => pg_name (i := 3) sc__law_words.nd rfl (Or.inl rfl)) (fun _ _ _ _ _ => pts_nil) (fun _ _ _ _ _ => pe_op o_mod (pe_callTy (c_int) (by rfl) T.n_int (by decide +kernel) (pa_cons (pe_op o_add (pe_op o_mul (pv 0) (pe_op o_add (pv 3) (pe_int))) (pe_op o_mul (pe_op o_mul (pv 1) (pv 3)) (pv 3))) (pa_nil))) (pe_int)))
        (pss_cut (ps_if (pt_cmpR (o_eq hr.units) (pe_op o_mod (pv 1) (pe_int)) (pe_int) (nomark _)) (pss_one (ps_asg (pe_op o_pow (pv 0) (pe_int)) (pg_sub (pv 2) (pe_op o_mod (pv 1) (pe_int)) (set_u hu)))) (pss_nil))
        (pss_cut (ps_if (pt_cmpR (o_eq hr.units) (pe_op o_mod (pv 1) (pe_int)) (pe_int) (nomark _)) (pss_one (ps_set (i := 2) sc__law_words.nd rfl (Or.inl rfl) (pe_lst (pa_cons (pe_int) (pa_cons (pe_int) (pa_cons (pe_int) (pa_cons (pe_int) (pa_cons (pe_int) (pa_cons (pe_int) (pa_cons (pe_int) (pa_cons (pv 0) (pa_nil)))))))))))) (pss_nil))
        (pss_one (ps_ret (pv 2)))))
theorem ok__law_sector (T : Top K mg A) : FnOk P w K mg base (L2.CX P w) 1 A.f__law_sector A.d__law_sector ["_law_number", "_law_many"] (sp__law_sector K A.ex) := by
  refine T.F__law_sector.okX sc__law_sector (fun vs H Q E h => len2 h) (fun cdv Ar outer s H vs Q E hr h => ⟨t__law_sector K A.ex E, ?_, pure__law_sector T.fa h⟩)
  have tk : Takes (cxOf (L2.CX P w) P w K mg base ["_law_number", "_law_many", "_law_menu"] "_law_sector" (defScope s__law_sector) A.f__law_sector cdv Ar outer s H E) (WB E) := takes_of rfl rfl rfl rfl
  have hu := hu_of hr
  have hl := Nat.lt_of_succ_lt hu
  exact pss_cons (ps_set (i := 2) sc__law_sector.nd rfl (Or.inl rfl) (pe_lst (pa_cons (pe_int) (pa_cons (pe_int) (pa_cons (pe_int) (pa_cons (pe_int) (pa_cons (pe_int) (pa_cons (pe_op o_sub (pv 1) (pe_int)) (pa_nil)))))))))
        (pss_cons (ps_if (pt_cmpR (o_lt hl) (pe_op o_mod (pv 0) (pe_int)) (pe_int) (nomark _)) (pss_one (ps_ret (e_ix (pv 2) (pe_op o_mod (pe_op o_div (pv 0) (pe_int)) (pe_int))))) (pss_nil))
        (pss_one (ps_ret (pe_op o_mod (pe_op o_div (pv 0) (pe_int)) (pv 1)))))
theorem ok__law_due (T : Top K mg A) : FnOk P w K mg base (L2.CX P w) 2 A.f__law_due A.d__law_due ["_law_lasts", "_law_writes", "_law_sector_here"] (sp__law_due K A.ex) := by
  refine T.F__law_due.okX sc__law_due (fun vs H Q E h => len3 h) (fun cdv Ar outer s H vs Q E hr h => ⟨t__law_due K A.ex E, ?_, pure__law_due T.fa h⟩)
  have tk : Takes (cxOf (L2.CX P w) P w K mg base ["_law_lasts", "_law_writes", "_law_sector_here", "_law_k", "_law_write"] "_law_due" (defScope s__law_due) A.f__law_due cdv Ar outer s H E) (WB E) := takes_of rfl rfl rfl rfl
  have po : PassesOwn (model P w) (cxOf (L2.CX P w) P w K mg base ["_law_lasts", "_law_writes", "_law_sector_here", "_law_k", "_law_write"] "_law_due" (defScope s__law_due) A.f__law_due cdv Ar outer s H E).A (cxOf (L2.CX P w) P w K mg base ["_law_lasts", "_law_writes", "_law_sector_here", "_law_k", "_law_write"] "_law_due" (defScope s__law_due) A.f__law_due cdv Ar outer s H E).env (cxOf (L2.CX P w) P w K mg base ["_law_lasts", "_law_writes", "_law_sector_here", "_law_k", "_law_write"] "_law_due" (defScope s__law_due) A.f__law_due cdv Ar outer s H E).xe := passes_of rfl
  have hu := hu_of hr
  exact pss_cons (ps_for po rfl (pi_range1 (by rfl) T.n_range (pa_cons (pe_callB (c_len) (by rfl) T.n_len (by decide +kernel) (pa_cons (pv 1) (pa_nil))) (pa_nil))) (pg_name (i := 3) sc__law_due.nd rfl (Or.inl rfl))
        (pss_cons (ps_set (i := 4) sc__law_due.nd rfl (Or.inl rfl) (e_ix (pv 1) (pe_op o_sub (pe_op o_sub (pe_callB (c_len) (by rfl) T.n_len (by decide +kernel) (pa_cons (pv 1) (pa_nil))) (pe_int)) (pv 3))))
        (pss_one (ps_if (pt_cmpR (o_eq hr.units) (e_ix (pv 4) (pe_int)) (pv 2) (nomark _)) (pss_one (ps_ret (pe_callTy (c_list) (by rfl) T.n_list (by decide +kernel) (pa_cons (e_ix (pv 4) (pe_int)) (pa_nil))))) (pss_nil)))))
        (pss_one (ps_ret (pe_callTy (c_list) (by rfl) T.n_list (by decide +kernel) (pa_cons (pe_dget2 hu (pv 0) (pv 2) (e_call0 (ok__law_zeros T) (hr.mono (by decide)) T.g__law_zeros T.F__law_zeros.kp T.b__law_zeros tk) ⟨by rfl, by rfl, by rfl, by rfl⟩) (pa_nil)))))
theorem ok__law_after_cut (T : Top K mg A) : FnOk P w K mg base (L2.CX P w) 2 A.f__law_after_cut A.d__law_after_cut ["_law_lasts", "_law_writes", "_law_choices_here"] (sp__law_after_cut K A.ex) := by
  refine T.F__law_after_cut.okX sc__law_after_cut (fun vs H Q E h => len3 h) (fun cdv Ar outer s H vs Q E hr h => ⟨t__law_after_cut K A.ex E, ?_, pure__law_after_cut T.fa h⟩)
  have tk : Takes (cxOf (L2.CX P w) P w K mg base ["_law_lasts", "_law_writes", "_law_choices_here", "_law_after", "_law_k", "_law_kept", "_law_sector_here", "_law_old"] "_law_after_cut" (defScope s__law_after_cut) A.f__law_after_cut cdv Ar outer s H E) (WB E) := takes_of rfl rfl rfl rfl
  have po : PassesOwn (model P w) (cxOf (L2.CX P w) P w K mg base ["_law_lasts", "_law_writes", "_law_choices_here", "_law_after", "_law_k", "_law_kept", "_law_sector_here", "_law_old"] "_law_after_cut" (defScope s__law_after_cut) A.f__law_after_cut cdv Ar outer s H E).A (cxOf (L2.CX P w) P w K mg base ["_law_lasts", "_law_writes", "_law_choices_here", "_law_after", "_law_k", "_law_kept", "_law_sector_here", "_law_old"] "_law_after_cut" (defScope s__law_after_cut) A.f__law_after_cut cdv Ar outer s H E).env (cxOf (L2.CX P w) P w K mg base ["_law_lasts", "_law_writes", "_law_choices_here", "_law_after", "_law_k", "_law_kept", "_law_sector_here", "_law_old"] "_law_after_cut" (defScope s__law_after_cut) A.f__law_after_cut cdv Ar outer s H E).xe := passes_of rfl
  have hu := hu_of hr
  have hl := Nat.lt_of_succ_lt hu
  exact pss_cons (ps_set (i := 3) sc__law_after_cut.nd rfl (Or.inl rfl) (pe_callTy (c_dict) (by rfl) T.n_dict (by decide +kernel) (pa_cons (pv 0) (pa_nil))))
        (pss_cons (ps_for po rfl (pi_range1 (by rfl) T.n_range (pa_cons (pe_callB (c_len) (by rfl) T.n_len (by decide +kernel) (pa_cons (pv 1) (pa_nil))) (pa_nil))) (pg_name (i := 4) sc__law_after_cut.nd rfl (Or.inl rfl))
        (pss_cons (ps_set (i := 5) sc__law_after_cut.nd rfl (Or.inl rfl) (pe_int))
        (pss_cut (ps_if (pt_cmpR (o_lt hl) (pv 4) (pe_callB (c_len) (by rfl) T.n_len (by decide +kernel) (pa_cons (pv 2) (pa_nil))) (nomark _)) (pss_one (ps_set (i := 5) sc__law_after_cut.nd rfl (Or.inl rfl) (e_ix (pv 2) (pv 4)))) (pss_nil))
        (pss_cons (ps_set (i := 6) sc__law_after_cut.nd rfl (Or.inl rfl) (e_ix (e_ix (pv 1) (pv 4)) (pe_int)))
        (pss_cons (ps_set (i := 7) sc__law_after_cut.nd rfl (Or.inl rfl) (pe_dget2 hu (pv 3) (pv 6) (e_call0 (ok__law_zeros T) (hr.mono (by decide)) T.g__law_zeros T.F__law_zeros.kp T.b__law_zeros tk) ⟨by rfl, by rfl, by rfl, by rfl⟩))
        (pss_one (ps_dput hu (pv 3) (pv 6) (pe_op o_add (e_sl (e_ix (e_ix (pv 1) (pv 4)) (pe_int)) (po_none) (po_some (pv 5))) (e_sl (pv 7) (po_some (pv 5)) (po_none))) rfl)))))))
        (pss_one (ps_ret (pv 3))))
theorem ok__law_equal (T : Top K mg A) : FnOk P w K mg base (L2.CX P w) 1 A.f__law_equal A.d__law_equal ["_law_told", "_law_due_here"] (sp__law_equal K A.ex) := by
  refine T.F__law_equal.okX sc__law_equal (fun vs H Q E h => len2 h) (fun cdv Ar outer s H vs Q E hr h => ⟨t__law_equal K A.ex E, ?_, pure__law_equal T.fa h⟩)
  have tk : Takes (cxOf (L2.CX P w) P w K mg base ["_law_told", "_law_due_here", "_law_j"] "_law_equal" (defScope s__law_equal) A.f__law_equal cdv Ar outer s H E) (WB E) := takes_of rfl rfl rfl rfl
  have po : PassesOwn (model P w) (cxOf (L2.CX P w) P w K mg base ["_law_told", "_law_due_here", "_law_j"] "_law_equal" (defScope s__law_equal) A.f__law_equal cdv Ar outer s H E).A (cxOf (L2.CX P w) P w K mg base ["_law_told", "_law_due_here", "_law_j"] "_law_equal" (defScope s__law_equal) A.f__law_equal cdv Ar outer s H E).env (cxOf (L2.CX P w) P w K mg base ["_law_told", "_law_due_here", "_law_j"] "_law_equal" (defScope s__law_equal) A.f__law_equal cdv Ar outer s H E).xe := passes_of rfl
  exact pss_cons (ps_if (PW.pt (pw_or (pt_not (t_tru (pe_callB (c_isi .list) (by rfl) T.n_isinstance (by decide +kernel) (pa_cons (pv 0) (pa_cons (pe_bltn rfl T.n_list (by decide +kernel) rfl) (pa_nil)))))) (pw_or1 (pt_cmpR (o_ne hr.units) (pe_callB (c_len) (by rfl) T.n_len (by decide +kernel) (pa_cons (pv 0) (pa_nil))) (pe_int) (nomark _))))) (pss_one (ps_ret (pe_bl))) (pss_nil))
        (pss_cons (ps_for po rfl (pi_range1 (by rfl) T.n_range (pa_cons (pe_int) (pa_nil))) (pg_name (i := 2) sc__law_equal.nd rfl (Or.inl rfl))
        (pss_one (ps_if (PW.pt (pw_or (pt_not (t_tru (pe_callB (c_isi .int) (by rfl) T.n_isinstance (by decide +kernel) (pa_cons (e_ix (pv 0) (pv 2)) (pa_cons (pe_bltn rfl T.n_int (by decide +kernel) rfl) (pa_nil)))))) (pw_or (t_tru (pe_callB (c_isi .bool) (by rfl) T.n_isinstance (by decide +kernel) (pa_cons (e_ix (pv 0) (pv 2)) (pa_cons (pe_bltn rfl T.n_bool (by decide +kernel) rfl) (pa_nil))))) (pw_or1 (pt_cmpR (o_ne hr.units) (e_ix (pv 0) (pv 2)) (e_ix (pv 1) (pv 2)) (nomark _)))))) (pss_one (ps_ret (pe_bl))) (pss_nil))))
        (pss_one (ps_ret (pe_bl))))
theorem ok__law_choices (T : Top K mg A) : FnOk P w K mg base (L2.CX P w) 2 A.f__law_choices A.d__law_choices ["_law_tape_here", "_law_start", "_law_many"] (sp__law_choices K A.ex) := by
  refine T.F__law_choices.okX sc__law_choices (fun vs H Q E h => len3 h) (fun cdv Ar outer s H vs Q E hr h => ⟨t__law_choices K A.ex E, ?_, pure__law_choices T.fa h⟩)
  have tk : Takes (cxOf (L2.CX P w) P w K mg base ["_law_tape_here", "_law_start", "_law_many", "_law_choices_here", "_law_k", "_law_number"] "_law_choices" (defScope s__law_choices) A.f__law_choices cdv Ar outer s H E) (WB E) := takes_of rfl rfl rfl rfl
  have po : PassesOwn (model P w) (cxOf (L2.CX P w) P w K mg base ["_law_tape_here", "_law_start", "_law_many", "_law_choices_here", "_law_k", "_law_number"] "_law_choices" (defScope s__law_choices) A.f__law_choices cdv Ar outer s H E).A (cxOf (L2.CX P w) P w K mg base ["_law_tape_here", "_law_start", "_law_many", "_law_choices_here", "_law_k", "_law_number"] "_law_choices" (defScope s__law_choices) A.f__law_choices cdv Ar outer s H E).env (cxOf (L2.CX P w) P w K mg base ["_law_tape_here", "_law_start", "_law_many", "_law_choices_here", "_law_k", "_law_number"] "_law_choices" (defScope s__law_choices) A.f__law_choices cdv Ar outer s H E).xe := passes_of rfl
  exact pss_cons (ps_set (i := 3) sc__law_choices.nd rfl (Or.inl rfl) (pe_lst (pa_nil)))
        (pss_cons (ps_for po rfl (pi_range1 (by rfl) T.n_range (pa_cons (pv 2) (pa_nil))) (pg_name (i := 4) sc__law_choices.nd rfl (Or.inl rfl))
        (pss_cons (ps_set (i := 5) sc__law_choices.nd rfl (Or.inl rfl) (e_call (ok__law_at T) (hr.mono (by decide)) T.g__law_at T.F__law_at.kp T.b__law_at tk (pa_cons (pv 0) (pa_cons (pe_op o_add (pv 1) (pv 4)) (pa_nil)))))
        (pss_one (ps_if (pt_cmpR (o_eq hr.units) (pe_op o_mod (pv 5) (pe_int)) (pe_int) (nomark _)) (pss_one (ps_expr (pe_bm PySem.F.plainAttrs_list PySem.F.slot_list_append PySem.F.type_list_append mt_append (pv 3) (pa_cons (pe_int) (pa_nil))))) (pss_one (ps_if (pt_cmpR (o_eq hr.units) (pe_op o_mod (pv 5) (pe_int)) (pe_int) (nomark _)) (pss_one (ps_expr (pe_bm PySem.F.plainAttrs_list PySem.F.slot_list_append PySem.F.type_list_append mt_append (pv 3) (pa_cons (pe_op o_mod (pe_op o_div (pv 5) (pe_int)) (pe_int)) (pa_nil))))) (pss_one (ps_expr (pe_bm PySem.F.plainAttrs_list PySem.F.slot_list_append PySem.F.type_list_append mt_append (pv 3) (pa_cons (pe_int) (pa_nil)))))))))))
        (pss_one (ps_ret (pv 3))))
theorem ok__law_refused (T : Top K mg A) : FnOk P w K mg base (L2.CX P w) 4 A.f__law_refused A.d__law_refused ["_law_disk", "_law_number", "_law_many"] (sp__law_refused K A.ex) := by
  refine T.F__law_refused.okX sc__law_refused (fun vs H Q E h => len3 h) (fun cdv Ar outer s H vs Q E hr h => ⟨t__law_refused K A.ex E, ?_, pure__law_refused T.fa h⟩)
  have tk : Takes (cxOf (L2.CX P w) P w K mg base ["_law_disk", "_law_number", "_law_many", "_law_words_here", "_law_kind", "e"] "_law_refused" (defScope s__law_refused) A.f__law_refused cdv Ar outer s H E) (WB E) := takes_of rfl rfl rfl rfl
  exact pss_cons (ps_set (i := 3) sc__law_refused.nd rfl (Or.inl rfl) (e_call0 (ok__law_zeros T) (hr.mono (by decide)) T.g__law_zeros T.F__law_zeros.kp T.b__law_zeros tk))
        (pss_cons (ps_set (i := 4) sc__law_refused.nd rfl (Or.inl rfl) (pe_op o_mod (pv 1) (pe_int)))
        (pss_cons (s_tryAs (i := 5) rfl rfl sc__law_refused.nd rfl rfl ⟨rfl, by decide, Or.inl T.x_LaminaError.g⟩ tk (fun W pn xe tk po => pss_one (ps_if (pt_cmpR (o_eq hr.units) (pv 4) (pe_int) (nomark _)) (pss_one (ps_expr (e_meth (pv 0) T.c_Disk T.m_Disk_write (ok_Disk_write T) (hr.mono (by decide)) T.b_Disk_write tk (pa_cons (pv 2) (pa_cons (pv 3) (pa_nil)))))) (pss_one (ps_if (pt_cmpR (o_eq hr.units) (pv 4) (pe_int) (nomark _)) (pss_one (ps_expr (e_meth (pv 0) T.c_Disk T.m_Disk_write (ok_Disk_write T) (hr.mono (by decide)) T.b_Disk_write tk (pa_cons (pe_un o_neg (pe_int)) (pa_cons (pv 3) (pa_nil)))))) (pss_one (ps_if (pt_cmpR (o_eq hr.units) (pv 4) (pe_int) (nomark _)) (pss_one (ps_expr (e_meth (pv 0) T.c_Disk T.m_Disk_write (ok_Disk_write T) (hr.mono (by decide)) T.b_Disk_write tk (pa_cons (pe_int) (pa_cons (pe_op o_add (pv 3) (pe_lst (pa_cons (pe_int) (pa_nil)))) (pa_nil)))))) (pss_one (ps_if (pt_cmpR (o_eq hr.units) (pv 4) (pe_int) (nomark _)) (pss_one (ps_expr (e_meth (pv 0) T.c_Disk T.m_Disk_write (ok_Disk_write T) (hr.mono (by decide)) T.b_Disk_write tk (pa_cons (pe_int) (pa_cons (e_sl (pv 3) (po_some (pe_int)) (po_none)) (pa_nil)))))) (pss_one (ps_if (pt_cmpR (o_eq hr.units) (pv 4) (pe_int) (nomark _)) (pss_one (ps_expr (e_meth (pv 0) T.c_Disk T.m_Disk_write (ok_Disk_write T) (hr.mono (by decide)) T.b_Disk_write tk (pa_cons (pe_int) (pa_cons (pe_lst (pa_cons (pe_int) (pa_cons (pe_int) (pa_cons (pe_int) (pa_cons (pe_un o_neg (pe_int)) (pa_cons (pe_int) (pa_cons (pe_int) (pa_cons (pe_int) (pa_cons (pe_int) (pa_nil)))))))))) (pa_nil)))))) (pss_one (ps_if (pt_cmpR (o_eq hr.units) (pv 4) (pe_int) (nomark _)) (pss_one (ps_expr (e_meth (pv 0) T.c_Disk T.m_Disk_write (ok_Disk_write T) (hr.mono (by decide)) T.b_Disk_write tk (pa_cons (pe_int) (pa_cons (pe_lst (pa_cons (pe_int) (pa_cons (pe_int) (pa_cons (pe_int) (pa_cons (pe_int) (pa_cons (pe_int) (pa_cons (pe_bl) (pa_cons (pe_int) (pa_cons (pe_int) (pa_nil)))))))))) (pa_nil)))))) (pss_one (ps_if (pt_cmpR (o_eq hr.units) (pv 4) (pe_int) (nomark _)) (pss_one (ps_expr (e_meth (pv 0) T.c_Disk T.m_Disk_read (ok_Disk_read T) (hr.mono (by decide)) T.b_Disk_read tk (pa_cons (pe_op o_add (pv 2) (pv 1)) (pa_nil))))) (pss_one (ps_if (pt_cmpR (o_eq hr.units) (pv 4) (pe_int) (nomark _)) (pss_one (ps_expr (e_meth (pv 0) T.c_Disk T.m_Disk_read (ok_Disk_read T) (hr.mono (by decide)) T.b_Disk_read tk (pa_cons (pe_un o_neg (pe_int)) (pa_nil))))) (pss_one (ps_if (pt_cmpR (o_eq hr.units) (pv 4) (pe_int) (nomark _)) (pss_one (ps_expr (e_meth (pv 0) T.c_Disk T.m_Disk_cut (ok_Disk_cut T) (hr.mono (by decide)) T.b_Disk_cut tk (pa_cons (pe_lst (pa_cons (pe_int) (pa_cons (pe_int) (pa_cons (pe_int) (pa_nil))))) (pa_nil))))) (pss_one (ps_if (pt_cmpR (o_eq hr.units) (pv 4) (pe_int) (nomark _)) (pss_one (ps_expr (e_meth (pv 0) T.c_Disk T.m_Disk_cut (ok_Disk_cut T) (hr.mono (by decide)) T.b_Disk_cut tk (pa_cons (pe_lst (pa_cons (pe_int) (pa_cons (pe_un o_neg (pe_int)) (pa_nil)))) (pa_nil))))) (pss_one (ps_expr (e_meth (pv 0) T.c_Disk T.m_Disk_cut (ok_Disk_cut T) (hr.mono (by decide)) T.b_Disk_cut tk (pa_cons (pe_lst (pa_cons (pe_int) (pa_cons (pe_bl) (pa_nil)))) (pa_nil))))))))))))))))))))))))) (fun a oe cls d pn hz hf => pss_one (ps_ret (pe_and (pe_callB (c_isE hz hf) (by rfl) T.n_isinstance (by decide +kernel) (pa_cons (pv 5) (pa_cons (pe_glob rfl T.x_NotValid.g rfl) (pa_nil)))) (pe_one (pe_not (pe_callB (c_isE hz hf) (by rfl) T.n_isinstance (by decide +kernel) (pa_cons (pv 5) (pa_cons (pe_glob rfl T.x_BadImage.g rfl) (pa_nil))))))))))
        (pss_one (ps_ret (pe_bl)))))
theorem ok__law_look (T : Top K mg A) : FnOk P w K mg base (L2.CX P w) 3 A.f__law_look A.d__law_look ["_law_disk", "_law_lasts", "_law_writes", "_law_many", "_law_sector_here"] (sp__law_look K A.ex) := by
  refine T.F__law_look.okX sc__law_look (fun vs H Q E h => len5 h) (fun cdv Ar outer s H vs Q E hr h => ⟨t__law_look K A.ex E, ?_, pure__law_look T.fa h⟩)
  have tk : Takes (cxOf (L2.CX P w) P w K mg base ["_law_disk", "_law_lasts", "_law_writes", "_law_many", "_law_sector_here", "_law_told", "_law_k"] "_law_look" (defScope s__law_look) A.f__law_look cdv Ar outer s H E) (WB E) := takes_of rfl rfl rfl rfl
  have po : PassesOwn (model P w) (cxOf (L2.CX P w) P w K mg base ["_law_disk", "_law_lasts", "_law_writes", "_law_many", "_law_sector_here", "_law_told", "_law_k"] "_law_look" (defScope s__law_look) A.f__law_look cdv Ar outer s H E).A (cxOf (L2.CX P w) P w K mg base ["_law_disk", "_law_lasts", "_law_writes", "_law_many", "_law_sector_here", "_law_told", "_law_k"] "_law_look" (defScope s__law_look) A.f__law_look cdv Ar outer s H E).env (cxOf (L2.CX P w) P w K mg base ["_law_disk", "_law_lasts", "_law_writes", "_law_many", "_law_sector_here", "_law_told", "_law_k"] "_law_look" (defScope s__law_look) A.f__law_look cdv Ar outer s H E).xe := passes_of rfl
  have hu := hu_of hr
  exact pss_cons (ps_if (pt_not (t_tru (e_call (ok__law_equal T) (hr.mono (by decide)) T.g__law_equal T.F__law_equal.kp T.b__law_equal tk (pa_cons (e_meth (pv 0) T.c_Disk T.m_Disk_read (ok_Disk_read T) (hr.mono (by decide)) T.b_Disk_read tk (pa_cons (pv 4) (pa_nil))) (pa_cons (e_call (ok__law_due T) (hr.mono (by decide)) T.g__law_due T.F__law_due.kp T.b__law_due tk (pa_cons (pv 1) (pa_cons (pv 2) (pa_cons (pv 4) (pa_nil))))) (pa_nil)))))) (pss_one (ps_ret (pe_bl))) (pss_nil))
        (pss_cons (ps_set (i := 5) sc__law_look.nd rfl (Or.inl rfl) (e_meth0 (pv 0) T.c_Disk T.m_Disk_waiting (ok_Disk_waiting T) (hr.mono (by decide)) T.b_Disk_waiting tk))
        (pss_cons (ps_if (PW.pt (pw_or (pt_not (t_tru (pe_callB (c_isi .list) (by rfl) T.n_isinstance (by decide +kernel) (pa_cons (pv 5) (pa_cons (pe_bltn rfl T.n_list (by decide +kernel) rfl) (pa_nil)))))) (pw_or1 (pt_cmpR (o_ne hr.units) (pe_callB (c_len) (by rfl) T.n_len (by decide +kernel) (pa_cons (pv 5) (pa_nil))) (pe_callB (c_len) (by rfl) T.n_len (by decide +kernel) (pa_cons (pv 2) (pa_nil))) (nomark _))))) (pss_one (ps_ret (pe_bl))) (pss_nil))
        (pss_cons (ps_for po rfl (pi_range1 (by rfl) T.n_range (pa_cons (pe_callB (c_len) (by rfl) T.n_len (by decide +kernel) (pa_cons (pv 2) (pa_nil))) (pa_nil))) (pg_name (i := 6) sc__law_look.nd rfl (Or.inl rfl))
        (pss_cons (ps_if (PW.pt (pw_or (pt_not (t_tru (pe_callB (c_isi .tuple) (by rfl) T.n_isinstance (by decide +kernel) (pa_cons (e_ix (pv 5) (pv 6)) (pa_cons (pe_bltn rfl T.n_tuple (by decide +kernel) rfl) (pa_nil)))))) (pw_or (pt_cmpR (o_ne hr.units) (pe_callB (c_len) (by rfl) T.n_len (by decide +kernel) (pa_cons (e_ix (pv 5) (pv 6)) (pa_nil))) (pe_int) (nomark _)) (pw_or1 (pt_cmpR (o_ne hr.units) (e_ix (e_ix (pv 5) (pv 6)) (pe_int)) (e_ix (e_ix (pv 2) (pv 6)) (pe_int)) (nomark _)))))) (pss_one (ps_ret (pe_bl))) (pss_nil))
        (pss_cons (ps_if (pt_not (t_tru (e_call (ok__law_equal T) (hr.mono (by decide)) T.g__law_equal T.F__law_equal.kp T.b__law_equal tk (pa_cons (e_ix (e_ix (pv 5) (pv 6)) (pe_int)) (pa_cons (e_ix (e_ix (pv 2) (pv 6)) (pe_int)) (pa_nil)))))) (pss_one (ps_ret (pe_bl))) (pss_nil))
        (pss_one (ps_asg (pe_int) (pg_sub (e_ix (e_ix (pv 5) (pv 6)) (pe_int)) (pe_int) (set_u hu)))))))
        (pss_one (ps_ret (pe_bl))))))
theorem ok__law_images (T : Top K mg A) : FnOk P w K mg base (L2.CX P w) 3 A.f__law_images A.d__law_images ["_law_disk", "_law_lasts", "_law_writes", "_law_many"] (sp__law_images K A.ex) := by
  refine T.F__law_images.okX sc__law_images (fun vs H Q E h => len4 h) (fun cdv Ar outer s H vs Q E hr h => ⟨t__law_images K A.ex E, ?_, pure__law_images T.fa h⟩)
  have tk : Takes (cxOf (L2.CX P w) P w K mg base ["_law_disk", "_law_lasts", "_law_writes", "_law_many", "_law_lasting", "_law_image", "_law_sector_here"] "_law_images" (defScope s__law_images) A.f__law_images cdv Ar outer s H E) (WB E) := takes_of rfl rfl rfl rfl
  have po : PassesOwn (model P w) (cxOf (L2.CX P w) P w K mg base ["_law_disk", "_law_lasts", "_law_writes", "_law_many", "_law_lasting", "_law_image", "_law_sector_here"] "_law_images" (defScope s__law_images) A.f__law_images cdv Ar outer s H E).A (cxOf (L2.CX P w) P w K mg base ["_law_disk", "_law_lasts", "_law_writes", "_law_many", "_law_lasting", "_law_image", "_law_sector_here"] "_law_images" (defScope s__law_images) A.f__law_images cdv Ar outer s H E).env (cxOf (L2.CX P w) P w K mg base ["_law_disk", "_law_lasts", "_law_writes", "_law_many", "_law_lasting", "_law_image", "_law_sector_here"] "_law_images" (defScope s__law_images) A.f__law_images cdv Ar outer s H E).xe := passes_of rfl
  have hu := hu_of hr
  exact pss_cons (ps_set (i := 4) sc__law_images.nd rfl (Or.inl rfl) (e_meth0 (pv 0) T.c_Disk T.m_Disk_lasting (ok_Disk_lasting T) (hr.mono (by decide)) T.b_Disk_lasting tk))
        (pss_cons (ps_set (i := 5) sc__law_images.nd rfl (Or.inl rfl) (e_meth0 (pv 0) T.c_Disk T.m_Disk_image (ok_Disk_image T) (hr.mono (by decide)) T.b_Disk_image tk))
        (pss_cons (ps_if (PW.pt (pw_or (pt_not (t_tru (pe_callB (c_isi .list) (by rfl) T.n_isinstance (by decide +kernel) (pa_cons (pv 4) (pa_cons (pe_bltn rfl T.n_list (by decide +kernel) rfl) (pa_nil)))))) (pw_or (pt_not (t_tru (pe_callB (c_isi .list) (by rfl) T.n_isinstance (by decide +kernel) (pa_cons (pv 5) (pa_cons (pe_bltn rfl T.n_list (by decide +kernel) rfl) (pa_nil)))))) (pw_or (pt_cmpR (o_ne hr.units) (pe_callB (c_len) (by rfl) T.n_len (by decide +kernel) (pa_cons (pv 4) (pa_nil))) (pv 3) (nomark _)) (pw_or1 (pt_cmpR (o_ne hr.units) (pe_callB (c_len) (by rfl) T.n_len (by decide +kernel) (pa_cons (pv 5) (pa_nil))) (pv 3) (nomark _))))))) (pss_one (ps_ret (pe_bl))) (pss_nil))
        (pss_cons (ps_for po rfl (pi_range1 (by rfl) T.n_range (pa_cons (pv 3) (pa_nil))) (pg_name (i := 6) sc__law_images.nd rfl (Or.inl rfl))
        (pss_cons (ps_if (pt_not (t_tru (e_call (ok__law_equal T) (hr.mono (by decide)) T.g__law_equal T.F__law_equal.kp T.b__law_equal tk (pa_cons (e_ix (pv 4) (pv 6)) (pa_cons (pe_dget2 hu (pv 1) (pv 6) (e_call0 (ok__law_zeros T) (hr.mono (by decide)) T.g__law_zeros T.F__law_zeros.kp T.b__law_zeros tk) ⟨by rfl, by rfl, by rfl, by rfl⟩) (pa_nil)))))) (pss_one (ps_ret (pe_bl))) (pss_nil))
        (pss_cons (ps_if (pt_not (t_tru (e_call (ok__law_equal T) (hr.mono (by decide)) T.g__law_equal T.F__law_equal.kp T.b__law_equal tk (pa_cons (e_ix (pv 5) (pv 6)) (pa_cons (e_call (ok__law_due T) (hr.mono (by decide)) T.g__law_due T.F__law_due.kp T.b__law_due tk (pa_cons (pv 1) (pa_cons (pv 2) (pa_cons (pv 6) (pa_nil))))) (pa_nil)))))) (pss_one (ps_ret (pe_bl))) (pss_nil))
        (pss_cons (ps_asg (pe_int) (pg_sub (e_ix (pv 4) (pv 6)) (pe_int) (set_u hu)))
        (pss_one (ps_asg (pe_int) (pg_sub (e_ix (pv 5) (pv 6)) (pe_int) (set_u hu))))))))
        (pss_one (ps_ret (pe_bl))))))
theorem ok_law (T : Top K mg A) : FnOk P w K mg base (L2.CX P w) 5 A.f_law A.d_law ["_law_script"] (sp_law K A.ex) := by
  refine T.F_law.okX sc_law (fun vs H Q E h => len1 (show spLaw K vs H Q E from h)) (fun cdv Ar outer s H vs Q E hr h => ⟨t_law K A.ex E, ?_, pure_law T.fa h⟩)
  have tk : Takes (cxOf (L2.CX P w) P w K mg base ["_law_script", "_law_tape_here", "_law_blocks", "_law_disk", "_law_many", "_law_lasts", "_law_writes", "_law_k", "_law_number", "_law_sector_here", "_law_words_here", "_law_passed", "_law_choices_here"] "law" (defScope s_law) A.f_law cdv Ar outer s H E) (WB E) := takes_of rfl rfl rfl rfl
  have po : PassesOwn (model P w) (cxOf (L2.CX P w) P w K mg base ["_law_script", "_law_tape_here", "_law_blocks", "_law_disk", "_law_many", "_law_lasts", "_law_writes", "_law_k", "_law_number", "_law_sector_here", "_law_words_here", "_law_passed", "_law_choices_here"] "law" (defScope s_law) A.f_law cdv Ar outer s H E).A (cxOf (L2.CX P w) P w K mg base ["_law_script", "_law_tape_here", "_law_blocks", "_law_disk", "_law_many", "_law_lasts", "_law_writes", "_law_k", "_law_number", "_law_sector_here", "_law_words_here", "_law_passed", "_law_choices_here"] "law" (defScope s_law) A.f_law cdv Ar outer s H E).env (cxOf (L2.CX P w) P w K mg base ["_law_script", "_law_tape_here", "_law_blocks", "_law_disk", "_law_many", "_law_lasts", "_law_writes", "_law_k", "_law_number", "_law_sector_here", "_law_words_here", "_law_passed", "_law_choices_here"] "law" (defScope s_law) A.f_law cdv Ar outer s H E).xe := passes_of rfl
  have hu := hu_of hr
  have hl := Nat.lt_of_succ_lt hu
  exact pss_cons (ps_set (i := 1) sc_law.nd rfl (Or.inl rfl) (e_call (ok__law_tape T) (hr.mono (by decide)) T.g__law_tape T.F__law_tape.kp T.b__law_tape tk (pa_cons (pv 0) (pa_nil))))
        (pss_cons (ps_set (i := 2) sc_law.nd rfl (Or.inl rfl) (e_ix (pe_lst (pa_cons (pe_int) (pa_cons (pe_int) (pa_cons (pe_int) (pa_cons (pe_int) (pa_nil)))))) (pe_op o_mod (e_call (ok__law_at T) (hr.mono (by decide)) T.g__law_at T.F__law_at.kp T.b__law_at tk (pa_cons (pv 1) (pa_cons (pe_int) (pa_nil)))) (pe_int))))
        (pss_cons (ps_set (i := 3) sc_law.nd rfl (Or.inl rfl) (e_mk T.M_Disk (ok_Disk___init__ T) (hr.mono (by decide)) T.gC_Disk T.b_Disk___init__ tk (pa_cons (pv 2) (pa_nil))))
        (pss_cons (ps_set (i := 4) sc_law.nd rfl (Or.inl rfl) (pe_op o_mul (pe_int) (pv 2)))
        (pss_cons (ps_if (pt_cmpR (o_ne hr.units) (e_fld T.c_Disk T.n_Disk_blocks (pv 3)) (pv 2) (nomark _)) (pss_one (ps_ret (pe_bl))) (pss_nil))
        (pss_cons (ps_set (i := 5) sc_law.nd rfl (Or.inl rfl) (pe_dnewK))
        (pss_cons (ps_set (i := 6) sc_law.nd rfl (Or.inl rfl) (pe_lst (pa_nil)))
        (pss_cons (ps_for po rfl (pi_range1 (by rfl) T.n_range (pa_cons (pe_callB (c_min rfl) (by rfl) T.n_min (by decide +kernel) (pa_cons (pe_int) (pa_cons (pe_op o_div (pe_callB (c_len) (by rfl) T.n_len (by decide +kernel) (pa_cons (pv 1) (pa_nil))) (pe_int)) (pa_nil)))) (pa_nil))) (pg_name (i := 7) sc_law.nd rfl (Or.inl rfl))
        (pss_cons (ps_set (i := 8) sc_law.nd rfl (Or.inl rfl) (e_call (ok__law_at T) (hr.mono (by decide)) T.g__law_at T.F__law_at.kp T.b__law_at tk (pa_cons (pv 1) (pa_cons (pe_op o_add (pe_op o_mul (pe_int) (pv 7)) (pe_int)) (pa_nil)))))
        (pss_cons (ps_set (i := 9) sc_law.nd rfl (Or.inl rfl) (e_call (ok__law_sector T) (hr.mono (by decide)) T.g__law_sector T.F__law_sector.kp T.b__law_sector tk (pa_cons (e_call (ok__law_at T) (hr.mono (by decide)) T.g__law_at T.F__law_at.kp T.b__law_at tk (pa_cons (pv 1) (pa_cons (pe_op o_add (pe_op o_mul (pe_int) (pv 7)) (pe_int)) (pa_nil)))) (pa_cons (pv 4) (pa_nil)))))
        (pss_cut (ps_if (pt_cmpR (o_lt hl) (pe_op o_mod (pv 8) (pe_int)) (pe_int) (nomark _)) (pss_cons (ps_set (i := 10) sc_law.nd rfl (Or.inl rfl) (e_call (ok__law_words T) (hr.mono (by decide)) T.g__law_words T.F__law_words.kp T.b__law_words tk (pa_cons (e_call (ok__law_at T) (hr.mono (by decide)) T.g__law_at T.F__law_at.kp T.b__law_at tk (pa_cons (pv 1) (pa_cons (pe_op o_add (pe_op o_mul (pe_int) (pv 7)) (pe_int)) (pa_nil)))) (pa_cons (e_call (ok__law_at T) (hr.mono (by decide)) T.g__law_at T.F__law_at.kp T.b__law_at tk (pa_cons (pv 1) (pa_cons (pe_op o_add (pe_op o_mul (pe_int) (pv 7)) (pe_int)) (pa_nil)))) (pa_nil)))))
        (pss_cons (ps_set (i := 11) sc_law.nd rfl (Or.inl rfl) (pe_callTy (c_list) (by rfl) T.n_list (by decide +kernel) (pa_cons (pv 10) (pa_nil))))
        (pss_cons (ps_expr (e_meth (pv 3) T.c_Disk T.m_Disk_write (ok_Disk_write T) (hr.mono (by decide)) T.b_Disk_write tk (pa_cons (pv 9) (pa_cons (pv 11) (pa_nil)))))
        (pss_cons (ps_asg (pe_op o_add (e_ix (pv 11) (pe_int)) (pe_int)) (pg_sub (pv 11) (pe_int) (set_u hu)))
        (pss_one (ps_set (i := 6) sc_law.nd rfl (Or.inl rfl) (pe_op o_add (pv 6) (pe_lst (pa_cons (pe_tup (pa_cons (pv 9) (pa_cons (pv 10) (pa_nil)))) (pa_nil)))))))))) (pss_one (ps_if (pt_cmpR (o_eq hr.units) (pe_op o_mod (pv 8) (pe_int)) (pe_int) (nomark _)) (pss_cons (ps_expr (e_meth0 (pv 3) T.c_Disk T.m_Disk_flush (ok_Disk_flush T) (hr.mono (by decide)) T.b_Disk_flush tk))
        (pss_cons (ps_set (i := 5) sc_law.nd rfl (Or.inl rfl) (e_call (ok__law_after_cut T) (hr.mono (by decide)) T.g__law_after_cut T.F__law_after_cut.kp T.b__law_after_cut tk (pa_cons (pv 5) (pa_cons (pv 6) (pa_cons (pe_op o_mul (pe_lst (pa_cons (pe_int) (pa_nil))) (pe_callB (c_len) (by rfl) T.n_len (by decide +kernel) (pa_cons (pv 6) (pa_nil)))) (pa_nil))))))
        (pss_one (ps_set (i := 6) sc_law.nd rfl (Or.inl rfl) (pe_lst (pa_nil)))))) (pss_one (ps_if (pt_cmpR (o_eq hr.units) (pe_op o_mod (pv 8) (pe_int)) (pe_int) (nomark _)) (pss_cons (ps_set (i := 12) sc_law.nd rfl (Or.inl rfl) (e_call (ok__law_choices T) (hr.mono (by decide)) T.g__law_choices T.F__law_choices.kp T.b__law_choices tk (pa_cons (pv 1) (pa_cons (pe_op o_add (pe_op o_mul (pe_int) (pv 7)) (pe_int)) (pa_cons (pe_op o_mod (pe_op o_div (pv 8) (pe_int)) (pe_int)) (pa_nil))))))
        (pss_cons (ps_set (i := 11) sc_law.nd rfl (Or.inl rfl) (pe_callTy (c_list) (by rfl) T.n_list (by decide +kernel) (pa_cons (pv 12) (pa_nil))))
        (pss_cons (ps_expr (e_meth (pv 3) T.c_Disk T.m_Disk_cut (ok_Disk_cut T) (hr.mono (by decide)) T.b_Disk_cut tk (pa_cons (pv 11) (pa_nil))))
        (pss_cons (ps_if (pt_cmpR (o_ne hr.units) (pv 11) (pv 12) (nomark _)) (pss_one (ps_ret (pe_bl))) (pss_nil))
        (pss_cons (ps_set (i := 5) sc_law.nd rfl (Or.inl rfl) (e_call (ok__law_after_cut T) (hr.mono (by decide)) T.g__law_after_cut T.F__law_after_cut.kp T.b__law_after_cut tk (pa_cons (pv 5) (pa_cons (pv 6) (pa_cons (pv 12) (pa_nil))))))
        (pss_one (ps_set (i := 6) sc_law.nd rfl (Or.inl rfl) (pe_lst (pa_nil))))))))) (pss_one (ps_if (pt_not (t_tru (e_call (ok__law_refused T) (hr.mono (by decide)) T.g__law_refused T.F__law_refused.kp T.b__law_refused tk (pa_cons (pv 3) (pa_cons (pe_op o_add (pe_op o_div (pv 8) (pe_int)) (pv 7)) (pa_cons (pv 4) (pa_nil))))))) (pss_one (ps_ret (pe_bl))) (pss_nil))))))))
        (pss_one (ps_if (pt_not (t_tru (e_call (ok__law_look T) (hr.mono (by decide)) T.g__law_look T.F__law_look.kp T.b__law_look tk (pa_cons (pv 3) (pa_cons (pv 5) (pa_cons (pv 6) (pa_cons (pv 4) (pa_cons (pv 9) (pa_nil))))))))) (pss_one (ps_ret (pe_bl))) (pss_nil)))))))
        (pss_one (ps_ret (pe_and (e_call (ok__law_images T) (hr.mono (by decide)) T.g__law_images T.F__law_images.kp T.b__law_images tk (pa_cons (pv 3) (pa_cons (pv 5) (pa_cons (pv 6) (pa_cons (pv 4) (pa_nil)))))) (pe_one (e_call (ok__law_images T) (hr.mono (by decide)) T.g__law_images T.F__law_images.kp T.b__law_images tk (pa_cons (pv 3) (pa_cons (pv 5) (pa_cons (pv 6) (pa_cons (pv 4) (pa_nil)))))))))))))))))
end
theorem all_mk {P : Program} {w : World} {K : PySem.W.Frag} {h : Heap} {mg : Str → Option Value} {fa : Addr} (X : K.In h) (G : h.Ns mainGlobals mg) (hfa : mg "law" = some (.ref fa))
    {f_is_between f_is_word f_are_words f_Disk___init__ f_Disk_read f_Disk_operate f_Disk_write f_Disk_flush f_Disk_waiting f_Disk_cut f_Disk_image f_Disk_lasting f__law_tape f__law_at f__law_zeros f__law_words f__law_sector f__law_due f__law_after_cut f__law_equal f__law_choices f__law_refused f__law_look f__law_images f_law : Addr}
    {C_Disk C_LaminaError C_NotValid C_PowerOff C_BadImage : Addr}
    {od_is_between an_is_between : Option Addr} {sl_is_between : Array (Option Value)} {oc_is_between kV_is_between dc_is_between pm_is_between cd_is_between ct_is_between : Value}
    {od_is_word an_is_word : Option Addr} {sl_is_word : Array (Option Value)} {oc_is_word kV_is_word dc_is_word pm_is_word cd_is_word ct_is_word : Value}
    {od_are_words an_are_words : Option Addr} {sl_are_words : Array (Option Value)} {oc_are_words kV_are_words dc_are_words pm_are_words cd_are_words ct_are_words : Value}
    {od_Disk___init__ an_Disk___init__ : Option Addr} {sl_Disk___init__ : Array (Option Value)} {oc_Disk___init__ kV_Disk___init__ dc_Disk___init__ pm_Disk___init__ cd_Disk___init__ ct_Disk___init__ : Value}
    {od_Disk_read an_Disk_read : Option Addr} {sl_Disk_read : Array (Option Value)} {oc_Disk_read kV_Disk_read dc_Disk_read pm_Disk_read cd_Disk_read ct_Disk_read : Value}
    {od_Disk_operate an_Disk_operate : Option Addr} {sl_Disk_operate : Array (Option Value)} {oc_Disk_operate kV_Disk_operate dc_Disk_operate pm_Disk_operate cd_Disk_operate ct_Disk_operate : Value}
    {od_Disk_write an_Disk_write : Option Addr} {sl_Disk_write : Array (Option Value)} {oc_Disk_write kV_Disk_write dc_Disk_write pm_Disk_write cd_Disk_write ct_Disk_write : Value}
    {od_Disk_flush an_Disk_flush : Option Addr} {sl_Disk_flush : Array (Option Value)} {oc_Disk_flush kV_Disk_flush dc_Disk_flush pm_Disk_flush cd_Disk_flush ct_Disk_flush : Value}
    {od_Disk_waiting an_Disk_waiting : Option Addr} {sl_Disk_waiting : Array (Option Value)} {oc_Disk_waiting kV_Disk_waiting dc_Disk_waiting pm_Disk_waiting cd_Disk_waiting ct_Disk_waiting : Value}
    {od_Disk_cut an_Disk_cut : Option Addr} {sl_Disk_cut : Array (Option Value)} {oc_Disk_cut kV_Disk_cut dc_Disk_cut pm_Disk_cut cd_Disk_cut ct_Disk_cut : Value}
    {od_Disk_image an_Disk_image : Option Addr} {sl_Disk_image : Array (Option Value)} {oc_Disk_image kV_Disk_image dc_Disk_image pm_Disk_image cd_Disk_image ct_Disk_image : Value}
    {od_Disk_lasting an_Disk_lasting : Option Addr} {sl_Disk_lasting : Array (Option Value)} {oc_Disk_lasting kV_Disk_lasting dc_Disk_lasting pm_Disk_lasting cd_Disk_lasting ct_Disk_lasting : Value}
    {od__law_tape an__law_tape : Option Addr} {sl__law_tape : Array (Option Value)} {oc__law_tape kV__law_tape dc__law_tape pm__law_tape cd__law_tape ct__law_tape : Value}
    {od__law_at an__law_at : Option Addr} {sl__law_at : Array (Option Value)} {oc__law_at kV__law_at dc__law_at pm__law_at cd__law_at ct__law_at : Value}
    {od__law_zeros an__law_zeros : Option Addr} {sl__law_zeros : Array (Option Value)} {oc__law_zeros kV__law_zeros dc__law_zeros pm__law_zeros cd__law_zeros ct__law_zeros : Value}
    {od__law_words an__law_words : Option Addr} {sl__law_words : Array (Option Value)} {oc__law_words kV__law_words dc__law_words pm__law_words cd__law_words ct__law_words : Value}
    {od__law_sector an__law_sector : Option Addr} {sl__law_sector : Array (Option Value)} {oc__law_sector kV__law_sector dc__law_sector pm__law_sector cd__law_sector ct__law_sector : Value}
    {od__law_due an__law_due : Option Addr} {sl__law_due : Array (Option Value)} {oc__law_due kV__law_due dc__law_due pm__law_due cd__law_due ct__law_due : Value}
    {od__law_after_cut an__law_after_cut : Option Addr} {sl__law_after_cut : Array (Option Value)} {oc__law_after_cut kV__law_after_cut dc__law_after_cut pm__law_after_cut cd__law_after_cut ct__law_after_cut : Value}
    {od__law_equal an__law_equal : Option Addr} {sl__law_equal : Array (Option Value)} {oc__law_equal kV__law_equal dc__law_equal pm__law_equal cd__law_equal ct__law_equal : Value}
    {od__law_choices an__law_choices : Option Addr} {sl__law_choices : Array (Option Value)} {oc__law_choices kV__law_choices dc__law_choices pm__law_choices cd__law_choices ct__law_choices : Value}
    {od__law_refused an__law_refused : Option Addr} {sl__law_refused : Array (Option Value)} {oc__law_refused kV__law_refused dc__law_refused pm__law_refused cd__law_refused ct__law_refused : Value}
    {od__law_look an__law_look : Option Addr} {sl__law_look : Array (Option Value)} {oc__law_look kV__law_look dc__law_look pm__law_look cd__law_look ct__law_look : Value}
    {od__law_images an__law_images : Option Addr} {sl__law_images : Array (Option Value)} {oc__law_images kV__law_images dc__law_images pm__law_images cd__law_images ct__law_images : Value}
    {od_law an_law : Option Addr} {sl_law : Array (Option Value)} {oc_law kV_law dc_law pm_law cd_law ct_law : Value}
    {t_BLOCK_SECTORS : Tok}
    {t_MAX_BLOCKS : Tok}
    {t_MIN_BLOCKS : Tok}
    {t_SECTOR_WORDS : Tok}
    (aC_Disk : PySem.W.nsIn K mainGlobals "Disk" = some (some (.ref C_Disk)))
    (aC_BadImage : PySem.W.nsIn K mainGlobals "BadImage" = some (some (.ref C_BadImage)))
    (aC_LaminaError : PySem.W.nsIn K mainGlobals "LaminaError" = some (some (.ref C_LaminaError)))
    (aC_NotValid : PySem.W.nsIn K mainGlobals "NotValid" = some (some (.ref C_NotValid)))
    (aC_PowerOff : PySem.W.nsIn K mainGlobals "PowerOff" = some (some (.ref C_PowerOff)))
    (a_is_between : PySem.W.nsIn K mainGlobals "is_between" = some (some (.ref f_is_between)))
    (l_is_between : K.lookup f_is_between = some ⟨oc_is_between, od_is_between, .func (PySem.W.fnOf "is_between" "is_between" (defArgs s_is_between) (defBody s_is_between) (defScope s_is_between) .none kV_is_between dc_is_between pm_is_between an_is_between cd_is_between ct_is_between), sl_is_between⟩)
    (c_is_between : PySem.W.codeIn K cd_is_between "is_between" = true)
    (k_is_between : PySem.W.keepIn K (.ref f_is_between) = true)
    (a_is_word : PySem.W.nsIn K mainGlobals "is_word" = some (some (.ref f_is_word)))
    (l_is_word : K.lookup f_is_word = some ⟨oc_is_word, od_is_word, .func (PySem.W.fnOf "is_word" "is_word" (defArgs s_is_word) (defBody s_is_word) (defScope s_is_word) .none kV_is_word dc_is_word pm_is_word an_is_word cd_is_word ct_is_word), sl_is_word⟩)
    (c_is_word : PySem.W.codeIn K cd_is_word "is_word" = true)
    (k_is_word : PySem.W.keepIn K (.ref f_is_word) = true)
    (a_are_words : PySem.W.nsIn K mainGlobals "are_words" = some (some (.ref f_are_words)))
    (l_are_words : K.lookup f_are_words = some ⟨oc_are_words, od_are_words, .func (PySem.W.fnOf "are_words" "are_words" (defArgs s_are_words) (defBody s_are_words) (defScope s_are_words) .none kV_are_words dc_are_words pm_are_words an_are_words cd_are_words ct_are_words), sl_are_words⟩)
    (c_are_words : PySem.W.codeIn K cd_are_words "are_words" = true)
    (k_are_words : PySem.W.keepIn K (.ref f_are_words) = true)
    (a_Disk___init__ : PySem.W.findIn K (.ref C_Disk) "__init__" = some (some (.ref f_Disk___init__)))
    (i_Disk___init__ : PySem.W.isFn K (.ref f_Disk___init__) = true)
    (l_Disk___init__ : K.lookup f_Disk___init__ = some ⟨oc_Disk___init__, od_Disk___init__, .func (PySem.W.fnOf "__init__" "Disk.__init__" (defArgs s_Disk___init__) (defBody s_Disk___init__) (defScope s_Disk___init__) .none kV_Disk___init__ dc_Disk___init__ pm_Disk___init__ an_Disk___init__ cd_Disk___init__ ct_Disk___init__), sl_Disk___init__⟩)
    (c_Disk___init__ : PySem.W.codeIn K cd_Disk___init__ "Disk.__init__" = true)
    (k_Disk___init__ : PySem.W.keepIn K (.ref f_Disk___init__) = true)
    (a_Disk_read : PySem.W.findIn K (.ref C_Disk) "read" = some (some (.ref f_Disk_read)))
    (i_Disk_read : PySem.W.isFn K (.ref f_Disk_read) = true)
    (l_Disk_read : K.lookup f_Disk_read = some ⟨oc_Disk_read, od_Disk_read, .func (PySem.W.fnOf "read" "Disk.read" (defArgs s_Disk_read) (defBody s_Disk_read) (defScope s_Disk_read) .none kV_Disk_read dc_Disk_read pm_Disk_read an_Disk_read cd_Disk_read ct_Disk_read), sl_Disk_read⟩)
    (c_Disk_read : PySem.W.codeIn K cd_Disk_read "Disk.read" = true)
    (k_Disk_read : PySem.W.keepIn K (.ref f_Disk_read) = true)
    (a_Disk_operate : PySem.W.findIn K (.ref C_Disk) "operate" = some (some (.ref f_Disk_operate)))
    (i_Disk_operate : PySem.W.isFn K (.ref f_Disk_operate) = true)
    (l_Disk_operate : K.lookup f_Disk_operate = some ⟨oc_Disk_operate, od_Disk_operate, .func (PySem.W.fnOf "operate" "Disk.operate" (defArgs s_Disk_operate) (defBody s_Disk_operate) (defScope s_Disk_operate) .none kV_Disk_operate dc_Disk_operate pm_Disk_operate an_Disk_operate cd_Disk_operate ct_Disk_operate), sl_Disk_operate⟩)
    (c_Disk_operate : PySem.W.codeIn K cd_Disk_operate "Disk.operate" = true)
    (k_Disk_operate : PySem.W.keepIn K (.ref f_Disk_operate) = true)
    (a_Disk_write : PySem.W.findIn K (.ref C_Disk) "write" = some (some (.ref f_Disk_write)))
    (i_Disk_write : PySem.W.isFn K (.ref f_Disk_write) = true)
    (l_Disk_write : K.lookup f_Disk_write = some ⟨oc_Disk_write, od_Disk_write, .func (PySem.W.fnOf "write" "Disk.write" (defArgs s_Disk_write) (defBody s_Disk_write) (defScope s_Disk_write) .none kV_Disk_write dc_Disk_write pm_Disk_write an_Disk_write cd_Disk_write ct_Disk_write), sl_Disk_write⟩)
    (c_Disk_write : PySem.W.codeIn K cd_Disk_write "Disk.write" = true)
    (k_Disk_write : PySem.W.keepIn K (.ref f_Disk_write) = true)
    (a_Disk_flush : PySem.W.findIn K (.ref C_Disk) "flush" = some (some (.ref f_Disk_flush)))
    (i_Disk_flush : PySem.W.isFn K (.ref f_Disk_flush) = true)
    (l_Disk_flush : K.lookup f_Disk_flush = some ⟨oc_Disk_flush, od_Disk_flush, .func (PySem.W.fnOf "flush" "Disk.flush" (defArgs s_Disk_flush) (defBody s_Disk_flush) (defScope s_Disk_flush) .none kV_Disk_flush dc_Disk_flush pm_Disk_flush an_Disk_flush cd_Disk_flush ct_Disk_flush), sl_Disk_flush⟩)
    (c_Disk_flush : PySem.W.codeIn K cd_Disk_flush "Disk.flush" = true)
    (k_Disk_flush : PySem.W.keepIn K (.ref f_Disk_flush) = true)
    (a_Disk_waiting : PySem.W.findIn K (.ref C_Disk) "waiting" = some (some (.ref f_Disk_waiting)))
    (i_Disk_waiting : PySem.W.isFn K (.ref f_Disk_waiting) = true)
    (l_Disk_waiting : K.lookup f_Disk_waiting = some ⟨oc_Disk_waiting, od_Disk_waiting, .func (PySem.W.fnOf "waiting" "Disk.waiting" (defArgs s_Disk_waiting) (defBody s_Disk_waiting) (defScope s_Disk_waiting) .none kV_Disk_waiting dc_Disk_waiting pm_Disk_waiting an_Disk_waiting cd_Disk_waiting ct_Disk_waiting), sl_Disk_waiting⟩)
    (c_Disk_waiting : PySem.W.codeIn K cd_Disk_waiting "Disk.waiting" = true)
    (k_Disk_waiting : PySem.W.keepIn K (.ref f_Disk_waiting) = true)
    (a_Disk_cut : PySem.W.findIn K (.ref C_Disk) "cut" = some (some (.ref f_Disk_cut)))
    (i_Disk_cut : PySem.W.isFn K (.ref f_Disk_cut) = true)
    (l_Disk_cut : K.lookup f_Disk_cut = some ⟨oc_Disk_cut, od_Disk_cut, .func (PySem.W.fnOf "cut" "Disk.cut" (defArgs s_Disk_cut) (defBody s_Disk_cut) (defScope s_Disk_cut) .none kV_Disk_cut dc_Disk_cut pm_Disk_cut an_Disk_cut cd_Disk_cut ct_Disk_cut), sl_Disk_cut⟩)
    (c_Disk_cut : PySem.W.codeIn K cd_Disk_cut "Disk.cut" = true)
    (k_Disk_cut : PySem.W.keepIn K (.ref f_Disk_cut) = true)
    (a_Disk_image : PySem.W.findIn K (.ref C_Disk) "image" = some (some (.ref f_Disk_image)))
    (i_Disk_image : PySem.W.isFn K (.ref f_Disk_image) = true)
    (l_Disk_image : K.lookup f_Disk_image = some ⟨oc_Disk_image, od_Disk_image, .func (PySem.W.fnOf "image" "Disk.image" (defArgs s_Disk_image) (defBody s_Disk_image) (defScope s_Disk_image) .none kV_Disk_image dc_Disk_image pm_Disk_image an_Disk_image cd_Disk_image ct_Disk_image), sl_Disk_image⟩)
    (c_Disk_image : PySem.W.codeIn K cd_Disk_image "Disk.image" = true)
    (k_Disk_image : PySem.W.keepIn K (.ref f_Disk_image) = true)
    (a_Disk_lasting : PySem.W.findIn K (.ref C_Disk) "lasting" = some (some (.ref f_Disk_lasting)))
    (i_Disk_lasting : PySem.W.isFn K (.ref f_Disk_lasting) = true)
    (l_Disk_lasting : K.lookup f_Disk_lasting = some ⟨oc_Disk_lasting, od_Disk_lasting, .func (PySem.W.fnOf "lasting" "Disk.lasting" (defArgs s_Disk_lasting) (defBody s_Disk_lasting) (defScope s_Disk_lasting) .none kV_Disk_lasting dc_Disk_lasting pm_Disk_lasting an_Disk_lasting cd_Disk_lasting ct_Disk_lasting), sl_Disk_lasting⟩)
    (c_Disk_lasting : PySem.W.codeIn K cd_Disk_lasting "Disk.lasting" = true)
    (k_Disk_lasting : PySem.W.keepIn K (.ref f_Disk_lasting) = true)
    (a__law_tape : PySem.W.nsIn K mainGlobals "_law_tape" = some (some (.ref f__law_tape)))
    (l__law_tape : K.lookup f__law_tape = some ⟨oc__law_tape, od__law_tape, .func (PySem.W.fnOf "_law_tape" "_law_tape" (defArgs s__law_tape) (defBody s__law_tape) (defScope s__law_tape) .none kV__law_tape dc__law_tape pm__law_tape an__law_tape cd__law_tape ct__law_tape), sl__law_tape⟩)
    (c__law_tape : PySem.W.codeIn K cd__law_tape "_law_tape" = true)
    (k__law_tape : PySem.W.keepIn K (.ref f__law_tape) = true)
    (a__law_at : PySem.W.nsIn K mainGlobals "_law_at" = some (some (.ref f__law_at)))
    (l__law_at : K.lookup f__law_at = some ⟨oc__law_at, od__law_at, .func (PySem.W.fnOf "_law_at" "_law_at" (defArgs s__law_at) (defBody s__law_at) (defScope s__law_at) .none kV__law_at dc__law_at pm__law_at an__law_at cd__law_at ct__law_at), sl__law_at⟩)
    (c__law_at : PySem.W.codeIn K cd__law_at "_law_at" = true)
    (k__law_at : PySem.W.keepIn K (.ref f__law_at) = true)
    (a__law_zeros : PySem.W.nsIn K mainGlobals "_law_zeros" = some (some (.ref f__law_zeros)))
    (l__law_zeros : K.lookup f__law_zeros = some ⟨oc__law_zeros, od__law_zeros, .func (PySem.W.fnOf "_law_zeros" "_law_zeros" (defArgs s__law_zeros) (defBody s__law_zeros) (defScope s__law_zeros) .none kV__law_zeros dc__law_zeros pm__law_zeros an__law_zeros cd__law_zeros ct__law_zeros), sl__law_zeros⟩)
    (c__law_zeros : PySem.W.codeIn K cd__law_zeros "_law_zeros" = true)
    (k__law_zeros : PySem.W.keepIn K (.ref f__law_zeros) = true)
    (a__law_words : PySem.W.nsIn K mainGlobals "_law_words" = some (some (.ref f__law_words)))
    (l__law_words : K.lookup f__law_words = some ⟨oc__law_words, od__law_words, .func (PySem.W.fnOf "_law_words" "_law_words" (defArgs s__law_words) (defBody s__law_words) (defScope s__law_words) .none kV__law_words dc__law_words pm__law_words an__law_words cd__law_words ct__law_words), sl__law_words⟩)
    (c__law_words : PySem.W.codeIn K cd__law_words "_law_words" = true)
    (k__law_words : PySem.W.keepIn K (.ref f__law_words) = true)
    (a__law_sector : PySem.W.nsIn K mainGlobals "_law_sector" = some (some (.ref f__law_sector)))
    (l__law_sector : K.lookup f__law_sector = some ⟨oc__law_sector, od__law_sector, .func (PySem.W.fnOf "_law_sector" "_law_sector" (defArgs s__law_sector) (defBody s__law_sector) (defScope s__law_sector) .none kV__law_sector dc__law_sector pm__law_sector an__law_sector cd__law_sector ct__law_sector), sl__law_sector⟩)
    (c__law_sector : PySem.W.codeIn K cd__law_sector "_law_sector" = true)
    (k__law_sector : PySem.W.keepIn K (.ref f__law_sector) = true)
    (a__law_due : PySem.W.nsIn K mainGlobals "_law_due" = some (some (.ref f__law_due)))
    (l__law_due : K.lookup f__law_due = some ⟨oc__law_due, od__law_due, .func (PySem.W.fnOf "_law_due" "_law_due" (defArgs s__law_due) (defBody s__law_due) (defScope s__law_due) .none kV__law_due dc__law_due pm__law_due an__law_due cd__law_due ct__law_due), sl__law_due⟩)
    (c__law_due : PySem.W.codeIn K cd__law_due "_law_due" = true)
    (k__law_due : PySem.W.keepIn K (.ref f__law_due) = true)
    (a__law_after_cut : PySem.W.nsIn K mainGlobals "_law_after_cut" = some (some (.ref f__law_after_cut)))
    (l__law_after_cut : K.lookup f__law_after_cut = some ⟨oc__law_after_cut, od__law_after_cut, .func (PySem.W.fnOf "_law_after_cut" "_law_after_cut" (defArgs s__law_after_cut) (defBody s__law_after_cut) (defScope s__law_after_cut) .none kV__law_after_cut dc__law_after_cut pm__law_after_cut an__law_after_cut cd__law_after_cut ct__law_after_cut), sl__law_after_cut⟩)
    (c__law_after_cut : PySem.W.codeIn K cd__law_after_cut "_law_after_cut" = true)
    (k__law_after_cut : PySem.W.keepIn K (.ref f__law_after_cut) = true)
    (a__law_equal : PySem.W.nsIn K mainGlobals "_law_equal" = some (some (.ref f__law_equal)))
    (l__law_equal : K.lookup f__law_equal = some ⟨oc__law_equal, od__law_equal, .func (PySem.W.fnOf "_law_equal" "_law_equal" (defArgs s__law_equal) (defBody s__law_equal) (defScope s__law_equal) .none kV__law_equal dc__law_equal pm__law_equal an__law_equal cd__law_equal ct__law_equal), sl__law_equal⟩)
    (c__law_equal : PySem.W.codeIn K cd__law_equal "_law_equal" = true)
    (k__law_equal : PySem.W.keepIn K (.ref f__law_equal) = true)
    (a__law_choices : PySem.W.nsIn K mainGlobals "_law_choices" = some (some (.ref f__law_choices)))
    (l__law_choices : K.lookup f__law_choices = some ⟨oc__law_choices, od__law_choices, .func (PySem.W.fnOf "_law_choices" "_law_choices" (defArgs s__law_choices) (defBody s__law_choices) (defScope s__law_choices) .none kV__law_choices dc__law_choices pm__law_choices an__law_choices cd__law_choices ct__law_choices), sl__law_choices⟩)
    (c__law_choices : PySem.W.codeIn K cd__law_choices "_law_choices" = true)
    (k__law_choices : PySem.W.keepIn K (.ref f__law_choices) = true)
    (a__law_refused : PySem.W.nsIn K mainGlobals "_law_refused" = some (some (.ref f__law_refused)))
    (l__law_refused : K.lookup f__law_refused = some ⟨oc__law_refused, od__law_refused, .func (PySem.W.fnOf "_law_refused" "_law_refused" (defArgs s__law_refused) (defBody s__law_refused) (defScope s__law_refused) .none kV__law_refused dc__law_refused pm__law_refused an__law_refused cd__law_refused ct__law_refused), sl__law_refused⟩)
    (c__law_refused : PySem.W.codeIn K cd__law_refused "_law_refused" = true)
    (k__law_refused : PySem.W.keepIn K (.ref f__law_refused) = true)
    (a__law_look : PySem.W.nsIn K mainGlobals "_law_look" = some (some (.ref f__law_look)))
    (l__law_look : K.lookup f__law_look = some ⟨oc__law_look, od__law_look, .func (PySem.W.fnOf "_law_look" "_law_look" (defArgs s__law_look) (defBody s__law_look) (defScope s__law_look) .none kV__law_look dc__law_look pm__law_look an__law_look cd__law_look ct__law_look), sl__law_look⟩)
    (c__law_look : PySem.W.codeIn K cd__law_look "_law_look" = true)
    (k__law_look : PySem.W.keepIn K (.ref f__law_look) = true)
    (a__law_images : PySem.W.nsIn K mainGlobals "_law_images" = some (some (.ref f__law_images)))
    (l__law_images : K.lookup f__law_images = some ⟨oc__law_images, od__law_images, .func (PySem.W.fnOf "_law_images" "_law_images" (defArgs s__law_images) (defBody s__law_images) (defScope s__law_images) .none kV__law_images dc__law_images pm__law_images an__law_images cd__law_images ct__law_images), sl__law_images⟩)
    (c__law_images : PySem.W.codeIn K cd__law_images "_law_images" = true)
    (k__law_images : PySem.W.keepIn K (.ref f__law_images) = true)
    (a_law : PySem.W.nsIn K mainGlobals "law" = some (some (.ref f_law)))
    (l_law : K.lookup f_law = some ⟨oc_law, od_law, .func (PySem.W.fnOf "law" "law" (defArgs s_law) (defBody s_law) (defScope s_law) .none kV_law dc_law pm_law an_law cd_law ct_law), sl_law⟩)
    (c_law : PySem.W.codeIn K cd_law "law" = true)
    (k_law : PySem.W.keepIn K (.ref f_law) = true)
    (pg_Disk : PySem.W.plainGet K C_Disk Str.empty = true)
    (hd_Disk : PySem.W.hasDictIn K C_Disk = true)
    (po_Disk : PySem.W.plainOver K C_Disk = true)
    (sa_Disk : PySem.W.findIn K (.ref C_Disk) "__setattr__" = some (some (.builtin "object.__setattr__")))
    (mk_Disk : PySem.W.makesIn K C_Disk = true)
    (kc_Disk : PySem.W.keepIn K (.ref C_Disk) = true)
    (n_abs : PySem.W.nsIn K mainGlobals "abs" = some none)
    (n_bool : PySem.W.nsIn K mainGlobals "bool" = some none)
    (n_dict : PySem.W.nsIn K mainGlobals "dict" = some none)
    (n_enumerate : PySem.W.nsIn K mainGlobals "enumerate" = some none)
    (n_int : PySem.W.nsIn K mainGlobals "int" = some none)
    (n_isinstance : PySem.W.nsIn K mainGlobals "isinstance" = some none)
    (n_len : PySem.W.nsIn K mainGlobals "len" = some none)
    (n_list : PySem.W.nsIn K mainGlobals "list" = some none)
    (n_min : PySem.W.nsIn K mainGlobals "min" = some none)
    (n_range : PySem.W.nsIn K mainGlobals "range" = some none)
    (n_tuple : PySem.W.nsIn K mainGlobals "tuple" = some none)
    (kc_BLOCK_SECTORS : PySem.W.nsIn K mainGlobals "BLOCK_SECTORS" = some (some (.int 4 t_BLOCK_SECTORS)))
    (kc_MAX_BLOCKS : PySem.W.nsIn K mainGlobals "MAX_BLOCKS" = some (some (.int 256 t_MAX_BLOCKS)))
    (kc_MIN_BLOCKS : PySem.W.nsIn K mainGlobals "MIN_BLOCKS" = some (some (.int 96 t_MIN_BLOCKS)))
    (kc_SECTOR_WORDS : PySem.W.nsIn K mainGlobals "SECTOR_WORDS" = some (some (.int 8 t_SECTOR_WORDS)))
    (ex_BadImage : PySem.W.excIn K C_BadImage [.type "ValueError", .type "Exception", .type "BaseException", .type "object"] "ValueError.__new__" = true)
    (kc_BadImage : PySem.W.keepIn K (.ref C_BadImage) = true)
    (sb_BadImage : PySem.W.subIn K (.ref C_BadImage) (.type "BaseException") = some true)
    (ty_BadImage : PySem.W.typeIn K (.ref C_BadImage) = some (.type "type"))
    (ex_LaminaError : PySem.W.excIn K C_LaminaError [.type "ValueError", .type "Exception", .type "BaseException", .type "object"] "ValueError.__new__" = true)
    (kc_LaminaError : PySem.W.keepIn K (.ref C_LaminaError) = true)
    (sb_LaminaError : PySem.W.subIn K (.ref C_LaminaError) (.type "BaseException") = some true)
    (ty_LaminaError : PySem.W.typeIn K (.ref C_LaminaError) = some (.type "type"))
    (ex_NotValid : PySem.W.excIn K C_NotValid [.type "ValueError", .type "Exception", .type "BaseException", .type "object"] "ValueError.__new__" = true)
    (kc_NotValid : PySem.W.keepIn K (.ref C_NotValid) = true)
    (sb_NotValid : PySem.W.subIn K (.ref C_NotValid) (.type "BaseException") = some true)
    (ty_NotValid : PySem.W.typeIn K (.ref C_NotValid) = some (.type "type"))
    (ex_PowerOff : PySem.W.excIn K C_PowerOff [.type "ValueError", .type "Exception", .type "BaseException", .type "object"] "ValueError.__new__" = true)
    (kc_PowerOff : PySem.W.keepIn K (.ref C_PowerOff) = true)
    (sb_PowerOff : PySem.W.subIn K (.ref C_PowerOff) (.type "BaseException") = some true)
    (ty_PowerOff : PySem.W.typeIn K (.ref C_PowerOff) = some (.type "type"))
    (nf_Disk_blocks : PySem.W.findIn K (.ref C_Disk) "blocks" = some none)
    (nf_Disk_left : PySem.W.findIn K (.ref C_Disk) "left" = some none)
    (nf_Disk_newest : PySem.W.findIn K (.ref C_Disk) "newest" = some none)
    (nf_Disk_power : PySem.W.findIn K (.ref C_Disk) "power" = some none)
    (nf_Disk_sectors : PySem.W.findIn K (.ref C_Disk) "sectors" = some none)
    (nf_Disk_writes : PySem.W.findIn K (.ref C_Disk) "writes" = some none)
    (su_BadImage_LaminaError : PySem.W.subIn K (.ref C_BadImage) (.ref C_LaminaError) = some true)
    (su_BadImage_NotValid : PySem.W.subIn K (.ref C_BadImage) (.ref C_NotValid) = some false)
    (su_LaminaError_BadImage : PySem.W.subIn K (.ref C_LaminaError) (.ref C_BadImage) = some false)
    (su_LaminaError_LaminaError : PySem.W.subIn K (.ref C_LaminaError) (.ref C_LaminaError) = some true)
    (su_LaminaError_NotValid : PySem.W.subIn K (.ref C_LaminaError) (.ref C_NotValid) = some false)
    (su_NotValid_BadImage : PySem.W.subIn K (.ref C_NotValid) (.ref C_BadImage) = some false)
    (su_NotValid_LaminaError : PySem.W.subIn K (.ref C_NotValid) (.ref C_LaminaError) = some true)
    (su_PowerOff_BadImage : PySem.W.subIn K (.ref C_PowerOff) (.ref C_BadImage) = some false)
    (su_PowerOff_LaminaError : PySem.W.subIn K (.ref C_PowerOff) (.ref C_LaminaError) = some true)
    (su_PowerOff_NotValid : PySem.W.subIn K (.ref C_PowerOff) (.ref C_NotValid) = some false)
    (hx_BadImage : PySem.W.hasDictIn K C_BadImage = true)
    (hx_LaminaError : PySem.W.hasDictIn K C_LaminaError = true)
    (hx_NotValid : PySem.W.hasDictIn K C_NotValid = true)
    (hx_PowerOff : PySem.W.hasDictIn K C_PowerOff = true)
    (ne_LaminaError_NotValid : (Value.ref C_LaminaError == Value.ref C_NotValid) = false)
    (ne_PowerOff_NotValid : (Value.ref C_PowerOff == Value.ref C_NotValid) = false)
    (ne_BadImage_NotValid : (Value.ref C_BadImage == Value.ref C_NotValid) = false)
    (ne_LaminaError_BadImage : (Value.ref C_LaminaError == Value.ref C_BadImage) = false)
    (ne_NotValid_BadImage : (Value.ref C_NotValid == Value.ref C_BadImage) = false)
    (ne_PowerOff_BadImage : (Value.ref C_PowerOff == Value.ref C_BadImage) = false)
    (ga_LaminaError : PySem.W.findIn K (.ref C_LaminaError) "__getattribute__" = some (some (.builtin "BaseException.__getattribute__")))
    (gg_LaminaError : PySem.W.findIn K (.ref C_LaminaError) "__getattr__" = some none)
    (cl_LaminaError : PySem.W.findIn K (.ref C_LaminaError) "__class__" = some (some (.builtin "object.__class__")))
    (om_LaminaError : PySem.W.mroIn K C_LaminaError (.type "object") = some true)
    (ga_NotValid : PySem.W.findIn K (.ref C_NotValid) "__getattribute__" = some (some (.builtin "BaseException.__getattribute__")))
    (gg_NotValid : PySem.W.findIn K (.ref C_NotValid) "__getattr__" = some none)
    (cl_NotValid : PySem.W.findIn K (.ref C_NotValid) "__class__" = some (some (.builtin "object.__class__")))
    (om_NotValid : PySem.W.mroIn K C_NotValid (.type "object") = some true)
    (ga_PowerOff : PySem.W.findIn K (.ref C_PowerOff) "__getattribute__" = some (some (.builtin "BaseException.__getattribute__")))
    (gg_PowerOff : PySem.W.findIn K (.ref C_PowerOff) "__getattr__" = some none)
    (cl_PowerOff : PySem.W.findIn K (.ref C_PowerOff) "__class__" = some (some (.builtin "object.__class__")))
    (om_PowerOff : PySem.W.mroIn K C_PowerOff (.type "object") = some true)
    (ga_BadImage : PySem.W.findIn K (.ref C_BadImage) "__getattribute__" = some (some (.builtin "BaseException.__getattribute__")))
    (gg_BadImage : PySem.W.findIn K (.ref C_BadImage) "__getattr__" = some none)
    (cl_BadImage : PySem.W.findIn K (.ref C_BadImage) "__class__" = some (some (.builtin "object.__class__")))
    (om_BadImage : PySem.W.mroIn K C_BadImage (.type "object") = some true)
    (sp_cls : PySem.W.specialIn K (.builtin "object.__class__") "__get__" = some (some (.builtin "getset_descriptor.__get__")))
    (tk_cls : PySem.W.takesIn K (.builtin "object.__class__") = some true) :
    ∃ fd : FuncData, (∀ (s : Shared) (v : Value), BindsTo s fd ⟨[v], []⟩ [("_law_script", v)]) ∧ ∀ base : Heap, K.In base → base.Ns mainGlobals mg → FnOk P w K mg base (L2.CX P w) 5 fa fd ["_law_script"] (spLaw K) := by
  have e := hfa.symm.trans (PySem.W.mg_of X G a_law)
  cases e
  have F_is_between := fun_mk (st := s_is_between) l_is_between c_is_between k_is_between
  have F_is_word := fun_mk (st := s_is_word) l_is_word c_is_word k_is_word
  have F_are_words := fun_mk (st := s_are_words) l_are_words c_are_words k_are_words
  have F_Disk___init__ := fun_mk (st := s_Disk___init__) l_Disk___init__ c_Disk___init__ k_Disk___init__
  have F_Disk_read := fun_mk (st := s_Disk_read) l_Disk_read c_Disk_read k_Disk_read
  have F_Disk_operate := fun_mk (st := s_Disk_operate) l_Disk_operate c_Disk_operate k_Disk_operate
  have F_Disk_write := fun_mk (st := s_Disk_write) l_Disk_write c_Disk_write k_Disk_write
  have F_Disk_flush := fun_mk (st := s_Disk_flush) l_Disk_flush c_Disk_flush k_Disk_flush
  have F_Disk_waiting := fun_mk (st := s_Disk_waiting) l_Disk_waiting c_Disk_waiting k_Disk_waiting
  have F_Disk_cut := fun_mk (st := s_Disk_cut) l_Disk_cut c_Disk_cut k_Disk_cut
  have F_Disk_image := fun_mk (st := s_Disk_image) l_Disk_image c_Disk_image k_Disk_image
  have F_Disk_lasting := fun_mk (st := s_Disk_lasting) l_Disk_lasting c_Disk_lasting k_Disk_lasting
  have F__law_tape := fun_mk (st := s__law_tape) l__law_tape c__law_tape k__law_tape
  have F__law_at := fun_mk (st := s__law_at) l__law_at c__law_at k__law_at
  have F__law_zeros := fun_mk (st := s__law_zeros) l__law_zeros c__law_zeros k__law_zeros
  have F__law_words := fun_mk (st := s__law_words) l__law_words c__law_words k__law_words
  have F__law_sector := fun_mk (st := s__law_sector) l__law_sector c__law_sector k__law_sector
  have F__law_due := fun_mk (st := s__law_due) l__law_due c__law_due k__law_due
  have F__law_after_cut := fun_mk (st := s__law_after_cut) l__law_after_cut c__law_after_cut k__law_after_cut
  have F__law_equal := fun_mk (st := s__law_equal) l__law_equal c__law_equal k__law_equal
  have F__law_choices := fun_mk (st := s__law_choices) l__law_choices c__law_choices k__law_choices
  have F__law_refused := fun_mk (st := s__law_refused) l__law_refused c__law_refused k__law_refused
  have F__law_look := fun_mk (st := s__law_look) l__law_look c__law_look k__law_look
  have F__law_images := fun_mk (st := s__law_images) l__law_images c__law_images k__law_images
  have F_law := fun_mk (st := s_law) l_law c_law k_law
  let A : Adr := {
    ex := { ({ } : Ex) with Disk := C_Disk, LaminaError := C_LaminaError, NotValid := C_NotValid, PowerOff := C_PowerOff, BadImage := C_BadImage },
    f_is_between := f_is_between, d_is_between := PySem.W.fnOf "is_between" "is_between" (defArgs s_is_between) (defBody s_is_between) (defScope s_is_between) .none kV_is_between dc_is_between pm_is_between an_is_between cd_is_between ct_is_between,
    f_is_word := f_is_word, d_is_word := PySem.W.fnOf "is_word" "is_word" (defArgs s_is_word) (defBody s_is_word) (defScope s_is_word) .none kV_is_word dc_is_word pm_is_word an_is_word cd_is_word ct_is_word,
    f_are_words := f_are_words, d_are_words := PySem.W.fnOf "are_words" "are_words" (defArgs s_are_words) (defBody s_are_words) (defScope s_are_words) .none kV_are_words dc_are_words pm_are_words an_are_words cd_are_words ct_are_words,
    f_Disk___init__ := f_Disk___init__, d_Disk___init__ := PySem.W.fnOf "__init__" "Disk.__init__" (defArgs s_Disk___init__) (defBody s_Disk___init__) (defScope s_Disk___init__) .none kV_Disk___init__ dc_Disk___init__ pm_Disk___init__ an_Disk___init__ cd_Disk___init__ ct_Disk___init__,
    f_Disk_read := f_Disk_read, d_Disk_read := PySem.W.fnOf "read" "Disk.read" (defArgs s_Disk_read) (defBody s_Disk_read) (defScope s_Disk_read) .none kV_Disk_read dc_Disk_read pm_Disk_read an_Disk_read cd_Disk_read ct_Disk_read,
    f_Disk_operate := f_Disk_operate, d_Disk_operate := PySem.W.fnOf "operate" "Disk.operate" (defArgs s_Disk_operate) (defBody s_Disk_operate) (defScope s_Disk_operate) .none kV_Disk_operate dc_Disk_operate pm_Disk_operate an_Disk_operate cd_Disk_operate ct_Disk_operate,
    f_Disk_write := f_Disk_write, d_Disk_write := PySem.W.fnOf "write" "Disk.write" (defArgs s_Disk_write) (defBody s_Disk_write) (defScope s_Disk_write) .none kV_Disk_write dc_Disk_write pm_Disk_write an_Disk_write cd_Disk_write ct_Disk_write,
    f_Disk_flush := f_Disk_flush, d_Disk_flush := PySem.W.fnOf "flush" "Disk.flush" (defArgs s_Disk_flush) (defBody s_Disk_flush) (defScope s_Disk_flush) .none kV_Disk_flush dc_Disk_flush pm_Disk_flush an_Disk_flush cd_Disk_flush ct_Disk_flush,
    f_Disk_waiting := f_Disk_waiting, d_Disk_waiting := PySem.W.fnOf "waiting" "Disk.waiting" (defArgs s_Disk_waiting) (defBody s_Disk_waiting) (defScope s_Disk_waiting) .none kV_Disk_waiting dc_Disk_waiting pm_Disk_waiting an_Disk_waiting cd_Disk_waiting ct_Disk_waiting,
    f_Disk_cut := f_Disk_cut, d_Disk_cut := PySem.W.fnOf "cut" "Disk.cut" (defArgs s_Disk_cut) (defBody s_Disk_cut) (defScope s_Disk_cut) .none kV_Disk_cut dc_Disk_cut pm_Disk_cut an_Disk_cut cd_Disk_cut ct_Disk_cut,
    f_Disk_image := f_Disk_image, d_Disk_image := PySem.W.fnOf "image" "Disk.image" (defArgs s_Disk_image) (defBody s_Disk_image) (defScope s_Disk_image) .none kV_Disk_image dc_Disk_image pm_Disk_image an_Disk_image cd_Disk_image ct_Disk_image,
    f_Disk_lasting := f_Disk_lasting, d_Disk_lasting := PySem.W.fnOf "lasting" "Disk.lasting" (defArgs s_Disk_lasting) (defBody s_Disk_lasting) (defScope s_Disk_lasting) .none kV_Disk_lasting dc_Disk_lasting pm_Disk_lasting an_Disk_lasting cd_Disk_lasting ct_Disk_lasting,
    f__law_tape := f__law_tape, d__law_tape := PySem.W.fnOf "_law_tape" "_law_tape" (defArgs s__law_tape) (defBody s__law_tape) (defScope s__law_tape) .none kV__law_tape dc__law_tape pm__law_tape an__law_tape cd__law_tape ct__law_tape,
    f__law_at := f__law_at, d__law_at := PySem.W.fnOf "_law_at" "_law_at" (defArgs s__law_at) (defBody s__law_at) (defScope s__law_at) .none kV__law_at dc__law_at pm__law_at an__law_at cd__law_at ct__law_at,
    f__law_zeros := f__law_zeros, d__law_zeros := PySem.W.fnOf "_law_zeros" "_law_zeros" (defArgs s__law_zeros) (defBody s__law_zeros) (defScope s__law_zeros) .none kV__law_zeros dc__law_zeros pm__law_zeros an__law_zeros cd__law_zeros ct__law_zeros,
    f__law_words := f__law_words, d__law_words := PySem.W.fnOf "_law_words" "_law_words" (defArgs s__law_words) (defBody s__law_words) (defScope s__law_words) .none kV__law_words dc__law_words pm__law_words an__law_words cd__law_words ct__law_words,
    f__law_sector := f__law_sector, d__law_sector := PySem.W.fnOf "_law_sector" "_law_sector" (defArgs s__law_sector) (defBody s__law_sector) (defScope s__law_sector) .none kV__law_sector dc__law_sector pm__law_sector an__law_sector cd__law_sector ct__law_sector,
    f__law_due := f__law_due, d__law_due := PySem.W.fnOf "_law_due" "_law_due" (defArgs s__law_due) (defBody s__law_due) (defScope s__law_due) .none kV__law_due dc__law_due pm__law_due an__law_due cd__law_due ct__law_due,
    f__law_after_cut := f__law_after_cut, d__law_after_cut := PySem.W.fnOf "_law_after_cut" "_law_after_cut" (defArgs s__law_after_cut) (defBody s__law_after_cut) (defScope s__law_after_cut) .none kV__law_after_cut dc__law_after_cut pm__law_after_cut an__law_after_cut cd__law_after_cut ct__law_after_cut,
    f__law_equal := f__law_equal, d__law_equal := PySem.W.fnOf "_law_equal" "_law_equal" (defArgs s__law_equal) (defBody s__law_equal) (defScope s__law_equal) .none kV__law_equal dc__law_equal pm__law_equal an__law_equal cd__law_equal ct__law_equal,
    f__law_choices := f__law_choices, d__law_choices := PySem.W.fnOf "_law_choices" "_law_choices" (defArgs s__law_choices) (defBody s__law_choices) (defScope s__law_choices) .none kV__law_choices dc__law_choices pm__law_choices an__law_choices cd__law_choices ct__law_choices,
    f__law_refused := f__law_refused, d__law_refused := PySem.W.fnOf "_law_refused" "_law_refused" (defArgs s__law_refused) (defBody s__law_refused) (defScope s__law_refused) .none kV__law_refused dc__law_refused pm__law_refused an__law_refused cd__law_refused ct__law_refused,
    f__law_look := f__law_look, d__law_look := PySem.W.fnOf "_law_look" "_law_look" (defArgs s__law_look) (defBody s__law_look) (defScope s__law_look) .none kV__law_look dc__law_look pm__law_look an__law_look cd__law_look ct__law_look,
    f__law_images := f__law_images, d__law_images := PySem.W.fnOf "_law_images" "_law_images" (defArgs s__law_images) (defBody s__law_images) (defScope s__law_images) .none kV__law_images dc__law_images pm__law_images an__law_images cd__law_images ct__law_images,
    f_law := fa, d_law := PySem.W.fnOf "law" "law" (defArgs s_law) (defBody s_law) (defScope s_law) .none kV_law dc_law pm_law an_law cd_law ct_law }
  have T : Top K mg A := {
    F_is_between := F_is_between,
    b_is_between := F_is_between.binds (ps := ["value", "low", "high"]) fun _ _ _ _ _ _ us hl => match us, hl with | [_, _, _], _ => rfl,
    g_is_between := PySem.W.mg_of X G a_is_between,
    F_is_word := F_is_word,
    b_is_word := F_is_word.binds (ps := ["value"]) fun _ _ _ _ _ _ us hl => match us, hl with | [_], _ => rfl,
    g_is_word := PySem.W.mg_of X G a_is_word,
    F_are_words := F_are_words,
    b_are_words := F_are_words.binds (ps := ["values", "many"]) fun _ _ _ _ _ _ us hl => match us, hl with | [_, _], _ => rfl,
    g_are_words := PySem.W.mg_of X G a_are_words,
    F_Disk___init__ := F_Disk___init__,
    b_Disk___init__ := F_Disk___init__.binds (ps := ["self", "blocks"]) fun _ _ _ _ _ _ us hl => match us, hl with | [_, _], _ => rfl,
    F_Disk_read := F_Disk_read,
    b_Disk_read := F_Disk_read.binds (ps := ["self", "sector"]) fun _ _ _ _ _ _ us hl => match us, hl with | [_, _], _ => rfl,
    m_Disk_read := ⟨a_Disk_read, i_Disk_read, k_Disk_read⟩,
    F_Disk_operate := F_Disk_operate,
    b_Disk_operate := F_Disk_operate.binds (ps := ["self"]) fun _ _ _ _ _ _ us hl => match us, hl with | [_], _ => rfl,
    m_Disk_operate := ⟨a_Disk_operate, i_Disk_operate, k_Disk_operate⟩,
    F_Disk_write := F_Disk_write,
    b_Disk_write := F_Disk_write.binds (ps := ["self", "sector", "words"]) fun _ _ _ _ _ _ us hl => match us, hl with | [_, _, _], _ => rfl,
    m_Disk_write := ⟨a_Disk_write, i_Disk_write, k_Disk_write⟩,
    F_Disk_flush := F_Disk_flush,
    b_Disk_flush := F_Disk_flush.binds (ps := ["self"]) fun _ _ _ _ _ _ us hl => match us, hl with | [_], _ => rfl,
    m_Disk_flush := ⟨a_Disk_flush, i_Disk_flush, k_Disk_flush⟩,
    F_Disk_waiting := F_Disk_waiting,
    b_Disk_waiting := F_Disk_waiting.binds (ps := ["self"]) fun _ _ _ _ _ _ us hl => match us, hl with | [_], _ => rfl,
    m_Disk_waiting := ⟨a_Disk_waiting, i_Disk_waiting, k_Disk_waiting⟩,
    F_Disk_cut := F_Disk_cut,
    b_Disk_cut := F_Disk_cut.binds (ps := ["self", "choices"]) fun _ _ _ _ _ _ us hl => match us, hl with | [_, _], _ => rfl,
    m_Disk_cut := ⟨a_Disk_cut, i_Disk_cut, k_Disk_cut⟩,
    F_Disk_image := F_Disk_image,
    b_Disk_image := F_Disk_image.binds (ps := ["self"]) fun _ _ _ _ _ _ us hl => match us, hl with | [_], _ => rfl,
    m_Disk_image := ⟨a_Disk_image, i_Disk_image, k_Disk_image⟩,
    F_Disk_lasting := F_Disk_lasting,
    b_Disk_lasting := F_Disk_lasting.binds (ps := ["self"]) fun _ _ _ _ _ _ us hl => match us, hl with | [_], _ => rfl,
    m_Disk_lasting := ⟨a_Disk_lasting, i_Disk_lasting, k_Disk_lasting⟩,
    F__law_tape := F__law_tape,
    b__law_tape := F__law_tape.binds (ps := ["_law_script"]) fun _ _ _ _ _ _ us hl => match us, hl with | [_], _ => rfl,
    g__law_tape := PySem.W.mg_of X G a__law_tape,
    F__law_at := F__law_at,
    b__law_at := F__law_at.binds (ps := ["_law_tape_here", "_law_k"]) fun _ _ _ _ _ _ us hl => match us, hl with | [_, _], _ => rfl,
    g__law_at := PySem.W.mg_of X G a__law_at,
    F__law_zeros := F__law_zeros,
    b__law_zeros := F__law_zeros.binds (ps := []) fun _ _ _ _ _ _ us hl => match us, hl with | [], _ => rfl,
    g__law_zeros := PySem.W.mg_of X G a__law_zeros,
    F__law_words := F__law_words,
    b__law_words := F__law_words.binds (ps := ["_law_number", "_law_extra"]) fun _ _ _ _ _ _ us hl => match us, hl with | [_, _], _ => rfl,
    g__law_words := PySem.W.mg_of X G a__law_words,
    F__law_sector := F__law_sector,
    b__law_sector := F__law_sector.binds (ps := ["_law_number", "_law_many"]) fun _ _ _ _ _ _ us hl => match us, hl with | [_, _], _ => rfl,
    g__law_sector := PySem.W.mg_of X G a__law_sector,
    F__law_due := F__law_due,
    b__law_due := F__law_due.binds (ps := ["_law_lasts", "_law_writes", "_law_sector_here"]) fun _ _ _ _ _ _ us hl => match us, hl with | [_, _, _], _ => rfl,
    g__law_due := PySem.W.mg_of X G a__law_due,
    F__law_after_cut := F__law_after_cut,
    b__law_after_cut := F__law_after_cut.binds (ps := ["_law_lasts", "_law_writes", "_law_choices_here"]) fun _ _ _ _ _ _ us hl => match us, hl with | [_, _, _], _ => rfl,
    g__law_after_cut := PySem.W.mg_of X G a__law_after_cut,
    F__law_equal := F__law_equal,
    b__law_equal := F__law_equal.binds (ps := ["_law_told", "_law_due_here"]) fun _ _ _ _ _ _ us hl => match us, hl with | [_, _], _ => rfl,
    g__law_equal := PySem.W.mg_of X G a__law_equal,
    F__law_choices := F__law_choices,
    b__law_choices := F__law_choices.binds (ps := ["_law_tape_here", "_law_start", "_law_many"]) fun _ _ _ _ _ _ us hl => match us, hl with | [_, _, _], _ => rfl,
    g__law_choices := PySem.W.mg_of X G a__law_choices,
    F__law_refused := F__law_refused,
    b__law_refused := F__law_refused.binds (ps := ["_law_disk", "_law_number", "_law_many"]) fun _ _ _ _ _ _ us hl => match us, hl with | [_, _, _], _ => rfl,
    g__law_refused := PySem.W.mg_of X G a__law_refused,
    F__law_look := F__law_look,
    b__law_look := F__law_look.binds (ps := ["_law_disk", "_law_lasts", "_law_writes", "_law_many", "_law_sector_here"]) fun _ _ _ _ _ _ us hl => match us, hl with | [_, _, _, _, _], _ => rfl,
    g__law_look := PySem.W.mg_of X G a__law_look,
    F__law_images := F__law_images,
    b__law_images := F__law_images.binds (ps := ["_law_disk", "_law_lasts", "_law_writes", "_law_many"]) fun _ _ _ _ _ _ us hl => match us, hl with | [_, _, _, _], _ => rfl,
    g__law_images := PySem.W.mg_of X G a__law_images,
    F_law := F_law,
    b_law := F_law.binds (ps := ["_law_script"]) fun _ _ _ _ _ _ us hl => match us, hl with | [_], _ => rfl,
    g_law := PySem.W.mg_of X G a_law,
    c_Disk := ⟨pg_Disk, hd_Disk, po_Disk, sa_Disk⟩,
    M_Disk := ⟨mk_Disk, a_Disk___init__, i_Disk___init__, kc_Disk⟩,
    gC_Disk := PySem.W.mg_of X G aC_Disk,
    n_abs := PySem.W.mg_none_of X G n_abs,
    n_bool := PySem.W.mg_none_of X G n_bool,
    n_dict := PySem.W.mg_none_of X G n_dict,
    n_enumerate := PySem.W.mg_none_of X G n_enumerate,
    n_int := PySem.W.mg_none_of X G n_int,
    n_isinstance := PySem.W.mg_none_of X G n_isinstance,
    n_len := PySem.W.mg_none_of X G n_len,
    n_list := PySem.W.mg_none_of X G n_list,
    n_min := PySem.W.mg_none_of X G n_min,
    n_range := PySem.W.mg_none_of X G n_range,
    n_tuple := PySem.W.mg_none_of X G n_tuple,
    k_BLOCK_SECTORS := ⟨_, PySem.W.mg_of X G kc_BLOCK_SECTORS⟩,
    k_MAX_BLOCKS := ⟨_, PySem.W.mg_of X G kc_MAX_BLOCKS⟩,
    k_MIN_BLOCKS := ⟨_, PySem.W.mg_of X G kc_MIN_BLOCKS⟩,
    k_SECTOR_WORDS := ⟨_, PySem.W.mg_of X G kc_SECTOR_WORDS⟩,
    x_BadImage := ⟨ex_BadImage, PySem.W.mg_of X G aC_BadImage, kc_BadImage, sb_BadImage, ty_BadImage⟩,
    x_LaminaError := ⟨ex_LaminaError, PySem.W.mg_of X G aC_LaminaError, kc_LaminaError, sb_LaminaError, ty_LaminaError⟩,
    x_NotValid := ⟨ex_NotValid, PySem.W.mg_of X G aC_NotValid, kc_NotValid, sb_NotValid, ty_NotValid⟩,
    x_PowerOff := ⟨ex_PowerOff, PySem.W.mg_of X G aC_PowerOff, kc_PowerOff, sb_PowerOff, ty_PowerOff⟩,
    n_Disk_blocks := nf_Disk_blocks,
    n_Disk_left := nf_Disk_left,
    n_Disk_newest := nf_Disk_newest,
    n_Disk_power := nf_Disk_power,
    n_Disk_sectors := nf_Disk_sectors,
    n_Disk_writes := nf_Disk_writes,
    fa := { fa0 := trivial, te_LaminaError_LaminaError := PySem.W.exm_ref sb_LaminaError hx_LaminaError ty_LaminaError su_LaminaError_LaminaError, te_NotValid_LaminaError := PySem.W.exm_ref sb_LaminaError hx_LaminaError ty_LaminaError su_NotValid_LaminaError, te_PowerOff_LaminaError := PySem.W.exm_ref sb_LaminaError hx_LaminaError ty_LaminaError su_PowerOff_LaminaError, te_BadImage_LaminaError := PySem.W.exm_ref sb_LaminaError hx_LaminaError ty_LaminaError su_BadImage_LaminaError, kt_LaminaError_NotValid := kit_ne ne_LaminaError_NotValid sb_NotValid hx_NotValid ty_NotValid su_LaminaError_NotValid, kt_NotValid_NotValid := kit_same, kt_PowerOff_NotValid := kit_ne ne_PowerOff_NotValid sb_NotValid hx_NotValid ty_NotValid su_PowerOff_NotValid, kt_BadImage_NotValid := kit_ne ne_BadImage_NotValid sb_NotValid hx_NotValid ty_NotValid su_BadImage_NotValid, kt_LaminaError_BadImage := kit_ne ne_LaminaError_BadImage sb_BadImage hx_BadImage ty_BadImage su_LaminaError_BadImage, kt_NotValid_BadImage := kit_ne ne_NotValid_BadImage sb_BadImage hx_BadImage ty_BadImage su_NotValid_BadImage, kt_PowerOff_BadImage := kit_ne ne_PowerOff_BadImage sb_BadImage hx_BadImage ty_BadImage su_PowerOff_BadImage, kt_BadImage_BadImage := kit_same, xc_LaminaError := ⟨ga_LaminaError, gg_LaminaError, sb_LaminaError, hx_LaminaError, cl_LaminaError, sp_cls, tk_cls, om_LaminaError⟩, xc_NotValid := ⟨ga_NotValid, gg_NotValid, sb_NotValid, hx_NotValid, cl_NotValid, sp_cls, tk_cls, om_NotValid⟩, xc_PowerOff := ⟨ga_PowerOff, gg_PowerOff, sb_PowerOff, hx_PowerOff, cl_PowerOff, sp_cls, tk_cls, om_PowerOff⟩, xc_BadImage := ⟨ga_BadImage, gg_BadImage, sb_BadImage, hx_BadImage, cl_BadImage, sp_cls, tk_cls, om_BadImage⟩ } }
  exact ⟨_, fun s v => .of_eq rfl, fun base _ _ => ok_law (A := A) T⟩
theorem walk {l : PySem.W.OpenLaw} {q : Program} {loose : List Str} {XP : (Str → Option Value) → Heap → Prop} {YP : World → Heap → Prop} {d : DefRec} {K : Params → PySem.W.Frag} (hn : l.most = some 63) (hdf : d.params.defaults = [])
    (hY : ∀ (w : World) (h : Heap), YP w h → (K w.params).In h)
    (F : ∀ (w : World) (mg : Str → Option Value) (fa : Addr) (h : Heap), (K w.params).In h → h.Ns mainGlobals mg → mg d.name = some (.ref fa) →
      ∃ fd : FuncData, (∀ (s : Shared) (u : Value), BindsTo s fd ⟨[u], []⟩ [("_law_script", u)]) ∧ ∀ base : Heap, (K w.params).In base → base.Ns mainGlobals mg → FnOk l.prog w (K w.params) mg base (L2.CX l.prog w) 5 fa fd ["_law_script"] (spLaw (K w.params))) :
    PySem.W.WalkO q loose XP YP l.row.toRowW d [] (fun f vs => PySem.call f vs) :=
  L2.walk_of (n := 63) (k := 5) (x := "_law_script") (CX := fun w => L2.CX l.prog w) (sp := fun w => spLaw (K w.params)) hn (by decide) hdf ⟨rfl, by decide, by decide⟩ hY F (fun _ _ a ns hl _ hS => ⟨_, rfl, a, ns, rfl, hS, hl, fun _ => rfl⟩) fun _ _ _ _ _ ⟨_, _, _, _, _, _, _, _, _, _, _, _, z⟩ => z
end Lam
open PySem PySem.W PyProof.Rows
set_option maxRecDepth 100000 in
set_option maxHeartbeats 0 in
theorem PySem.Challenge.cw_laminae_k04_disk_reads_and_cuts_holds : PySem.Challenge.rw_laminae_k04_disk_reads_and_cuts.Holds := by
  w_on; o_law; k_head; (case hw => w_witness2)
  k_fill
  refine Lam.walk (l := PySem.Challenge.rw_laminae_k04_disk_reads_and_cuts) rfl rfl (fun w h Y => PySem.W.kIn_of Y) ?F
  case F =>
    intro w mg fa h KX G hmg
    refine' Lam.all_mk KX G hmg ?aC_Disk ?aC_BadImage ?aC_LaminaError ?aC_NotValid ?aC_PowerOff ?a_is_between ?l_is_between ?c_is_between ?k_is_between ?a_is_word ?l_is_word ?c_is_word ?k_is_word ?a_are_words ?l_are_words ?c_are_words ?k_are_words ?a_Disk___init__ ?i_Disk___init__ ?l_Disk___init__ ?c_Disk___init__ ?k_Disk___init__ ?a_Disk_read ?i_Disk_read ?l_Disk_read ?c_Disk_read ?k_Disk_read ?a_Disk_operate ?i_Disk_operate ?l_Disk_operate ?c_Disk_operate ?k_Disk_operate ?a_Disk_write ?i_Disk_write ?l_Disk_write ?c_Disk_write ?k_Disk_write ?a_Disk_flush ?i_Disk_flush ?l_Disk_flush ?c_Disk_flush ?k_Disk_flush ?a_Disk_waiting ?i_Disk_waiting ?l_Disk_waiting ?c_Disk_waiting ?k_Disk_waiting ?a_Disk_cut ?i_Disk_cut ?l_Disk_cut ?c_Disk_cut ?k_Disk_cut ?a_Disk_image ?i_Disk_image ?l_Disk_image ?c_Disk_image ?k_Disk_image ?a_Disk_lasting ?i_Disk_lasting ?l_Disk_lasting ?c_Disk_lasting ?k_Disk_lasting ?a__law_tape ?l__law_tape ?c__law_tape ?k__law_tape ?a__law_at ?l__law_at ?c__law_at ?k__law_at ?a__law_zeros ?l__law_zeros ?c__law_zeros ?k__law_zeros ?a__law_words ?l__law_words ?c__law_words ?k__law_words ?a__law_sector ?l__law_sector ?c__law_sector ?k__law_sector ?a__law_due ?l__law_due ?c__law_due ?k__law_due ?a__law_after_cut ?l__law_after_cut ?c__law_after_cut ?k__law_after_cut ?a__law_equal ?l__law_equal ?c__law_equal ?k__law_equal ?a__law_choices ?l__law_choices ?c__law_choices ?k__law_choices ?a__law_refused ?l__law_refused ?c__law_refused ?k__law_refused ?a__law_look ?l__law_look ?c__law_look ?k__law_look ?a__law_images ?l__law_images ?c__law_images ?k__law_images ?a_law ?l_law ?c_law ?k_law ?pg_Disk ?hd_Disk ?po_Disk ?sa_Disk ?mk_Disk ?kc_Disk ?n_abs ?n_bool ?n_dict ?n_enumerate ?n_int ?n_isinstance ?n_len ?n_list ?n_min ?n_range ?n_tuple ?kc_BLOCK_SECTORS ?kc_MAX_BLOCKS ?kc_MIN_BLOCKS ?kc_SECTOR_WORDS ?ex_BadImage ?kc_BadImage ?sb_BadImage ?ty_BadImage ?ex_LaminaError ?kc_LaminaError ?sb_LaminaError ?ty_LaminaError ?ex_NotValid ?kc_NotValid ?sb_NotValid ?ty_NotValid ?ex_PowerOff ?kc_PowerOff ?sb_PowerOff ?ty_PowerOff ?nf_Disk_blocks ?nf_Disk_left ?nf_Disk_newest ?nf_Disk_power ?nf_Disk_sectors ?nf_Disk_writes ?su_BadImage_LaminaError ?su_BadImage_NotValid ?su_LaminaError_BadImage ?su_LaminaError_LaminaError ?su_LaminaError_NotValid ?su_NotValid_BadImage ?su_NotValid_LaminaError ?su_PowerOff_BadImage ?su_PowerOff_LaminaError ?su_PowerOff_NotValid ?hx_BadImage ?hx_LaminaError ?hx_NotValid ?hx_PowerOff ?ne_LaminaError_NotValid ?ne_PowerOff_NotValid ?ne_BadImage_NotValid ?ne_LaminaError_BadImage ?ne_NotValid_BadImage ?ne_PowerOff_BadImage ?ga_LaminaError ?gg_LaminaError ?cl_LaminaError ?om_LaminaError ?ga_NotValid ?gg_NotValid ?cl_NotValid ?om_NotValid ?ga_PowerOff ?gg_PowerOff ?cl_PowerOff ?om_PowerOff ?ga_BadImage ?gg_BadImage ?cl_BadImage ?om_BadImage ?sp_cls ?tk_cls
    (case aC_Disk => k_is); (case aC_BadImage => k_is); (case aC_LaminaError => k_is); (case aC_NotValid => k_is); (case aC_PowerOff => k_is); (case a_is_between => k_is)
    (case l_is_between => k_is); (case c_is_between => k_is); (case k_is_between => k_is); (case a_is_word => k_is); (case l_is_word => k_is); (case c_is_word => k_is)
    (case k_is_word => k_is); (case a_are_words => k_is); (case l_are_words => k_is); (case c_are_words => k_is); (case k_are_words => k_is); (case a_Disk___init__ => k_is)
    (case i_Disk___init__ => k_is); (case l_Disk___init__ => k_is); (case c_Disk___init__ => k_is); (case k_Disk___init__ => k_is); (case a_Disk_read => k_is); (case i_Disk_read => k_is)
    (case l_Disk_read => k_is); (case c_Disk_read => k_is); (case k_Disk_read => k_is); (case a_Disk_operate => k_is); (case i_Disk_operate => k_is); (case l_Disk_operate => k_is)
    (case c_Disk_operate => k_is); (case k_Disk_operate => k_is); (case a_Disk_write => k_is); (case i_Disk_write => k_is); (case l_Disk_write => k_is); (case c_Disk_write => k_is)
    (case k_Disk_write => k_is); (case a_Disk_flush => k_is); (case i_Disk_flush => k_is); (case l_Disk_flush => k_is); (case c_Disk_flush => k_is); (case k_Disk_flush => k_is)
    (case a_Disk_waiting => k_is); (case i_Disk_waiting => k_is); (case l_Disk_waiting => k_is); (case c_Disk_waiting => k_is); (case k_Disk_waiting => k_is); (case a_Disk_cut => k_is)
    (case i_Disk_cut => k_is); (case l_Disk_cut => k_is); (case c_Disk_cut => k_is); (case k_Disk_cut => k_is); (case a_Disk_image => k_is); (case i_Disk_image => k_is)
    (case l_Disk_image => k_is); (case c_Disk_image => k_is); (case k_Disk_image => k_is); (case a_Disk_lasting => k_is); (case i_Disk_lasting => k_is); (case l_Disk_lasting => k_is)
    (case c_Disk_lasting => k_is); (case k_Disk_lasting => k_is); (case a__law_tape => k_is); (case l__law_tape => k_is); (case c__law_tape => k_is); (case k__law_tape => k_is)
    (case a__law_at => k_is); (case l__law_at => k_is); (case c__law_at => k_is); (case k__law_at => k_is); (case a__law_zeros => k_is); (case l__law_zeros => k_is)
    (case c__law_zeros => k_is); (case k__law_zeros => k_is); (case a__law_words => k_is); (case l__law_words => k_is); (case c__law_words => k_is); (case k__law_words => k_is)
    (case a__law_sector => k_is); (case l__law_sector => k_is); (case c__law_sector => k_is); (case k__law_sector => k_is); (case a__law_due => k_is); (case l__law_due => k_is)
    (case c__law_due => k_is); (case k__law_due => k_is); (case a__law_after_cut => k_is); (case l__law_after_cut => k_is); (case c__law_after_cut => k_is); (case k__law_after_cut => k_is)
    (case a__law_equal => k_is); (case l__law_equal => k_is); (case c__law_equal => k_is); (case k__law_equal => k_is); (case a__law_choices => k_is); (case l__law_choices => k_is)
    (case c__law_choices => k_is); (case k__law_choices => k_is); (case a__law_refused => k_is); (case l__law_refused => k_is); (case c__law_refused => k_is); (case k__law_refused => k_is)
    (case a__law_look => k_is); (case l__law_look => k_is); (case c__law_look => k_is); (case k__law_look => k_is); (case a__law_images => k_is); (case l__law_images => k_is)
    (case c__law_images => k_is); (case k__law_images => k_is); (case a_law => k_is); (case l_law => k_is); (case c_law => k_is); (case k_law => k_is)
    (case pg_Disk => k_is); (case hd_Disk => k_is); (case po_Disk => k_is); (case sa_Disk => k_is); (case mk_Disk => k_is); (case kc_Disk => k_is)
    (case n_abs => k_is); (case n_bool => k_is); (case n_dict => k_is); (case n_enumerate => k_is); (case n_int => k_is); (case n_isinstance => k_is)
    (case n_len => k_is); (case n_list => k_is); (case n_min => k_is); (case n_range => k_is); (case n_tuple => k_is); (case kc_BLOCK_SECTORS => k_is)
    (case kc_MAX_BLOCKS => k_is); (case kc_MIN_BLOCKS => k_is); (case kc_SECTOR_WORDS => k_is); (case ex_BadImage => k_exc); (case kc_BadImage => k_is); (case sb_BadImage => k_is)
    (case ty_BadImage => k_is); (case ex_LaminaError => k_exc); (case kc_LaminaError => k_is); (case sb_LaminaError => k_is); (case ty_LaminaError => k_is); (case ex_NotValid => k_exc)
    (case kc_NotValid => k_is); (case sb_NotValid => k_is); (case ty_NotValid => k_is); (case ex_PowerOff => k_exc); (case kc_PowerOff => k_is); (case sb_PowerOff => k_is)
    (case ty_PowerOff => k_is); (case nf_Disk_blocks => k_is); (case nf_Disk_left => k_is); (case nf_Disk_newest => k_is); (case nf_Disk_power => k_is); (case nf_Disk_sectors => k_is)
    (case nf_Disk_writes => k_is); (case su_BadImage_LaminaError => k_is); (case su_BadImage_NotValid => k_is); (case su_LaminaError_BadImage => k_is); (case su_LaminaError_LaminaError => k_is); (case su_LaminaError_NotValid => k_is)
    (case su_NotValid_BadImage => k_is); (case su_NotValid_LaminaError => k_is); (case su_PowerOff_BadImage => k_is); (case su_PowerOff_LaminaError => k_is); (case su_PowerOff_NotValid => k_is); (case hx_BadImage => k_is)
    (case hx_LaminaError => k_is); (case hx_NotValid => k_is); (case hx_PowerOff => k_is); (case ne_LaminaError_NotValid => decide); (case ne_PowerOff_NotValid => decide); (case ne_BadImage_NotValid => decide)
    (case ne_LaminaError_BadImage => decide); (case ne_NotValid_BadImage => decide); (case ne_PowerOff_BadImage => decide); (case ga_LaminaError => k_is); (case gg_LaminaError => k_is); (case cl_LaminaError => k_is)
    (case om_LaminaError => k_is); (case ga_NotValid => k_is); (case gg_NotValid => k_is); (case cl_NotValid => k_is); (case om_NotValid => k_is); (case ga_PowerOff => k_is)
    (case gg_PowerOff => k_is); (case cl_PowerOff => k_is); (case om_PowerOff => k_is); (case ga_BadImage => k_is); (case gg_BadImage => k_is); (case cl_BadImage => k_is)
    (case om_BadImage => k_is); (case sp_cls => k_is); (case tk_cls => k_is)
#print axioms PySem.Challenge.cw_laminae_k04_disk_reads_and_cuts_holds
