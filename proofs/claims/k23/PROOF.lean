import PyProof.Rows.All
import Wide.All
import OpenK.AllK
import Wide.FinOn
import HandS.ForMost
import HandS.ForExc
import HandS.TupLe
import HandS.IsInst
import HandS.Small
import HandS.Wide
import HandS.ExcIs
import HandS.DictComp
import HandS.Rev
import HandS.Codes
import HandS.HotCalls
import HandS.SortInts
import KE.Datum
import PySem.Challenge.RW_laminae_k23_store
set_option Elab.async false
set_option linter.all false
set_option maxRecDepth 100000
set_option maxHeartbeats 4000000
namespace U
open PySem PySem.Spec PyProof.Rows L2
section weaken
variable {X : Cx}
theorem orR {f : Value → Value → Sem Value} {r r' : R2} (h : OpR X f r) (g : OpR X f r') : OpR X f (fun x y H Q => r x y H Q ∨ r' x y H Q) :=
  fun pins s σ H x y v u Q I rx ry q => q.elim (h pins s σ H x y v u Q I rx ry) (g pins s σ H x y v u Q I rx ry)
theorem wR {f : Value → Value → Sem Value} {r r' : R2} (h : OpR X f r) (k : ∀ x y H Q, r' x y H Q → r x y H Q) : OpR X f r' :=
  fun pins s σ H x y v u Q I rx ry q => h pins s σ H x y v u Q I rx ry (k _ _ _ _ q)
theorem wC {f : Value} {r r' : List V → Hp → VK → Prop} (h : CallR X f r) (k : ∀ xs H Q, r' xs H Q → r xs H Q) : CallR X f r' :=
  fun pins s σ H xs us Q I rx q => h pins s σ H xs us Q I rx (k _ _ _ q)
theorem orC {f : Value} {r r' : List V → Hp → VK → Prop} (h : CallR X f r) (g : CallR X f r') : CallR X f (fun xs H Q => r xs H Q ∨ r' xs H Q) :=
  fun pins s σ H xs us Q I rx q => q.elim (h pins s σ H xs us Q I rx) (g pins s σ H xs us Q I rx)
end weaken
def tCut (t u : TS) : TS := C8.tCut t u
theorem pss_cut {X : Cx} {st : Stmt} {rest : List Stmt} {t u : TS} (h1 : PS X st t) (h2 : PSs X rest u) : PSs X (st :: rest) (tCut t u) := C8.pss_cut h1 h2
section ops
variable {X : Cx}
/-- text times number -/
theorem op_strmul : OpR X (binaryOp .Mult) (fun x y H Q => ∃ (z : Str) (n : Int), x = .str z ∧ y = .int n ∧ MulOk z n ∧ Q (.str (Txt.mul z n)) H) := by
  intro pins s σ H x y v u Q I rx ry h
  obtain ⟨z, n, rfl, rfl, ok, q⟩ := h
  obtain ⟨t, rfl⟩ := rx
  obtain ⟨t', rfl⟩ := ry
  exact SB.mul ok fun t1 k => ⟨.str (Txt.mul z n), H, I.tok _, ⟨_, rfl⟩, q⟩
def uAdd (K : PySem.W.Frag) : R2 := fun x y H Q => match x, y with
  | .int i, .int j => Q (.int (i + j)) H
  | .str i, .str j => i.length + j.length ≤ sizeLine ∧ Q (.str (i ++ j)) H
  | .ref a, .ref b => rCat (.ref a) (.ref b) H Q ∨ rCatT K (.ref a) (.ref b) H Q
  | _, _ => False
theorem o_add : OpR X (binaryOp .Add) (uAdd X.K) := by
  refine wR (orR op_add (orR op_add_str (orR op_cat op_catT))) fun x y H Q q => ?_
  unfold uAdd at q
  split at q
  · exact .inl ⟨_, _, rfl, rfl, q⟩
  · exact .inr (.inl ⟨_, _, rfl, rfl, q⟩)
  · exact .inr (.inr q)
  · exact q.elim
def uSub : R2 := fun x y H Q => match x, y with
  | .int i, .int j => Q (.int (i - j)) H
  | _, _ => False
theorem o_sub : OpR X (binaryOp .Sub) uSub := by
  refine wR op_sub fun x y H Q q => ?_
  unfold uSub at q
  split at q
  · exact ⟨_, _, rfl, rfl, q⟩
  · exact q.elim
def uMul : R2 := fun x y H Q => match x, y with
  | .int i, .int j => (CMul i j ∨ CMulW i j) ∧ Q (.int (i * j)) H
  | .str z, .int n => MulOk z n ∧ Q (.str (Txt.mul z n)) H
  | .ref a, .int n => rRep (.ref a) (.int n) H Q
  | _, _ => False
theorem o_mul : OpR X (binaryOp .Mult) uMul := by
  refine wR (orR op_mul (orR op_mulW (orR op_strmul op_rep))) fun x y H Q q => ?_
  unfold uMul at q
  split at q
  · obtain ⟨c | c, q⟩ := q
    · exact .inl ⟨_, _, rfl, rfl, c, q⟩
    · exact .inr (.inl ⟨_, _, rfl, rfl, c, q⟩)
  · exact .inr (.inr (.inl ⟨_, _, rfl, rfl, q⟩))
  · exact .inr (.inr (.inr q))
  · exact q.elim
def uDiv : R2 := fun x y H Q => match x, y with
  | .int i, .int j => (0 < j ∧ j < 2 ^ 200) ∧ Q (.int (i / j)) H
  | _, _ => False
theorem o_div : OpR X (binaryOp .FloorDiv) uDiv := by
  refine wR op_fdivW fun x y H Q q => ?_
  unfold uDiv at q
  split at q
  · obtain ⟨⟨c1, c2⟩, q⟩ := q
    exact ⟨_, _, rfl, rfl, wide_div (b := 200) c1 (by omega) (by decide) (by decide), q⟩
  · exact q.elim
def uMod : R2 := fun x y H Q => match x, y with
  | .int i, .int j => 0 < j ∧ Q (.int (i % j)) H
  | _, _ => False
theorem o_mod : OpR X (binaryOp .Mod) uMod := by
  refine wR op_mod fun x y H Q q => ?_
  unfold uMod at q
  split at q
  · exact ⟨_, _, rfl, rfl, q⟩
  · exact q.elim
def uPow : R2 := fun x y H Q => match x, y with
  | .int i, .int j => CPow i j ∧ Q (.int (i ^ j.toNat)) H
  | _, _ => False
theorem o_pow : OpR X (binaryOp .Pow) uPow := by
  refine wR op_pow fun x y H Q q => ?_
  unfold uPow at q
  split at q
  · exact ⟨_, _, rfl, rfl, q⟩
  · exact q.elim
def uNeg : V → Hp → VK → Prop := fun x H Q => match x with
  | .int i => Q (.int (-i)) H
  | _ => False
theorem o_neg : UnR X (unaryOp .USub) uNeg := fun pins s σ H x v Q I rx q => by
  unfold uNeg at q
  split at q
  · exact un_neg pins s σ H _ v Q I rx ⟨_, rfl, q⟩
  · exact q.elim
/-- == of data without dicts -/
def rEqP (K : PySem.W.Frag) : R2 := fun x y H Q => ∃ d e, Dp K H x d ∧ Dp K H y e ∧ (d.plain = true ∧ d.depth ≤ 60) ∧ e.plain = true ∧ Q (.bl (PyData.eqv d e)) H
def rNeP (K : PySem.W.Frag) : R2 := fun x y H Q => ∃ d e, Dp K H x d ∧ Dp K H y e ∧ (d.plain = true ∧ d.depth ≤ 60) ∧ e.plain = true ∧ Q (.bl (!PyData.eqv d e)) H
theorem op_eqP (hu : X.A.units + 64 < cLine) : OpR X (compareOp .Eq) (rEqP X.K) := by
  intro pins s σ H x y v u Q I rx ry h
  obtain ⟨d, e, hd, he, ⟨p1, dp⟩, p2, q⟩ := h
  obtain ⟨as, r1⟩ := Dp.reads I d x v hd rx
  obtain ⟨bs, r2⟩ := Dp.reads I e y u he ry
  exact PySem.SeqAt.eq_plain r1 r2 p1 p2 (by have := Nat.min_le_left d.depth e.depth; omega) ⟨.bl _, H, I, rfl, q⟩
theorem op_neP (hu : X.A.units + 64 < cLine) : OpR X (compareOp .NotEq) (rNeP X.K) := by
  intro pins s σ H x y v u Q I rx ry h
  obtain ⟨d, e, hd, he, ⟨p1, dp⟩, p2, q⟩ := h
  obtain ⟨as, r1⟩ := Dp.reads I d x v hd rx
  obtain ⟨bs, r2⟩ := Dp.reads I e y u he ry
  exact PySem.SeqAt.ne_plain r1 r2 p1 p2 (by have := Nat.min_le_left d.depth e.depth; omega) ⟨.bl _, H, I, rfl, q⟩
theorem d_int (i j : Int) : decide (V.int i = V.int j) = decide (i = j) := decide_eq_decide.mpr ⟨fun h => V.int.inj h, fun h => h ▸ rfl⟩
theorem d_str (i j : Str) : decide (V.str i = V.str j) = decide (i = j) := decide_eq_decide.mpr ⟨fun h => V.str.inj h, fun h => h ▸ rfl⟩
theorem d_bl (i j : Bool) : decide (V.bl i = V.bl j) = decide (i = j) := decide_eq_decide.mpr ⟨fun h => V.bl.inj h, fun h => h ▸ rfl⟩
/-- the same value, of two scalars -/
def sameS : V → V → Bool
  | .non, .non => true
  | .int i, .int j => decide (i = j)
  | .str i, .str j => decide (i = j)
  | .bl i, .bl j => decide (i = j)
  | .byt i, .byt j => decide (i = j)
  | _, _ => false
theorem sameS_eq {x y : V} (h : scal x y = true) : decide (x = y) = sameS x y := by
  cases x <;> cases y <;> first
    | (cases h; done)
    | exact d_int _ _
    | exact d_str _ _
    | exact d_bl _ _
    | rfl
    | (exact decide_eq_decide.mpr ⟨fun h => V.byt.inj h, fun h => h ▸ rfl⟩)
    | (exact decide_eq_false (fun q => nomatch q))
def uEq (K : PySem.W.Frag) : R2 := fun x y H Q => match x, y with
  | .int i, .int j => Q (.bl (decide (i = j))) H
  | .str i, .str j => Q (.bl (decide (i = j))) H
  | .bl i, .bl j => Q (.bl (decide (i = j))) H
  | x, y => (scal x y = true ∧ Q (.bl (sameS x y)) H) ∨ rEqP K x y H Q
theorem o_eq (hu : X.A.units + 64 < cLine) : OpR X (compareOp .Eq) (uEq X.K) := by
  refine wR (orR op_eq (op_eqP hu)) fun x y H Q q => ?_
  unfold uEq at q
  split at q
  · exact .inl ⟨rfl, (d_int _ _).symm ▸ q⟩
  · exact .inl ⟨rfl, (d_str _ _).symm ▸ q⟩
  · exact .inl ⟨rfl, (d_bl _ _).symm ▸ q⟩
  · rcases q with ⟨h, q⟩ | q
    · exact .inl ⟨h, (sameS_eq h).symm ▸ q⟩
    · exact .inr q
def uNe (K : PySem.W.Frag) : R2 := fun x y H Q => match x, y with
  | .int i, .int j => Q (.bl (!decide (i = j))) H
  | .str i, .str j => Q (.bl (!decide (i = j))) H
  | .bl i, .bl j => Q (.bl (!decide (i = j))) H
  | x, y => (scal x y = true ∧ Q (.bl (!sameS x y)) H) ∨ rNeP K x y H Q
theorem o_ne (hu : X.A.units + 64 < cLine) : OpR X (compareOp .NotEq) (uNe X.K) := by
  refine wR (orR op_ne (op_neP hu)) fun x y H Q q => ?_
  unfold uNe at q
  split at q
  · exact .inl ⟨rfl, (d_int _ _).symm ▸ q⟩
  · exact .inl ⟨rfl, (d_str _ _).symm ▸ q⟩
  · exact .inl ⟨rfl, (d_bl _ _).symm ▸ q⟩
  · rcases q with ⟨h, q⟩ | q
    · exact .inl ⟨h, (sameS_eq h).symm ▸ q⟩
    · exact .inr q
/-- tuples of ints in their order -/
theorem lexAt_eq (ns ms : List Int) (op : Int → Int → Bool) (z : Bool) (f : List Int → List Int → Bool)
    (h0 : ∀ i, i = ns.length ∨ i = ms.length → i ≤ ns.length → i ≤ ms.length → f (ns.drop i) (ms.drop i) = z)
    (h1 : ∀ x xs y ys, f (x :: xs) (y :: ys) = if x = y then f xs ys else op x y) :
    ∀ k i, i + k = min ns.length ms.length → Ob.lexAt (fun j => decide (ns.getD j 0 = ms.getD j 0)) (fun j => op (ns.getD j 0) (ms.getD j 0)) z i k = f (ns.drop i) (ms.drop i)
  | 0, i, h => by
    rw [Ob.lexAt_zero, h0 i (by omega) (by omega) (by omega)]
  | k + 1, i, h => by
    have a : i < ns.length := by omega
    have b : i < ms.length := by omega
    rw [Ob.lexAt_succ, List.drop_eq_getElem_cons a, List.drop_eq_getElem_cons b, h1, lexAt_eq ns ms op z f h0 h1 k (i + 1) (by omega)]
    simp only [List.getD_eq_getElem?_getD, List.getElem?_eq_getElem a, List.getElem?_eq_getElem b, Option.getD_some, decide_eq_true_eq]
def lexLe (a b : List Int) : Bool := !HT.lexLt b a
theorem lexLe_cons (x y : Int) (xs ys : List Int) : lexLe (x :: xs) (y :: ys) = if x = y then lexLe xs ys else decide (x ≤ y) := by
  unfold lexLe
  rw [HT.lexLt_cons]
  by_cases h : x = y
  · rw [if_pos h, if_pos h.symm]
  · rw [if_neg h, if_neg (fun e => h e.symm), ← decide_not]
    exact decide_eq_decide.mpr (by omega)
theorem lexLe_end (ns ms : List Int) (i : Nat) (h : i = ns.length ∨ i = ms.length) (h1 : i ≤ ns.length) (h2 : i ≤ ms.length) : lexLe (ns.drop i) (ms.drop i) = decide (ns.length ≤ ms.length) := by
  unfold lexLe
  by_cases a : i = ns.length
  · have e : ns.drop i = [] := List.drop_eq_nil_of_le (by omega)
    rw [e, decide_eq_true (by omega)]
    cases ms.drop i <;> rfl
  · have e : ms.drop i = [] := List.drop_eq_nil_of_le (by omega)
    rw [e, decide_eq_false (by omega)]
    cases e2 : ns.drop i with
    | nil => exact absurd (List.drop_eq_nil_iff.mp e2) (by omega)
    | cons x r => rfl
theorem lexAt_le (ns ms : List Int) : Ob.lexAt (fun j => decide (ns.getD j 0 = ms.getD j 0)) (fun j => decide (ns.getD j 0 ≤ ms.getD j 0)) (decide (ns.length ≤ ms.length)) 0 (min ns.length ms.length) = lexLe ns ms :=
  lexAt_eq ns ms (fun x y => decide (x ≤ y)) _ lexLe (fun i h a b => lexLe_end ns ms i h a b) (fun x xs y ys => lexLe_cons x y xs ys) _ 0 (by omega)
def lexGe (a b : List Int) : Bool := !HT.lexLt a b
theorem lexGe_le (a b : List Int) : lexGe a b = lexLe b a := rfl
theorem lexAt_ge (ns ms : List Int) : Ob.lexAt (fun j => decide (ns.getD j 0 = ms.getD j 0)) (fun j => decide (ns.getD j 0 ≥ ms.getD j 0)) (decide (ns.length ≥ ms.length)) 0 (min ns.length ms.length) = lexGe ns ms := by
  refine lexAt_eq ns ms (fun x y => decide (x ≥ y)) _ lexGe (fun i h a b => ?_) (fun x xs y ys => ?_) _ 0 (by omega)
  · rw [lexGe_le, lexLe_end ms ns i (by omega) b a]
  · rw [lexGe_le, lexLe_cons, lexGe_le]
    by_cases h : x = y
    · rw [if_pos h, if_pos h.symm]
    · rw [if_neg h, if_neg (fun e => h e.symm)]
def rGeT (K : PySem.W.Frag) : R2 := fun x y H Q => ∃ (a b : Addr) (ns ms : List Int), x = .ref a ∧ y = .ref b ∧ SqT K H a (ns.map V.int) ∧ SqT K H b (ms.map V.int) ∧ Q (.bl (lexGe ns ms)) H
theorem ints_at {us : List Value} {ns : List Int} (h : IntsAre us ns) (j : Nat) (h1 : j < us.toArray.size) : ∃ t, us.toArray[j] = .int (ns.getD j 0) t := PyProof.Rows.IntsAre.int_at h _ _ (by simp at h1; simp [h1])
theorem op_geT (hu : X.A.units < cLine) : OpR X (compareOp .GtE) (rGeT X.K) := by
  intro pins s σ H x y v u Q I rx ry h
  obtain ⟨a, b, ns, ms, rfl, rfl, ha, hb, q⟩ := h
  cases rx; cases ry
  obtain ⟨us, r1, p1, _⟩ := I.tuple ha
  obtain ⟨ws, r2, p2, _⟩ := I.tuple hb
  have j1 : IntsAre us ns := Vals.ints r1
  have j2 : IntsAre ws ms := Vals.ints r2
  have n1 : us.toArray.size = ns.length := List.size_toArray.trans j1.length
  have n2 : ws.toArray.size = ms.length := List.size_toArray.trans j2.length
  have R := Ob.RcOp.tuples_ge (A := X.A) (s := s) (e := fun j => decide (ns.getD j 0 = ms.getD j 0)) (r := fun j => decide (ns.getD j 0 ≥ ms.getD j 0)) p1 p2 hu
    (fun j h1 h2 => by
      obtain ⟨t, e1⟩ := ints_at j1 j h1
      obtain ⟨t', e2⟩ := ints_at j2 j h2
      rw [e1, e2, ← Bool.beq_eq_decide_eq]
      exact SeqAt.EqAt.int_int _ _ _ _)
    (fun j h1 h2 _ => by
      obtain ⟨t, e1⟩ := ints_at j1 j h1
      obtain ⟨t', e2⟩ := ints_at j2 j h2
      rw [e1, e2]
      exact Ob.RcOp.ge_int _ _ _ _)
  rw [n1, n2, lexAt_ge] at R
  exact R X.prog X.w X.xe (EP X pins σ Q) ⟨.bl _, H, I, rfl, q⟩
def uLt (K : PySem.W.Frag) : R2 := fun x y H Q => match x, y with
  | .int i, .int j => Q (.bl (decide (i < j))) H
  | .ref a, .ref b => ∃ ns ms : List Int, SqT K H a (ns.map V.int) ∧ SqT K H b (ms.map V.int) ∧ Q (.bl (HT.lexLt ns ms)) H
  | _, _ => False
theorem o_lt (hu : X.A.units < cLine) : OpR X (compareOp .Lt) (uLt X.K) := by
  refine wR (orR op_lt (op_ltT hu)) fun x y H Q q => ?_
  unfold uLt at q
  split at q
  · exact .inl ⟨_, _, rfl, rfl, q⟩
  · obtain ⟨ns, ms, a, b, q⟩ := q
    exact .inr ⟨_, _, ns, ms, rfl, rfl, a, b, q⟩
  · exact q.elim
def uLe (K : PySem.W.Frag) : R2 := fun x y H Q => match x, y with
  | .int i, .int j => Q (.bl (decide (i ≤ j))) H
  | .ref a, .ref b => ∃ ns ms : List Int, SqT K H a (ns.map V.int) ∧ SqT K H b (ms.map V.int) ∧ Q (.bl (lexLe ns ms)) H
  | _, _ => False
theorem o_le (hu : X.A.units < cLine) : OpR X (compareOp .LtE) (uLe X.K) := by
  refine wR (orR op_le (op_leT hu)) fun x y H Q q => ?_
  unfold uLe at q
  split at q
  · exact .inl ⟨_, _, rfl, rfl, q⟩
  · obtain ⟨ns, ms, a, b, q⟩ := q
    exact .inr ⟨_, _, ns, ms, rfl, rfl, a, b, by rw [lexAt_le]; exact q⟩
  · exact q.elim
def uGe (K : PySem.W.Frag) : R2 := fun x y H Q => match x, y with
  | .int i, .int j => Q (.bl (decide (j ≤ i))) H
  | .ref a, .ref b => ∃ ns ms : List Int, SqT K H a (ns.map V.int) ∧ SqT K H b (ms.map V.int) ∧ Q (.bl (lexGe ns ms)) H
  | _, _ => False
theorem o_ge (hu : X.A.units < cLine) : OpR X (compareOp .GtE) (uGe X.K) := by
  refine wR (orR op_ge (op_geT hu)) fun x y H Q q => ?_
  unfold uGe at q
  split at q
  · exact .inl ⟨_, _, rfl, rfl, q⟩
  · obtain ⟨ns, ms, a, b, q⟩ := q
    exact .inr ⟨_, _, ns, ms, rfl, rfl, a, b, q⟩
  · exact q.elim
def uGt : R2 := fun x y H Q => match x, y with
  | .int i, .int j => Q (.bl (decide (j < i))) H
  | _, _ => False
theorem o_gt : OpR X (compareOp .Gt) uGt := by
  refine wR op_gt fun x y H Q q => ?_
  unfold uGt at q
  split at q
  · exact ⟨_, _, rfl, rfl, q⟩
  · exact q.elim
def isNon : V → Bool
  | .non => true
  | _ => false
theorem isNon_eq (x : V) : decide (x = .non) = isNon x := by
  cases x <;> first | rfl | exact decide_eq_false (fun q => nomatch q)
def uIs : R2 := fun x y H Q => match y with
  | .non => Q (.bl (isNon x)) H
  | .bl b => ∃ a, x = .bl a ∧ Q (.bl (decide (a = b))) H
  | _ => False
theorem o_is : OpR X (compareOp .Is) uIs := by
  refine wR (orR op_isN op_is_bl) fun x y H Q q => ?_
  unfold uIs at q
  split at q
  · exact .inl ⟨rfl, (isNon_eq x).symm ▸ q⟩
  · obtain ⟨a, e, q⟩ := q
    exact .inr ⟨a, _, e, rfl, q⟩
  · exact q.elim
def uIsnt : R2 := fun x y H Q => match y with
  | .non => Q (.bl (!isNon x)) H
  | .bl b => ∃ a, x = .bl a ∧ Q (.bl (!decide (a = b))) H
  | _ => False
theorem o_isnt : OpR X (compareOp .IsNot) uIsnt := by
  refine wR (orR op_notN op_isnot_bl) fun x y H Q q => ?_
  unfold uIsnt at q
  split at q
  · exact .inl ⟨rfl, (isNon_eq x).symm ▸ q⟩
  · obtain ⟨a, e, q⟩ := q
    exact .inr ⟨a, _, e, rfl, q⟩
  · exact q.elim
theorem op_inD (hu : X.A.units + 1 < cLine) : OpR X (compareOp .In) (fun x y H Q => ∃ a o, y = .ref a ∧ DGet H a x o ∧ Q (.bl o.isSome) H) := by
  intro pins s σ H x y v u Q I rx ry h
  obtain ⟨a, o, rfl, g, q⟩ := h
  cases ry
  exact d_in hu I g rx fun s' I' => ⟨.bl o.isSome, H, I', rfl, q⟩
/-- in a list, a tuple of scalars; a dict -/
def uIn (K : PySem.W.Frag) : R2 := fun x y H Q => match y with
  | .ref a => (∃ xs, (SqL K H a xs ∨ SqT K H a xs) ∧ flatV x = true ∧ xs.all flatV = true ∧ Q (.bl (inV x xs)) H) ∨ ∃ o, DGet H a x o ∧ Q (.bl o.isSome) H
  | _ => False
theorem o_in (hu : X.A.units + 1 < cLine) : OpR X (compareOp .In) (uIn X.K) := by
  refine wR (orR op_in_seq (op_inD hu)) fun x y H Q q => ?_
  unfold uIn at q
  split at q
  · rcases q with ⟨xs, a, b, c, q⟩ | ⟨o, g, q⟩
    · exact .inl ⟨_, xs, rfl, a, b, c, q⟩
    · exact .inr ⟨_, o, rfl, g, q⟩
  · exact q.elim
def uNin (K : PySem.W.Frag) : R2 := fun x y H Q => match y with
  | .ref a => (∃ xs, (SqL K H a xs ∨ SqT K H a xs) ∧ flatV x = true ∧ xs.all flatV = true ∧ Q (.bl (!inV x xs)) H) ∨ ∃ o, DGet H a x o ∧ Q (.bl (!o.isSome)) H
  | _ => False
end ops
section subs
variable {X : Cx}
/-- a[b] of lists, tuples, texts -/
def uIx (K : PySem.W.Frag) : R2 := fun x y H Q => match x, y with
  | .ref p, .int i => ∃ xs v, (SqL K H p xs ∨ SqT K H p xs) ∧ atI xs i = some v ∧ Q v H
  | .str z, .int i => z.length ≤ sizeLine ∧ ∃ c, atI z.cps.toList i = some c ∧ Q (.str ⟨#[c]⟩) H
  | _, _ => False
theorem ix_u : IxR X (uIx X.K) := by
  intro value slice pins s σ H x y v u Q I rx ry h hs
  refine ix_seq value slice pins s σ H x y v u Q I rx ry ?_ hs
  unfold uIx at h
  split at h
  · obtain ⟨xs, v, e | e, g, q⟩ := h
    · exact .inl ⟨_, xs, _, v, rfl, rfl, e, g, q⟩
    · exact .inr (.inl ⟨_, xs, _, v, rfl, rfl, e, g, q⟩)
  · obtain ⟨z, c, e, q⟩ := h
    exact .inr (.inr ⟨_, _, c, rfl, rfl, z, e, q⟩)
  · exact h.elim
theorem e_ix {a b : Expr} {ta tb : TE} {pos : Pos} (ha : PE X a ta) (hb : PE X b tb) (hs : PlainIx b := by exact fun _ _ => rfl) : PE X (.Subscript a b pos) (tOp (uIx X.K) ta tb) := pe_ix ix_u ha hb hs
/-- a[lo:hi] -/
def uSl (K : PySem.W.Frag) : V → Option Int → Option Int → Hp → VK → Prop := fun x lo hi H Q => rSlL K x lo hi H Q ∨ rSlT K x lo hi H Q ∨ rSlS x lo hi H Q
theorem sl_u : SlR X (uSl X.K) := SlR.or sl_list (SlR.or sl_tup sl_str)
theorem e_sl {e : Expr} {lo hi : Option Expr} {te : TE} {tl th : TO} {p2 pos : Pos} (he : PE X e te) (hl : PO X lo tl) (hh : PO X hi th) : PE X (.Subscript e (.Slice lo hi none p2) pos) (tSl (uSl X.K) te tl th) := pe_slice sl_u he hl hh
/-- d[k] -/
theorem e_dg {a b : Expr} {ta tb : TE} {pos : Pos} (hu : X.A.units + 1 < cLine) (ha : PE X a ta) (hb : PE X b tb) (hs : NoSl b := by exact fun _ _ => rfl) : PE X (.Subscript a b pos) (tDGet ta tb) := pe_dget hu ha hb hs
/-- a[i] by values, for a[i] += e -/
def uGet (K : PySem.W.Frag) : V → V → Hp → VK → Prop := fun x y H Q => match x, y with
  | .ref p, .int i => (0 ≤ i ∧ ∃ xs v, SqL K H p xs ∧ xs[i.toNat]? = some v ∧ Q v H) ∨ ∃ v, DGet H p (.int i) (some v) ∧ Q v H
  | .ref p, y => ∃ v, DGet H p y (some v) ∧ Q v H
  | _, _ => False
theorem get_u (hu : X.A.units + 1 < cLine) : PGet X (uGet X.K) := by
  intro pins s σ H o i ov iv Q I ro ri h
  unfold uGet at h
  split at h
  · cases ro
    rcases h with ⟨h0, xs, v, hq, e, q⟩ | ⟨v, g, q⟩
    · obtain ⟨t, rfl⟩ := ri
      obtain ⟨us, r, pl, hz⟩ := I.list hq
      obtain ⟨w, ew, rw'⟩ := r.get e
      have hn := line63
      have hl := r.length
      have hb := (List.getElem?_eq_some_iff.mp e).1
      exact wpAny_getItem_list pl.isList h0 (by omega) (by rw [List.getElem?_toArray]; exact ew) ⟨v, H, I, rw', q⟩
    · exact d_getItem hu I g ri fun w' s' I' rv => ⟨v, H, I', rv, q⟩
  · cases ro
    obtain ⟨v, g, q⟩ := h
    exact d_getItem hu I g ri fun w' s' I' rv => ⟨v, H, I', rv, q⟩
  · exact h.elim
/-- a[i] = v -/
def uSet : TSet := fun o i v H Q => match o, i with
  | .ref p, .int k => (∃ xs j, H p = some (.lst xs) ∧ ixN xs.length k = some j ∧ Q (upd H p (.lst (xs.set j v)))) ∨ ∃ H', DPut H p (.int k) v H' ∧ Q H'
  | .ref p, i => ∃ H', DPut H p i v H' ∧ Q H'
  | _, _ => False
theorem set_u (hu : X.A.units + 1 < cLine) : PSet X uSet := by
  intro pins s σ H o i v ov iv u Q I ro ri rv h
  unfold uSet at h
  split at h
  · rcases h with ⟨xs, j, e, g, q⟩ | ⟨H', g, q⟩
    · exact set_list pins s σ H _ _ v ov iv u Q I ro ri rv ⟨_, xs, _, j, rfl, rfl, e, g, q⟩
    · exact set_dict hu pins s σ H _ _ v ov iv u Q I ro ri rv ⟨_, H', rfl, g, q⟩
  · obtain ⟨H', g, q⟩ := h
    exact set_dict hu pins s σ H _ _ v ov iv u Q I ro ri rv ⟨_, H', rfl, g, q⟩
  · exact h.elim
end subs
section calls
variable {X : Cx}
/-- len -/
def uLen (K : PySem.W.Frag) : List V → Hp → VK → Prop := fun xs H Q => match xs with
  | [.ref p] => (∃ ys, (SqL K H p ys ∨ SqT K H p ys) ∧ Q (.int ys.length) H) ∨ ∃ kvs, H p = some (.dK kvs) ∧ Q (.int kvs.length) H
  | [.str z] => z.length ≤ sizeLine ∧ Q (.int z.length) H
  | _ => False
theorem c_len : CallR X (.builtin "len") (uLen X.K) := by
  refine wC (orC call_len_seq (orC call_len_str call_lenD)) fun xs H Q q => ?_
  unfold uLen at q
  split at q
  · rcases q with ⟨ys, a, q⟩ | ⟨kvs, a, q⟩
    · exact .inl ⟨_, ys, rfl, a, q⟩
    · exact .inr (.inr ⟨_, kvs, rfl, a, q⟩)
  · exact .inr (.inl ⟨_, rfl, q⟩)
  · exact q.elim
/-- list(x), tuple(x) -/
def uList (K : PySem.W.Frag) : List V → Hp → VK → Prop := fun xs H Q => match xs with
  | [.ref p] => ∃ ys, (SqL K H p ys ∨ SqT K H p ys) ∧ ∀ l, H l = none → Q (.ref l) (upd H l (.lst ys))
  | _ => False
theorem c_list : CallR X (.type "list") (uList X.K) := by
  refine wC call_list_of fun xs H Q q => ?_
  unfold uList at q
  split at q
  · obtain ⟨ys, a, q⟩ := q
    exact ⟨_, ys, rfl, a, q⟩
  · exact q.elim
def uTuple (K : PySem.W.Frag) : List V → Hp → VK → Prop := fun xs H Q => match xs with
  | [.ref p] => ∃ ys, (SqL K H p ys ∧ ∀ l, H l = none → Q (.ref l) (upd H l (.tup ys))) ∨ (SqT K H p ys ∧ Q (.ref p) H)
  | _ => False
theorem c_tuple : CallR X (.type "tuple") (uTuple X.K) := by
  refine wC call_tuple_of fun xs H Q q => ?_
  unfold uTuple at q
  split at q
  · obtain ⟨ys, q⟩ := q
    exact ⟨_, ys, rfl, q⟩
  · exact q.elim
def uAbs : List V → Hp → VK → Prop := fun xs H Q => match xs with
  | [.int i] => Q (.int (if i < 0 then -i else i)) H
  | _ => False
theorem c_abs : CallR X (.builtin "abs") uAbs := by
  refine wC call_abs fun xs H Q q => ?_
  unfold uAbs at q
  split at q
  · exact ⟨_, rfl, q⟩
  · exact q.elim
def uMax (K : PySem.W.Frag) : List V → Hp → VK → Prop := fun xs H Q => match xs with
  | [.int i, .int j] => Q (.int (if j > i then j else i)) H
  | [.ref a] => ∃ ns : List Int, SqL K H a (ns.map V.int) ∧ 0 < ns.length ∧ ∀ m, m ∈ ns → (∀ y, y ∈ ns → y ≤ m) → Q (.int m) H
  | _ => False
theorem c_max (hc : X.calm = true) : CallR X (.builtin "max") (uMax X.K) := by
  refine wC (orC (call_max2 hc) (cr_max hc)) fun xs H Q q => ?_
  unfold uMax at q
  split at q
  · exact .inl ⟨_, _, rfl, q⟩
  · obtain ⟨ns, a, b, c⟩ := q
    exact .inr ⟨_, ns, rfl, a, b, c⟩
  · exact q.elim
def uMin (K : PySem.W.Frag) : List V → Hp → VK → Prop := fun xs H Q => match xs with
  | [.int i, .int j] => Q (.int (if j < i then j else i)) H
  | [.ref a] => ∃ ns : List Int, SqL K H a (ns.map V.int) ∧ 0 < ns.length ∧ ∀ m, m ∈ ns → (∀ y, y ∈ ns → m ≤ y) → Q (.int m) H
  | _ => False
theorem c_min (hc : X.calm = true) : CallR X (.builtin "min") (uMin X.K) := by
  refine wC (orC (call_min2 hc) (cr_min hc)) fun xs H Q q => ?_
  unfold uMin at q
  split at q
  · exact .inl ⟨_, _, rfl, q⟩
  · obtain ⟨ns, a, b, c⟩ := q
    exact .inr ⟨_, ns, rfl, a, b, c⟩
  · exact q.elim
def uInt : List V → Hp → VK → Prop := fun xs H Q => match xs with
  | [.int i] => Q (.int i) H
  | [.bl k] => Q (.int (if k then 1 else 0)) H
  | _ => False
theorem c_int : CallR X (.type "int") uInt := by
  refine wC call_int1 fun xs H Q q => ?_
  unfold uInt at q
  split at q
  · exact .inl ⟨_, rfl, q⟩
  · exact .inr ⟨_, rfl, q⟩
  · exact q.elim
inductive Ty | int | bool | str | list | tuple | dict
def Ty.nm : Ty → String
  | .int => "int" | .bool => "bool" | .str => "str" | .list => "list" | .tuple => "tuple" | .dict => "dict"
/-- of a scalar -/
def isS : Ty → V → Bool
  | .int, .int _ => true
  | .int, .bl _ => true
  | .bool, .bl _ => true
  | .str, .str _ => true
  | _, _ => false
/-- of an object that is a list, a tuple, a dict -/
inductive Ob | list | tuple | dict
def Ob.nm : Ob → String
  | .list => "list" | .tuple => "tuple" | .dict => "dict"
def isO : Ty → Ob → Bool
  | .list, .list => true
  | .tuple, .tuple => true
  | .dict, .dict => true
  | _, _ => false
def uIsi (K : PySem.W.Frag) (n : Ty) : List V → Hp → VK → Prop := fun xs H Q => match xs with
  | [.int i, .ty m] => m = n.nm ∧ Q (.bl (isS n (.int i))) H
  | [.bl i, .ty m] => m = n.nm ∧ Q (.bl (isS n (.bl i))) H
  | [.str i, .ty m] => m = n.nm ∧ Q (.bl (isS n (.str i))) H
  | [.non, .ty m] => m = n.nm ∧ Q (.bl (isS n .non)) H
  | [.ref a, .ty m] => m = n.nm ∧ ∃ o : Ob, TyX K H (.ref a) (.type o.nm) ∧ Q (.bl (isO n o)) H
  | _ => False
theorem kit_int : ∀ n : Ty, kitB "int" n.nm = some (isS n (.int 0)) := fun n => by cases n <;> decide +kernel
theorem kit_bool : ∀ n : Ty, kitB "bool" n.nm = some (isS n (.bl true)) := fun n => by cases n <;> decide +kernel
theorem kit_str : ∀ n : Ty, kitB "str" n.nm = some (isS n (.str Str.empty)) := fun n => by cases n <;> decide +kernel
theorem kit_non : ∀ n : Ty, kitB "NoneType" n.nm = some (isS n .non) := fun n => by cases n <;> decide +kernel
theorem kit_obj : ∀ (n : Ty) (o : Ob), kitB o.nm n.nm = some (isO n o) := fun n o => by cases n <;> cases o <;> decide +kernel
theorem c_isi (n : Ty) : CallR X (.builtin "isinstance") (uIsi X.K n) := by
  refine wC call_isi fun xs H Q q => ?_
  unfold uIsi at q
  split at q
  · obtain ⟨rfl, q⟩ := q
    exact ⟨_, _, .type "int", .type n.nm, _, rfl, .ty n.nm, .base (.int _), kit_ty (kit_int n), by cases n <;> exact q⟩
  · obtain ⟨rfl, q⟩ := q
    exact ⟨_, _, .type "bool", .type n.nm, _, rfl, .ty n.nm, .base (.bl _), kit_ty (kit_bool n), by cases n <;> exact q⟩
  · obtain ⟨rfl, q⟩ := q
    exact ⟨_, _, .type "str", .type n.nm, _, rfl, .ty n.nm, .base (.str _), kit_ty (kit_str n), by cases n <;> exact q⟩
  · obtain ⟨rfl, q⟩ := q
    exact ⟨_, _, .type "NoneType", .type n.nm, _, rfl, .ty n.nm, .base .non, kit_ty (kit_non n), by cases n <;> exact q⟩
  · obtain ⟨rfl, o, t, q⟩ := q
    exact ⟨_, _, .type o.nm, .type n.nm, _, rfl, .ty n.nm, t, kit_ty (kit_obj n o), q⟩
  · exact q.elim
end calls
section own
variable {X : Cx} {k : Nat} {f C : Addr} {fd : FuncData} {ps : List Str} {sp : Sp} {W : WX} {x m : Str} {p pos apos : Pos} {e o : Expr} {es : List Expr} {ta : TE} {t : TA}
def uCall (sp : Sp) (W : WX) (t : TA) : TE := fun σ H Q => t σ H fun vs H1 => sp vs H1 Q fun c d H2 => W c d σ H2
theorem e_call (F : FnOk X.prog X.w X.K X.mg X.base (L2.CX X.prog X.w) k f fd ps sp) (hr : Room k X.A) (hm : X.mg x = some (.ref f)) (hk : PySem.W.keepIn X.K (.ref f) = true) (hb : Binds X.K fd ps []) (tk : Takes X W)
    (ha : PA X (e :: es) t) (hg : Gl X x := by rfl) (hdb : (x == ("__debug__" : Str)) = false := by decide) (he : starEach (e :: es) X.env = (false, eval e X.env) :: starEach es X.env := by rfl) (hpl : (backTo pos (starEach es X.env)).any (·.1) = false := by rfl) :
    PE X (.Call (.Name x p) (e :: es) [] pos) (uCall sp W t) := pe_callS (E := WE W) F hr hg hm hk hb (fun σ => passAt tk σ) ha hdb he hpl
/-- o.m(..) -/
def uMeth (C : Addr) (m : Str) (sp : Sp) (W : WX) (ta : TE) (t : TA) : TE := fun σ H Q => ta σ H fun x H1 => ∃ a dx fs, x = .ref a ∧ H1 a = some (.ins C dx fs) ∧ fs.lookup m = none ∧
  t σ H1 fun vs H2 => sp (x :: vs) H2 Q fun c d H3 => W c d σ H3
theorem e_meth {pl : Sem Bool} (ho : PE X o ta) (c : Cls X.K C) (hm : Meth X.K C m f) (F : FnOk X.prog X.w X.K X.mg X.base (L2.CX X.prog X.w) k f fd ps sp) (hr : Room k X.A) (hb : Binds X.K fd ps []) (tk : Takes X W) (ha : PA X (e :: es) t)
    (hst : starEach (e :: es) X.env = (false, eval e X.env) :: starEach es X.env := by rfl) (hpl : (backTo pos (starEach es X.env)).any (·.1) = false := by rfl)
    (ht : eval (.Call (.Attribute o m apos) (e :: es) [] pos) X.env = (do let ov ← eval o X.env; standAt apos.atName; let (f, first) ← holding [ov] (getMethod ov m pl); callWith pos f first (backTo pos (starEach (e :: es) X.env)) (backToKw pos (keywordEach [] X.env))) := by rfl) :
    PE X (.Call (.Attribute o m apos) (e :: es) [] pos) (uMeth C m sp W ta t) := by
  refine ⟨fun pins s σ H Q I h => PySem.W.methodCall_KW (pl := pl) (thn (ho.run pins s σ H _ I h) fun u s1 hh => ?_) ht⟩
  obtain ⟨x, H1, I1, rx, a, dx, fs, rfl, ea, l, q⟩ := hh
  cases (show u = Value.ref a from rx)
  refine getmeth_ok I1 ea c hm l (PySem.W.callWith_K (first := [.ref a]) (h₀ := X.base) I.ok.mod.kin hm.kp (thn (ha.run pos pins s1 σ H1 _ I1 q) fun us s2 hh => ?_) hst hpl)
  obtain ⟨vs, H2, I2, r, q2⟩ := hh
  exact ⟨I2.kIn, run_fnS (us := .ref a :: us) (vs := .ref a :: vs) (E := WE W) F hr hb (passAt tk σ) I2 (.cons rfl r) q2⟩
theorem e_meth0 {pl : Sem Bool} (ho : PE X o ta) (c : Cls X.K C) (hm : Meth X.K C m f) (F : FnOk X.prog X.w X.K X.mg X.base (L2.CX X.prog X.w) k f fd ps sp) (hr : Room k X.A) (hb : Binds X.K fd ps []) (tk : Takes X W)
    (ht : eval (.Call (.Attribute o m apos) [] [] pos) X.env = (do let ov ← eval o X.env; standAt apos.atName; let (f, first) ← holding [ov] (getMethod ov m pl); callWith pos f first (backTo pos (starEach [] X.env)) (backToKw pos (keywordEach [] X.env))) := by rfl) :
    PE X (.Call (.Attribute o m apos) [] [] pos) (uMeth C m sp W ta tNil) := by
  refine ⟨fun pins s σ H Q I h => PySem.W.methodCall_KW (pl := pl) (thn (ho.run pins s σ H _ I h) fun u s1 hh => ?_) ht⟩
  obtain ⟨x, H1, I1, rx, a, dx, fs, rfl, ea, l, q⟩ := hh
  cases (show u = Value.ref a from rx)
  exact getmeth_ok I1 ea c hm l (PySem.W.callWith_K0 (first := [.ref a]) I1.kIn hm.kp (run_fnS (us := [.ref a]) (vs := [.ref a]) (E := WE W) F hr hb (passAt tk σ) I1 (.cons rfl .nil) q))
/-- what a body wants of exceptions, as a wish -/
abbrev WB (E : XK) : WX := fun c d _ H => E c d H
/-- C(..), what is raised goes to W at the slots -/
def uMake (C : Addr) (sp : Sp) (W : WX) (t : TA) : TE := fun σ H Q => t σ H fun vs H1 => ∀ x dx, H1 x = none → H1 dx = none → dx ≠ x → sp (.ref x :: vs) (upd (upd H1 dx (.own x)) x (.ins C dx [])) (fun v H2 => v = .non ∧ Q (.ref x) H2) fun c d H2 => W c d σ H2
theorem make_at {pins : List (Addr × Obj)} {σ : L2.St} {H : Hp} {s : Shared} {Q : VK} {us : List Value} {vs : List V} (M : Mk X.K C f) (F : FnOk X.prog X.w X.K X.mg X.base (L2.CX X.prog X.w) k f fd ps sp) (hr : Room (k + 1) X.A) (hb : Binds X.K fd ps []) (tk : Takes X W)
    (I : Inv X pins σ H s) (r : Vals vs us)
    (h : ∀ x dx, H x = none → H dx = none → dx ≠ x → sp (.ref x :: vs) (upd (upd H dx (.own x)) x (.ins C dx [])) (fun v H2 => v = .non ∧ Q (.ref x) H2) fun c d H2 => W c d σ H2) :
    wpAny (model X.prog X.w) X.A (call (.ref C) us) (EP X pins σ Q) X.xe s := by
  let n := s.heap.objs.size
  have q0 : sp (.ref (n + 1) :: vs) _ _ _ := h (n + 1) n (I.hok.fresh (Nat.le_succ n)) (I.hok.fresh (Nat.le_refl n)) (Nat.ne_of_lt n.lt_succ_self)
  have J := Inv.made (C := C) I
  have rr : Vals (V.ref (n + 1) :: vs) (Value.ref (n + 1) :: us) := .cons rfl r
  have size : (Value.ref (n + 1) :: us).length = ps.length := rr.length.symm.trans (F.len _ _ _ _ q0)
  have go := F.run _ X.stack _ _ ⟨Value.ref (n + 1) :: us, []⟩ (Value.ref (n + 1) :: us) _ _ _ (hr.make C us []) (J.env0.make C us []) (by have z := hb _ (Value.ref (n + 1) :: us) J.kIn (by rw [List.append_nil]; exact size); rw [List.append_nil] at z; exact z) rr q0
  refine wpAny_call (make_map (f := f) I.kIn M.makes M.init (beq_iff_eq.mp M.fn) (codeAny_mono go ?_))
  rintro (e | fl) s' hq
  · exact passAt tk σ pins _ _ e s' J hq
  · cases fl with
    | ret u =>
      obtain ⟨v, H', I3, rv, ev, z⟩ := J.after hq
      cases ev
      exact ⟨rv, .ref (n + 1), H', I3, rfl, z⟩
    | next => exact hq.elim
    | brk => exact hq.elim
    | cont => exact hq.elim
theorem e_mk (M : Mk X.K C f) (F : FnOk X.prog X.w X.K X.mg X.base (L2.CX X.prog X.w) k f fd ps sp) (hr : Room (k + 1) X.A) (hm : X.mg x = some (.ref C)) (hb : Binds X.K fd ps []) (tk : Takes X W) (ha : PA X (e :: es) t)
    (hg : Gl X x := by rfl) (hdb : (x == ("__debug__" : Str)) = false := by decide) (he : starEach (e :: es) X.env = (false, eval e X.env) :: starEach es X.env := by rfl) (hpl : (backTo pos (starEach es X.env)).any (·.1) = false := by rfl) :
    PE X (.Call (.Name x p) (e :: es) [] pos) (uMake C sp W t) :=
  ⟨fun pins s σ H Q I h => wpAny_Call_Name_kw (ld_glob I hg hm (PySem.W.callWith_K (h₀ := X.base) I.ok.mod.kin M.kp (thn (ha.run pos pins s σ H _ I h) fun us s1 hh => by
    obtain ⟨vs, H1, I1, r, q⟩ := hh
    exact ⟨I1.kIn, make_at M F hr hb tk I1 r q⟩) he hpl) hdb)⟩
/-- what the top has of an own exception class -/
structure Exc (K : PySem.W.Frag) (mg : Str → Option Value) (n : Str) (C : Addr) : Prop where
  ex : PySem.W.excIn K C [.type "ValueError", .type "Exception", .type "BaseException", .type "object"] "ValueError.__new__" = true
  g : mg n = some (.ref C)
  kp : PySem.W.keepIn K (.ref C) = true
  sub : PySem.W.subIn K (.ref C) (.type "BaseException") = some true
  ty : PySem.W.typeIn K (.ref C) = some (.type "type")
def uRaise (C : Addr) (W : WX) : TS := fun _ σ H => W (.ref C) none σ H
theorem pmk0 {n : Str} (T : Exc X.K X.mg n C) (hg : Gl X n := by rfl) (hdb : (n == ("__debug__" : Str)) = false := by decide) : PMk X (.Call (.Name n p) [] [] pos) (fun _ H Q => Q (.ref C) none H) := by
  intro pins s σ H Q I h
  refine wpAny_Call_Name_kw (ld_glob I hg T.g (PySem.W.callWith_K0 I.kIn T.kp ?_) hdb)
  obtain ⟨bm, N, nm, qn, bs, hdct, sn, sub, ab, col, dd, k0, k1, k2, k3, k5, mN, hC, hN, hni, Z⟩ := exc_obj I.kIn T.ex
  exact wpAny_call_exc_subT PySem.F.excBase_ValueError Z hC hN hni (fun h' e hm => mk_of I hm (raises_own T.sub T.ty) h (I.hok.gone hm.new)) (Nat.zero_le _)
theorem s_raise {n : Str} (T : Exc X.K X.mg n C) (tk : Takes X W) {pos2 : Pos} (hc : X.calm = true := by rfl) (hg : Gl X n := by rfl) (hdb : (n == ("__debug__" : Str)) = false := by decide) :
    PS X (.Raise (some (.Call (.Name n p) [] [] pos)) none pos2) (uRaise C W) := ps_raise hc tk (pmk0 T hg hdb)
end own
section tries
variable {X : Cx} {x n : Str} {c : Value} {i : Nat} {body suite : List Stmt} {b₀ : Stmt} {np pos pos' : Pos} {tb : WX → TS} {ts : Addr → Value → Option Addr → TS} {W : WX}
def uTryAs (K : PySem.W.Frag) (c : Value) (i : Nat) (tb : WX → TS) (ts : Addr → Value → Option Addr → TS) (W : WX) : TS := fun D σ H => tb (wAs K c i ts W D) D σ H
def uTry (K : PySem.W.Frag) (c : Value) (tb : WX → TS) (ts : Addr → Value → Option Addr → TS) (W : WX) : TS := fun D σ H => tb (wOnly K c ts W D) D σ H
theorem s_tryAs (hs : X.stack = X.env :: X.outer) (hf : X.env.frame = some X.env.locals) (hN : X.N.Nodup) (hi : X.N[i]? = some n) (hln : X.env.kindOf n = some .local) (hc : Names X x c) (tk : Takes X W)
    (hb : ∀ (W' : WX) (pn : List (Addr × Obj)) (xe : Value → Shared → Prop), Takes (X.tr pn xe) W' → PassesOwn (model X.prog X.w) X.A X.env xe → PSs (X.tr pn xe) body (tb W'))
    (hsu : ∀ (a : Addr) (oe : Obj) (cls : Value) (d : Option Addr) (pn : List (Addr × Obj)), Zc cls d oe → (∃ vs, oe.data = .fields vs) → PSs (X.suite a ((a, oe) :: pn)) (b₀ :: suite) (ts a cls d)) :
    PS X (.Try body [.ExceptHandler (some (.Name x np)) (some n) (b₀ :: suite) pos'] [] [] pos) (uTryAs X.K c i tb ts W) := ps_try_as hs hf hN hi hln hc tk hb hsu
theorem w_tryAs {K : PySem.W.Frag} {D : Ends} {σ : L2.St} {H : Hp} (h : tb (wAs K c i ts W D) D σ H) : uTryAs K c i tb ts W D σ H := h
theorem w_try {K : PySem.W.Frag} {D : Ends} {σ : L2.St} {H : Hp} (h : tb (wOnly K c ts W D) D σ H) : uTry K c tb ts W D σ H := h
theorem w_asT {K : PySem.W.Frag} {D : Ends} {σ : L2.St} {H : Hp} {cls : Value} {d : Option Addr} (e : PySem.W.exmOne K cls c = some true)
    (h : ∀ a, H a = none → ts a cls d { nx := fun σ' H' => D.nx (σ'.set i none) H', rt := D.rt, bk := fun σ' H' => D.bk (σ'.set i none) H', ct := fun σ' H' => D.ct (σ'.set i none) H' } (σ.set i (some (.ref a))) H) :
    wAs K c i ts W D cls d σ H := ⟨true, e, fun _ => h, fun q => Bool.noConfusion q⟩
theorem w_asF {K : PySem.W.Frag} {D : Ends} {σ : L2.St} {H : Hp} {cls : Value} {d : Option Addr} (e : PySem.W.exmOne K cls c = some false) (h : W cls d σ H) : wAs K c i ts W D cls d σ H := ⟨false, e, fun q => Bool.noConfusion q, fun _ => h⟩
theorem w_onT {K : PySem.W.Frag} {D : Ends} {σ : L2.St} {H : Hp} {cls : Value} {d : Option Addr} (e : PySem.W.exmOne K cls c = some true) (h : ∀ a, H a = none → ts a cls d D σ H) : wOnly K c ts W D cls d σ H := ⟨true, e, fun _ => h, fun q => Bool.noConfusion q⟩
theorem w_onF {K : PySem.W.Frag} {D : Ends} {σ : L2.St} {H : Hp} {cls : Value} {d : Option Addr} (e : PySem.W.exmOne K cls c = some false) (h : W cls d σ H) : wOnly K c ts W D cls d σ H := ⟨false, e, fun q => Bool.noConfusion q, fun _ => h⟩
/-- isinstance(e, C) of the exception that a suite holds -/
def uIsE (K : PySem.W.Frag) (a : Addr) (cls : Value) (d : Option Addr) : List V → Hp → VK → Prop := fun xs H Q => ∃ (D C : Addr) (b : Bool), cls = .ref D ∧ d = none ∧ ExcC K D ∧ xs = [.ref a, .ref C] ∧ PySem.W.kitOne K (.ref D) (.ref C) = some b ∧ Q (.bl b) H
theorem c_isE {a : Addr} {oe : Obj} {cls : Value} {d : Option Addr} {pn : List (Addr × Obj)} (hz : Zc cls d oe) (hf : ∃ vs, oe.data = .fields vs) : CallR (X.suite a ((a, oe) :: pn)) (.builtin "isinstance") (uIsE X.K a cls d) := by
  intro pins s σ H xs us Q I r h
  obtain ⟨D, C, b, rfl, rfl, x, rfl, e, q⟩ := h
  exact call_isE x hz hf pins s σ H _ us Q I r ⟨.ref C, .ref C, b, rfl, fun u h => h, e, q⟩
theorem w_isE {K : PySem.W.Frag} {H : Hp} {Q : VK} {a D C : Addr} {b : Bool} (x : ExcC K D) (e : PySem.W.kitOne K (.ref D) (.ref C) = some b) (h : Q (.bl b) H) : uIsE K a (.ref D) none [.ref a, .ref C] H Q := ⟨D, C, b, rfl, rfl, x, rfl, e, h⟩
theorem kit_ne {K : PySem.W.Frag} {R A : Addr} {b : Bool} (n : (Value.ref R == Value.ref A) = false) (h1 : PySem.W.subIn K (.ref A) (.type "BaseException") = some true) (hd : PySem.W.hasDictIn K A = true) (ht : PySem.W.typeIn K (.ref A) = some (.type "type")) (h4 : PySem.W.subIn K (.ref R) (.ref A) = some b) : PySem.W.kitOne K (.ref R) (.ref A) = some b := by
  have z := PySem.W.exm_ref h1 hd ht h4
  have e1 : (PySem.W.subIn K (.ref A) (.type "BaseException") == some true) = true := by rw [h1]; rfl
  unfold PySem.W.exmOne at z
  rw [if_pos e1] at z
  unfold PySem.W.kitOne
  rw [if_neg (by rw [n]; exact Bool.false_ne_true)]
  exact z
theorem kit_same {K : PySem.W.Frag} {R : Addr} : PySem.W.kitOne K (.ref R) (.ref R) = some true := by
  unfold PySem.W.kitOne
  rw [if_pos (beq_self_eq_true _)]
end tries
section fields
variable {X : Cx} {C : Addr} {f : Str} {e o v : Expr} {ta tv : TE} {pos pos' : Pos}
def uFld (C : Addr) (f : Str) (ta : TE) : TE := fun σ H Q => ta σ H fun x H1 => ∃ a dx fs v, x = .ref a ∧ H1 a = some (.ins C dx fs) ∧ fs.lookup f = some v ∧ Q v H1
theorem e_fld (c : Cls X.K C) (n : NoAttr X.K C f) (he : PE X e ta) (hb : attributeBase e f X.env (eval e X.env) = eval e X.env := by rfl) : PE X (.Attribute e f pos) (uFld C f ta) :=
  ⟨fun pins s σ H Q I h => attr_of hb (thn (he.run pins s σ H _ I h) fun u s1 hh => by
    obtain ⟨x, H1, I1, rx, a, dx, fs, v, rfl, ea, l, q⟩ := hh
    cases (show u = Value.ref a from rx)
    exact getattr_ok I1 ea c n l fun u' s2 I2 ru => ⟨v, H1, I2, ru, q⟩)⟩
def uSetF (C : Addr) (f : Str) (ta tv : TE) : TS := fun D σ H => tv σ H fun y H1 => ta σ H1 fun x H2 => ∃ a dx fs, x = .ref a ∧ H2 a = some (.ins C dx fs) ∧ fs.length < 1000 ∧ D.nx σ (upd H2 a (.ins C dx (putF f y fs)))
theorem s_fld (c : Cls X.K C) (n : NoAttr X.K C f) (ho : PE X o ta) (hv : PE X v tv) (hs : swapsWith v (some (.Attribute o f pos')) pos.line X.env = pure false := by rfl) : PS X (.Assign [.Attribute o f pos'] v pos) (uSetF C f ta tv) :=
  ⟨fun pins s σ H D I h => plainObj_wpAny_Assign_Attribute (thn (hv.run pins s σ H _ I h) fun u s1 ⟨y, H1, I1, ry, q⟩ => thn (ho.run pins s1 σ H1 _ I1 q) fun ov s2 hh => by
    obtain ⟨x, H2, I2, rx, a, dx, fs, rfl, ea, l, q2⟩ := hh
    cases (show ov = Value.ref a from rx)
    exact setattr_ok I2 ea c n l ry fun s3 I3 => ⟨σ, _, I3, q2⟩) hs⟩
/-- o.f += e -/
def uAugF (C : Addr) (f : Str) (r : V → V → Hp → VK → Prop) (ta tv : TE) : TS := fun D σ H => ta σ H fun x H1 => ∃ a dx fs v, x = .ref a ∧ H1 a = some (.ins C dx fs) ∧ fs.lookup f = some v ∧
  tv σ H1 fun y H2 => r v y H2 fun z H3 => ∃ dx' fs', H3 a = some (.ins C dx' fs') ∧ fs'.length < 1000 ∧ D.nx σ (upd H3 a (.ins C dx' (putF f z fs')))
theorem s_augf {op : Operator} {r : V → V → Hp → VK → Prop} {tpos : Pos} (c : Cls X.K C) (n : NoAttr X.K C f) (ho : PE X o ta) (hv : PE X v tv) (hop : InOp X op r) : PS X (.AugAssign (.Attribute o f tpos) op v pos) (uAugF C f r ta tv) :=
  ⟨fun pins s σ H D I h => wpAny_AugAssign_AttributeAny (thn (ho.run pins s σ H _ I h) fun ov s1 hh => by
    obtain ⟨x, H1, I1, rx, a, dx, fs, v, rfl, ea, l, q⟩ := hh
    cases (show ov = Value.ref a from rx)
    refine getattr_ok I1 ea c n l fun u s2 I2 ru => thn (hv.run pins s2 σ H1 _ I2 q) fun w3 s3 hh => ?_
    obtain ⟨y, H2, I3, ry, q3⟩ := hh
    refine thn (hop pins s3 σ H2 v y u w3 _ I3 ru ry q3) fun w4 s4 hh => ?_
    obtain ⟨z, H3, I4, rz, dx', fs', ea', l', q4⟩ := hh
    exact setattr_ok I4 ea' c n l' rz fun s5 I5 => ⟨σ, _, I5, q4⟩)⟩
end fields
section truth
variable {X : Cx} {e : Expr} {te : TE}
def truV (K : PySem.W.Frag) (x : V) (H1 : Hp) (Q : Bool → Hp → Prop) : Prop := match x with
  | .bl b => Q b H1
  | .non => Q false H1
  | .int i => Q (!decide (i = 0)) H1
  | .str z => z.length ≤ sizeLine ∧ Q (!decide (z.length = 0)) H1
  | .ref p => (∃ xs, (SqL K H1 p xs ∨ SqT K H1 p xs) ∧ Q (!xs.isEmpty) H1) ∨ ∃ kvs, H1 p = some (.dK kvs) ∧ Q (!kvs.isEmpty) H1
  | _ => False
def uTru (K : PySem.W.Frag) (te : TE) : TT := fun σ H Q => te σ H fun x H1 => truV K x H1 Q
theorem t_tru (he : PE X e te) (hw : ∀ whole, isTrue e X.env whole = (do let v ← whole; standAt e.pos; holding [v] (truthy v)) := by intro _; rfl) : PT X e (uTru X.K te) := by
  refine ⟨fun pins s σ H Q I h => isTrue_plain (thn (he.run pins s σ H _ I h) fun v s1 hh => ?_) (hw _)⟩
  obtain ⟨x, H1, I1, r1, q⟩ := hh
  refine tru_ok pins s1 σ H1 x v Q I1 r1 ?_
  unfold truV at q
  split at q
  · exact ⟨_, rfl, q⟩
  · exact ⟨_, rfl, q⟩
  · rename_i i
    refine ⟨_, rfl, ?_⟩
    rw [show (i != 0) = !decide (i = 0) by rw [bne, Bool.beq_eq_decide_eq]]
    exact q
  · rename_i z
    refine ⟨_, ⟨q.1, rfl⟩, ?_⟩
    rw [show ((z.length : Int) != 0) = !decide (z.length = 0) by rw [bne, Bool.beq_eq_decide_eq]; congr 1; exact decide_eq_decide.mpr (by omega)]
    exact q.2
  · rcases q with ⟨xs, a | a, q⟩ | ⟨kvs, a, q⟩
    · exact ⟨_, .inl ⟨xs, a, rfl⟩, q⟩
    · exact ⟨_, .inr (.inl ⟨xs, a, rfl⟩), q⟩
    · exact ⟨_, .inr (.inr ⟨kvs, a, rfl⟩), q⟩
  · exact q.elim
end truth
def forQ (g : TG) (tb : TS) (D : Ends) (σ : L2.St) (J : It) (H1 : Hp) : Prop := ∃ W : Nat → Nat → L2.St → Hp → Prop, (∃ m, W 0 m σ H1) ∧ ∀ i m σ H, W i m σ H →
  (J.stop i H ∧ D.nx σ H) ∨ (J.go i H ∧ ∃ N : L2.St → Hp → Prop, (∀ σ' H', N σ' H' → ∃ m', m' < m ∧ W (i + 1) m' σ' H') ∧ ∀ x H', J.yld i H x H' → g x σ H' fun σ2 H2 => tb { D with nx := N, ct := N, bk := D.nx } σ2 H2)
def newT (xs : List V) (H1 : Hp) (Q : VK) : Prop := xs.length ≤ sizeLine ∧ ∀ p, H1 p = none → Q (.ref p) (upd H1 p (.tup xs))
def newL (xs : List V) (H1 : Hp) (Q : VK) : Prop := xs.length ≤ sizeLine ∧ ∀ p, H1 p = none → Q (.ref p) (upd H1 p (.lst xs))
def bmQ (K : PySem.W.Frag) (T : String) (q : V → List V → Hp → VK → Prop) (tA : TA) (σ : L2.St) (x : V) (H1 : Hp) (Q : VK) : Prop := tyV K T x H1 ∧ tA σ H1 fun xs H2 => q x xs H2 Q
def rng1Q (vs : List V) (H1 : Hp) (R : It → Hp → Prop) : Prop := ∃ j : Int, vs = [.int j] ∧ -(2 ^ 62) ≤ j ∧ j < 2 ^ 62 ∧ R (Itr 0 j.toNat) H1
def rng2Q (vs : List V) (H1 : Hp) (R : It → Hp → Prop) : Prop := ∃ i j : Int, vs = [.int i, .int j] ∧ (-(2 ^ 62) ≤ i ∧ i < 2 ^ 62 ∧ -(2 ^ 62) ≤ j ∧ j < 2 ^ 62) ∧ R (Itr i (j - i).toNat) H1
def listQ (K : PySem.W.Frag) (x : V) (H1 : Hp) (R : It → Hp → Prop) : Prop := ∃ a, x = .ref a ∧ (∃ xs, SqL K H1 a xs) ∧ R (Itl K a) H1
def tupQ (K : PySem.W.Frag) (x : V) (H1 : Hp) (R : It → Hp → Prop) : Prop := ∃ a, x = .ref a ∧ (∃ xs, SqT K H1 a xs) ∧ R (Itt K a) H1
def strQ (x : V) (H1 : Hp) (R : It → Hp → Prop) : Prop := ∃ z, x = .str z ∧ R (Its z) H1
def revQ (K : PySem.W.Frag) (vs : List V) (H1 : Hp) (R : It → Hp → Prop) : Prop := ∃ (a : Addr) (xs : List V), vs = [.ref a] ∧ SqL K H1 a xs ∧ R (Itv K a xs.length) H1
def fldQ (C : Addr) (f : Str) (x : V) (H1 : Hp) (Q : VK) : Prop := ∃ a dx fs v, x = .ref a ∧ H1 a = some (.ins C dx fs) ∧ fs.lookup f = some v ∧ Q v H1
def methQ (C : Addr) (m : Str) (sp : Sp) (W : WX) (t : TA) (σ : L2.St) (x : V) (H1 : Hp) (Q : VK) : Prop := ∃ a dx fs, x = .ref a ∧ H1 a = some (.ins C dx fs) ∧ fs.lookup m = none ∧ t σ H1 fun vs H2 => sp (x :: vs) H2 Q fun c d H3 => W c d σ H3
def setfQ (C : Addr) (f : Str) (x y : V) (H2 : Hp) (N : Hp → Prop) : Prop := ∃ a dx fs, x = .ref a ∧ H2 a = some (.ins C dx fs) ∧ fs.length < 1000 ∧ N (upd H2 a (.ins C dx (putF f y fs)))
section steps
variable {K : PySem.W.Frag} {D : Ends} {σ : L2.St} {H : Hp} {Q : VK} {QB : Bool → Hp → Prop} {QA : List V → Hp → Prop} {t u : TS} {te ta tb tv : TE} {tA : TA} {c c1 c2 : TT} {g : TG} {i : Nat} {v x y : V} {r r' : R2} {W : WX} {sp : Sp} {b : Bool} {C a : Addr} {f : Str}
theorem w_seq (h : t { D with nx := u D } σ H) : tSeq t u D σ H := h
theorem w_cut (P : L2.St → Hp → Prop) (h1 : t { D with nx := P } σ H) (h2 : ∀ σ H, P σ H → u D σ H) : tCut t u D σ H := ⟨P, h1, h2⟩
theorem w_next (h : D.nx σ H) : tNext D σ H := h
theorem w_asg (h : te σ H fun x H1 => g x σ H1 D.nx) : tAsg te g D σ H := h
theorem w_name {N : L2.St → Hp → Prop} (h : N (σ.set i (some v)) H) : gName i v σ H N := h
theorem w_ret (h : te σ H D.rt) : tRet te D σ H := h
theorem w_retN (h : D.rt .non H) : tRetN D σ H := h
theorem w_if (h : c σ H fun b H1 => if b = true then t D σ H1 else u D σ H1) : tIfS c t u D σ H := h
theorem w_drop (h : te σ H fun _ H1 => D.nx σ H1) : tDrop te D σ H := h
theorem w_brk (h : D.bk σ H) : tBreak D σ H := h
theorem w_cont (h : D.ct σ H) : tCont D σ H := h
theorem w_aug {ti : TIp} (e : σ[i]? = some (some x)) (h : te σ H fun y H1 => ti x y H1 fun z H2 => D.nx (σ.set i (some z)) H2) : tAug i te ti D σ H := ⟨x, e, h⟩
theorem w_ipI {k : Int → Int → Int} {m n : Int} (h : Q (.int (k m n)) H) : ipI k (.int m) (.int n) H Q := ⟨m, n, rfl, rfl, h⟩
theorem w_test (h : te σ H fun x H1 => ∃ k, x = .bl k ∧ QB k H1) : tTest te σ H QB := h
theorem w_not (h : c σ H fun k H1 => QB (!k) H1) : tNot c σ H QB := h
theorem w_and (h : c1 σ H fun k H1 => if k = true then c2 σ H1 QB else QB false H1) : tAnd c1 c2 σ H QB := h
theorem w_or (h : c1 σ H fun k H1 => if k = true then QB true H1 else c2 σ H1 QB) : tOr c1 c2 σ H QB := h
theorem w_andV (h : ta σ H fun x H1 => ∃ k, x = .bl k ∧ if k = true then tb σ H1 Q else Q (.bl false) H1) : tAndV ta tb σ H Q := h
theorem w_orV (h : ta σ H fun x H1 => ∃ k, x = .bl k ∧ if k = true then Q (.bl true) H1 else tb σ H1 Q) : tOrV ta tb σ H Q := h
theorem w_notV (h : ta σ H fun x H1 => ∃ k, x = .bl k ∧ Q (.bl (!k)) H1) : tNotV ta σ H Q := h
theorem w_blP {P : Bool → Prop} (h : P b) : ∃ k, V.bl b = .bl k ∧ P k := ⟨b, rfl, h⟩
theorem w_ifE (h : c σ H fun k H1 => if k = true then ta σ H1 Q else tb σ H1 Q) : tIf c ta tb σ H Q := h
theorem w_var (e : σ[i]? = some (some v)) (h : Q v H) : tVar i σ H Q := ⟨v, e, h⟩
theorem w_c (h : Q v H) : tC v σ H Q := h
theorem w_op (h : ta σ H fun x H1 => tb σ H1 fun y H2 => r x y H2 Q) : tOp r ta tb σ H Q := h
theorem w_un {ru : V → Hp → VK → Prop} (h : ta σ H fun x H1 => ru x H1 Q) : tUn ru ta σ H Q := h
theorem w_neg {m : Int} (h : Q (.int (-m)) H) : uNeg (.int m) H Q := h
theorem w_chain {tc : TE} (h : ta σ H fun x H1 => tb σ H1 fun y H2 => r x y H2 fun z H3 => ∃ k, z = .bl k ∧ if k = true then tc σ H3 fun w H4 => r' y w H4 Q else Q (.bl false) H3) : tChain r r' ta tb tc σ H Q := h
theorem w_cons (h : te σ H fun x H1 => tA σ H1 fun xs H2 => QA (x :: xs) H2) : tCons te tA σ H QA := h
theorem w_nil (h : QA [] H) : tNil σ H QA := h
theorem w_tup (h : tA σ H fun xs H1 => newT xs H1 Q) : tTup tA σ H Q := h
theorem w_lst (h : tA σ H fun xs H1 => newL xs H1 Q) : tLst tA σ H Q := h
theorem small9 {n : Nat} (h : n ≤ 100000) : n ≤ sizeLine := Nat.le_trans h (by decide)
theorem w_newT {xs : List V} (s : xs.length ≤ 100000) (h : ∀ p, H p = none → Q (.ref p) (upd H p (.tup xs))) : newT xs H Q := ⟨small9 s, h⟩
theorem w_newL {xs : List V} (s : xs.length ≤ 100000) (h : ∀ p, H p = none → Q (.ref p) (upd H p (.lst xs))) : newL xs H Q := ⟨small9 s, h⟩
theorem w_add {m n : Int} (h : Q (.int (m + n)) H) : uAdd K (.int m) (.int n) H Q := h
theorem w_sub {m n : Int} (h : Q (.int (m - n)) H) : uSub (.int m) (.int n) H Q := h
theorem w_mul {m n : Int} (s : CMul m n) (h : Q (.int (m * n)) H) : uMul (.int m) (.int n) H Q := ⟨.inl s, h⟩
theorem w_div {m n : Int} (s : 0 < n ∧ n < 2 ^ 200) (h : Q (.int (m / n)) H) : uDiv (.int m) (.int n) H Q := ⟨s, h⟩
theorem w_mod {m n : Int} (s : 0 < n) (h : Q (.int (m % n)) H) : uMod (.int m) (.int n) H Q := ⟨s, h⟩
theorem w_pow {m n : Int} (s : CPow m n) (h : Q (.int (m ^ n.toNat)) H) : uPow (.int m) (.int n) H Q := ⟨s, h⟩
theorem w_neP {o : Addr} (h : rNeP K x (.ref o) H Q) : uNe K x (.ref o) H Q := by cases x <;> exact Or.inr h
theorem w_eqI {m n : Int} (h : Q (.bl (decide (m = n))) H) : uEq K (.int m) (.int n) H Q := h
theorem w_eqS {m n : Str} (h : Q (.bl (decide (m = n))) H) : uEq K (.str m) (.str n) H Q := h
theorem w_eqB {m n : Bool} (h : Q (.bl (decide (m = n))) H) : uEq K (.bl m) (.bl n) H Q := h
theorem w_eqNI {n : Int} (h : Q (.bl false) H) : uEq K .non (.int n) H Q := .inl ⟨rfl, h⟩
theorem w_neNI {n : Int} (h : Q (.bl true) H) : uNe K .non (.int n) H Q := .inl ⟨rfl, h⟩
theorem w_eqIN {n : Int} (h : Q (.bl false) H) : uEq K (.int n) .non H Q := .inl ⟨rfl, h⟩
theorem w_neIN {n : Int} (h : Q (.bl true) H) : uNe K (.int n) .non H Q := .inl ⟨rfl, h⟩
theorem w_neI {m n : Int} (h : Q (.bl (!decide (m = n))) H) : uNe K (.int m) (.int n) H Q := h
theorem w_neS {m n : Str} (h : Q (.bl (!decide (m = n))) H) : uNe K (.str m) (.str n) H Q := h
theorem w_neB {m n : Bool} (h : Q (.bl (!decide (m = n))) H) : uNe K (.bl m) (.bl n) H Q := h
theorem w_lt {m n : Int} (h : Q (.bl (decide (m < n))) H) : uLt K (.int m) (.int n) H Q := h
theorem w_le {m n : Int} (h : Q (.bl (decide (m ≤ n))) H) : uLe K (.int m) (.int n) H Q := h
theorem w_gt {m n : Int} (h : Q (.bl (decide (n < m))) H) : uGt (.int m) (.int n) H Q := h
theorem w_ge {m n : Int} (h : Q (.bl (decide (n ≤ m))) H) : uGe K (.int m) (.int n) H Q := h
theorem w_cb {q : List V → Hp → VK → Prop} (h : tA σ H fun vs H1 => q vs H1 Q) : tCB q tA σ H Q := h
theorem w_call (h : tA σ H fun vs H1 => sp vs H1 Q fun c d H2 => W c d σ H2) : uCall sp W tA σ H Q := h
theorem w_tru (h : te σ H fun x H1 => truV K x H1 QB) : uTru K te σ H QB := h
theorem w_truB {b : Bool} (h : QB b H) : truV K (.bl b) H QB := h
theorem w_truN (h : QB false H) : truV K .non H QB := h
theorem w_truI {m : Int} (h : QB (!decide (m = 0)) H) : truV K (.int m) H QB := h
theorem w_isi_int_int {m : Int} (h : Q (.bl true) H) : uIsi K .int [(.int m), .ty "int"] H Q := ⟨rfl, h⟩
theorem w_isi_int_bl {m : Bool} (h : Q (.bl true) H) : uIsi K .int [(.bl m), .ty "int"] H Q := ⟨rfl, h⟩
theorem w_isi_int_str {m : Str} (h : Q (.bl false) H) : uIsi K .int [(.str m), .ty "int"] H Q := ⟨rfl, h⟩
theorem w_isi_int_non  (h : Q (.bl false) H) : uIsi K .int [.non, .ty "int"] H Q := ⟨rfl, h⟩
theorem w_isi_bool_int {m : Int} (h : Q (.bl false) H) : uIsi K .bool [(.int m), .ty "bool"] H Q := ⟨rfl, h⟩
theorem w_isi_bool_bl {m : Bool} (h : Q (.bl true) H) : uIsi K .bool [(.bl m), .ty "bool"] H Q := ⟨rfl, h⟩
theorem w_isi_bool_str {m : Str} (h : Q (.bl false) H) : uIsi K .bool [(.str m), .ty "bool"] H Q := ⟨rfl, h⟩
theorem w_isi_bool_non  (h : Q (.bl false) H) : uIsi K .bool [.non, .ty "bool"] H Q := ⟨rfl, h⟩
theorem w_isi_str_int {m : Int} (h : Q (.bl false) H) : uIsi K .str [(.int m), .ty "str"] H Q := ⟨rfl, h⟩
theorem w_isi_str_bl {m : Bool} (h : Q (.bl false) H) : uIsi K .str [(.bl m), .ty "str"] H Q := ⟨rfl, h⟩
theorem w_isi_str_str {m : Str} (h : Q (.bl true) H) : uIsi K .str [(.str m), .ty "str"] H Q := ⟨rfl, h⟩
theorem w_isi_str_non  (h : Q (.bl false) H) : uIsi K .str [.non, .ty "str"] H Q := ⟨rfl, h⟩
theorem w_isi_list_int {m : Int} (h : Q (.bl false) H) : uIsi K .list [(.int m), .ty "list"] H Q := ⟨rfl, h⟩
theorem w_isi_list_bl {m : Bool} (h : Q (.bl false) H) : uIsi K .list [(.bl m), .ty "list"] H Q := ⟨rfl, h⟩
theorem w_isi_list_str {m : Str} (h : Q (.bl false) H) : uIsi K .list [(.str m), .ty "list"] H Q := ⟨rfl, h⟩
theorem w_isi_list_non  (h : Q (.bl false) H) : uIsi K .list [.non, .ty "list"] H Q := ⟨rfl, h⟩
theorem w_isi_tuple_int {m : Int} (h : Q (.bl false) H) : uIsi K .tuple [(.int m), .ty "tuple"] H Q := ⟨rfl, h⟩
theorem w_isi_tuple_bl {m : Bool} (h : Q (.bl false) H) : uIsi K .tuple [(.bl m), .ty "tuple"] H Q := ⟨rfl, h⟩
theorem w_isi_tuple_str {m : Str} (h : Q (.bl false) H) : uIsi K .tuple [(.str m), .ty "tuple"] H Q := ⟨rfl, h⟩
theorem w_isi_tuple_non  (h : Q (.bl false) H) : uIsi K .tuple [.non, .ty "tuple"] H Q := ⟨rfl, h⟩
theorem w_is_int {m : Int} (h : Q (.bl false) H) : uIs (.int m) .non H Q := h
theorem w_isnt_int {m : Int} (h : Q (.bl true) H) : uIsnt (.int m) .non H Q := h
theorem w_is_bl {m : Bool} (h : Q (.bl false) H) : uIs (.bl m) .non H Q := h
theorem w_isnt_bl {m : Bool} (h : Q (.bl true) H) : uIsnt (.bl m) .non H Q := h
theorem w_is_str {m : Str} (h : Q (.bl false) H) : uIs (.str m) .non H Q := h
theorem w_isnt_str {m : Str} (h : Q (.bl true) H) : uIsnt (.str m) .non H Q := h
theorem w_is_non  (h : Q (.bl true) H) : uIs .non .non H Q := h
theorem w_isnt_non  (h : Q (.bl false) H) : uIsnt .non .non H Q := h
theorem w_is_ref {m : Addr} (h : Q (.bl false) H) : uIs (.ref m) .non H Q := h
theorem w_isnt_ref {m : Addr} (h : Q (.bl true) H) : uIsnt (.ref m) .non H Q := h
theorem ifNT {A B : Prop} (h : B) : if (!true) = true then A else B := iteF h
theorem ifNF {A B : Prop} (h : A) : if (!false) = true then A else B := iteT h
theorem w_max {m n : Int} (h : Q (.int (if n > m then n else m)) H) : uMax K [.int m, .int n] H Q := h
theorem w_min {m n : Int} (h : Q (.int (if n < m then n else m)) H) : uMin K [.int m, .int n] H Q := h
theorem w_abs {m : Int} (h : Q (.int (if m < 0 then -m else m)) H) : uAbs [.int m] H Q := h
theorem w_intI {m : Int} (h : Q (.int m) H) : uInt [.int m] H Q := h
theorem w_intB {m : Bool} (h : Q (.int (if m then 1 else 0)) H) : uInt [.bl m] H Q := h
theorem w_lenL {p : Addr} {xs : List V} (e : SqL K H p xs) (h : Q (.int xs.length) H) : uLen K [.ref p] H Q := .inl ⟨xs, .inl e, h⟩
theorem w_lenT {p : Addr} {xs : List V} (e : SqT K H p xs) (h : Q (.int xs.length) H) : uLen K [.ref p] H Q := .inl ⟨xs, .inr e, h⟩
theorem w_ixL {p : Addr} {xs : List V} {n : Int} {k : Nat} (e : SqL K H p xs) (ek : n = (k : Int)) (ev : xs[k]? = some v) (h : Q v H) : uIx K (.ref p) (.int n) H Q := ⟨xs, v, .inl e, by rw [ek]; exact atI_nat ev, h⟩
theorem w_ixT {p : Addr} {xs : List V} {n : Int} {k : Nat} (e : SqT K H p xs) (ek : n = (k : Int)) (ev : xs[k]? = some v) (h : Q v H) : uIx K (.ref p) (.int n) H Q := ⟨xs, v, .inr e, by rw [ek]; exact atI_nat ev, h⟩
theorem w_app {p : Addr} {xs : List V} (e : H p = some (.lst xs)) (s : xs.length < sizeLine) (h : Q .non (upd H p (.lst (xs ++ [y])))) : rAppend (.ref p) [y] H Q := ⟨p, xs, y, rfl, rfl, e, s, h⟩
theorem w_ixI {p : Addr} {ns : List Int} {n : Int} (e : SqL K H p (ns.map V.int)) (h0 : 0 ≤ n ∧ n.toNat < ns.length) (h : Q (.int (ns.getD n.toNat 0)) H) : uIx K (.ref p) (.int n) H Q :=
  ⟨_, .int (ns.getD n.toNat 0), .inl e, by
    have z : (ns.map V.int)[n.toNat]? = some (.int (ns.getD n.toNat 0)) := by rw [List.getElem?_map, List.getElem?_eq_getElem h0.2, List.getD_eq_getElem?_getD, List.getElem?_eq_getElem h0.2]; rfl
    have y := atI_nat z
    rw [show ((n.toNat : Nat) : Int) = n by omega] at y
    exact y, h⟩
theorem w_ixTI {p : Addr} {ns : List Int} {n : Int} (e : SqT K H p (ns.map V.int)) (h0 : 0 ≤ n ∧ n.toNat < ns.length) (h : Q (.int (ns.getD n.toNat 0)) H) : uIx K (.ref p) (.int n) H Q :=
  ⟨_, .int (ns.getD n.toNat 0), .inr e, by
    have z : (ns.map V.int)[n.toNat]? = some (.int (ns.getD n.toNat 0)) := by rw [List.getElem?_map, List.getElem?_eq_getElem h0.2, List.getD_eq_getElem?_getD, List.getElem?_eq_getElem h0.2]; rfl
    have y := atI_nat z
    rw [show ((n.toNat : Nat) : Int) = n by omega] at y
    exact y, h⟩
theorem w_appI {p : Addr} {ns : List Int} {z : Int} (e : H p = some (.lst (ns.map V.int))) (s : ns.length < 10000000) (h : Q .non (upd H p (.lst ((ns ++ [z]).map V.int)))) : rAppend (.ref p) [.int z] H Q :=
  ⟨p, _, _, rfl, rfl, e, by rw [List.length_map]; exact Nat.lt_of_lt_of_le s (by decide), by rw [List.map_append] at h; exact h⟩
theorem w_gsub {to ti : TE} {ts : TSet} {N : L2.St → Hp → Prop} (h : to σ H fun o H1 => ti σ H1 fun i H2 => ts o i v H2 fun H3 => N σ H3) : gSub to ti ts v σ H N := h
theorem ixN_in {n : Nat} {k : Int} (h : 0 ≤ k ∧ k.toNat < n) : ixN n k = some k.toNat := by unfold ixN; rw [if_pos h.1, if_pos (by omega)]
theorem w_setL {p : Addr} {xs : List V} {k : Int} {N : Hp → Prop} (e : H p = some (.lst xs)) (h0 : 0 ≤ k ∧ k.toNat < xs.length) (h : N (upd H p (.lst (xs.set k.toNat y)))) : uSet (.ref p) (.int k) y H N := .inl ⟨xs, _, e, ixN_in h0, h⟩
theorem w_ixA {p : Addr} {xs : List V} {n : Int} (e : SqL K H p xs) (h0 : 0 ≤ n ∧ n.toNat < xs.length) (h : ∀ v, xs[n.toNat]? = some v → Q v H) : uIx K (.ref p) (.int n) H Q :=
  ⟨xs, xs[n.toNat]'h0.2, .inl e, by
    have y := atI_nat (List.getElem?_eq_getElem h0.2)
    rw [show ((n.toNat : Nat) : Int) = n by omega] at y
    exact y, h _ (List.getElem?_eq_getElem h0.2)⟩
theorem w_ttupL {p : Addr} {xs : List V} (e : SqL K H p xs) (h : ∀ l, H l = none → Q (.ref l) (upd H l (.tup xs))) : uTuple K [.ref p] H Q := ⟨xs, .inl ⟨e, h⟩⟩
def partQ (x : V) (H1 : Hp) (Q : Option Int → Hp → Prop) : Prop := ∃ i, x = .int i ∧ Q (some i) H1
theorem w_sl {rs : V → Option Int → Option Int → Hp → VK → Prop} {tl th : TO} (h : te σ H fun x H1 => tl σ H1 fun l H2 => th σ H2 fun u H3 => rs x l u H3 Q) : tSl rs te tl th σ H Q := h
theorem w_part {Q : Option Int → Hp → Prop} (h : te σ H fun x H1 => partQ x H1 Q) : tPart te σ H Q := h
theorem w_partI {Q : Option Int → Hp → Prop} {n : Int} (h : Q (some n) H) : partQ (.int n) H Q := ⟨n, rfl, h⟩
theorem w_noPart {Q : Option Int → Hp → Prop} (h : Q none H) : tNoPart σ H Q := h
theorem cut_take (xs : List V) (k : Nat) : cutV xs none (some (k : Int)) = xs.take k := by
  unfold cutV
  rw [HT.sIx_nat, HT.sIx_none, List.drop_zero, Nat.sub_zero, ← List.take_take, List.take_length]
theorem cut_drop (xs : List V) (k : Nat) : cutV xs (some (k : Int)) none = xs.drop k := by
  unfold cutV
  rw [HT.sIx_nat, HT.sIx_none]
  rcases Nat.le_total k xs.length with h | h
  · rw [Nat.min_eq_left h]; exact List.take_of_length_le (by rw [List.length_drop]; exact Nat.le_refl _)
  · rw [Nat.min_eq_right h, List.drop_length, List.drop_eq_nil_of_le h, List.take_nil]
theorem cut_mid (xs : List V) (i j : Nat) (h : i ≤ j) (hj : j ≤ xs.length) : cutV xs (some (i : Int)) (some (j : Int)) = (xs.drop i).take (j - i) := by
  unfold cutV
  rw [HT.sIx_nat, HT.sIx_nat, Nat.min_eq_left (Nat.le_trans h hj), Nat.min_eq_left hj]
theorem w_slL {p : Addr} {xs : List V} {lo hi : Option Int} (e : SqL K H p xs) (h : ∀ q, H q = none → Q (.ref q) (upd H q (.lst (cutV xs lo hi)))) : uSl K (.ref p) lo hi H Q := .inl ⟨p, xs, rfl, e, h⟩
theorem w_ixTl {p : Addr} {xs : List V} {n : Int} (e : SqT K H p xs) (ev : xs[n.toNat]? = some v) (h0 : 0 ≤ n) (h : Q v H) : uIx K (.ref p) (.int n) H Q := w_ixT (k := n.toNat) e (by omega) ev h
theorem w_ixLl {p : Addr} {xs : List V} {n : Int} (e : SqL K H p xs) (ev : xs[n.toNat]? = some v) (h0 : 0 ≤ n) (h : Q v H) : uIx K (.ref p) (.int n) H Q := w_ixL (k := n.toNat) e (by omega) ev h
theorem w_bm {T : String} {q : V → List V → Hp → VK → Prop} (h : te σ H fun x H1 => bmQ K T q tA σ x H1 Q) : tBM K T q te tA σ H Q := h
theorem w_bmL {q : V → List V → Hp → VK → Prop} {p : Addr} {xs : List V} (e : H p = some (.lst xs)) (h : tA σ H fun vs H2 => q (.ref p) vs H2 Q) : bmQ K "list" q tA σ (.ref p) H Q := ⟨.inl ⟨rfl, _, .inl (.inl e)⟩, h⟩
theorem w_bmS {q : V → List V → Hp → VK → Prop} {z : Str} (h : tA σ H fun vs H2 => q (.str z) vs H2 Q) : bmQ K "str" q tA σ (.str z) H Q := ⟨rfl, h⟩
theorem w_tlist {p : Addr} {xs : List V} (e : SqL K H p xs) (h : ∀ l, H l = none → Q (.ref l) (upd H l (.lst xs))) : uList K [.ref p] H Q := ⟨xs, .inl e, h⟩
theorem w_for {wi : TI} {tb : TS} (h : wi σ H fun J H1 => forQ g tb D σ J H1) : tFor wi g tb D σ H := h
theorem f_range {tb : TS} {lo : Int} {n : Nat} (Pv : Nat → L2.St → Hp → Prop) (h0 : Pv 0 σ H)
    (hs : ∀ i σ H, i < n → Pv i σ H → g (.int (lo + i)) σ H fun σ2 H2 => tb { D with nx := Pv (i + 1), ct := Pv (i + 1), bk := D.nx } σ2 H2) (hd : ∀ σ H, Pv n σ H → D.nx σ H) : forQ g tb D σ (Itr lo n) H := for_range Pv h0 hs hd
theorem f_list {tb : TS} {a : Addr} {xs : List V} (Pv : Nat → L2.St → Hp → Prop) (h0 : Pv 0 σ H) (hl : ∀ i σ H, i ≤ xs.length → Pv i σ H → SqL K H a xs)
    (hs : ∀ i x σ H, xs[i]? = some x → Pv i σ H → g x σ H fun σ2 H2 => tb { D with nx := Pv (i + 1), ct := Pv (i + 1), bk := D.nx } σ2 H2) (hd : ∀ σ H, Pv xs.length σ H → D.nx σ H) : forQ g tb D σ (Itl K a) H := for_list Pv h0 hl hs hd
/-- any source whose turns are told: J yields item i at turn i below n and leaves the heap -/
theorem f_any {tb : TS} {J : It} {n : Nat} {item : Nat → V → Prop} (Pv : Nat → L2.St → Hp → Prop) (h0 : Pv 0 σ H)
    (hgo : ∀ i σ H, i < n → Pv i σ H → J.go i H ∧ ∀ x H', J.yld i H x H' → H' = H ∧ item i x) (hst : ∀ σ H, Pv n σ H → J.stop n H)
    (hs : ∀ i x σ H, i < n → item i x → Pv i σ H → g x σ H fun σ2 H2 => tb { D with nx := Pv (i + 1), ct := Pv (i + 1), bk := D.nx } σ2 H2) (hd : ∀ σ H, Pv n σ H → D.nx σ H) : forQ g tb D σ J H := by
  refine ⟨fun i m σ H => m = n - i ∧ i ≤ n ∧ Pv i σ H, ⟨n, by simp, Nat.zero_le _, h0⟩, fun i m σ H q => ?_⟩
  obtain ⟨rfl, hi, p⟩ := q
  rcases Nat.lt_or_ge i n with hl | hl
  · obtain ⟨a, b⟩ := hgo i σ H hl p
    refine .inr ⟨a, Pv (i + 1), fun σ' H' p' => ⟨n - (i + 1), by omega, rfl, hl, p'⟩, fun x H' y => ?_⟩
    obtain ⟨rfl, c⟩ := b x H' y
    exact hs i x σ _ hl c p
  · obtain rfl : i = n := Nat.le_antisymm hi hl
    exact .inl ⟨hst σ H p, hd σ H p⟩
theorem w_rng1 {R : It → Hp → Prop} (h : tA σ H fun vs H1 => rng1Q vs H1 R) : iRng1 tA σ H R := h
theorem w_rng1v {R : It → Hp → Prop} {n : Int} (h1 : -(2 ^ 62) ≤ n) (h2 : n < 2 ^ 62) (h : R (Itr 0 n.toNat) H) : rng1Q [.int n] H R := ⟨n, rfl, h1, h2, h⟩
theorem w_rng2 {R : It → Hp → Prop} (h : tA σ H fun vs H1 => rng2Q vs H1 R) : iRng2 tA σ H R := h
theorem w_rng2v {R : It → Hp → Prop} {m n : Int} (h1 : -(2 ^ 62) ≤ m ∧ m < 2 ^ 62 ∧ -(2 ^ 62) ≤ n ∧ n < 2 ^ 62) (h : R (Itr m (n - m).toNat) H) : rng2Q [.int m, .int n] H R := ⟨m, n, rfl, h1, h⟩
theorem w_iList {R : It → Hp → Prop} (h : te σ H fun x H1 => listQ K x H1 R) : iList K te σ H R := h
theorem w_iListv {R : It → Hp → Prop} {p : Addr} {xs : List V} (e : SqL K H p xs) (h : R (Itl K p) H) : listQ K (.ref p) H R := ⟨p, rfl, ⟨xs, e⟩, h⟩
theorem w_iTup {R : It → Hp → Prop} (h : te σ H fun x H1 => tupQ K x H1 R) : iTup K te σ H R := h
theorem w_iTupv {R : It → Hp → Prop} {p : Addr} {xs : List V} (e : SqT K H p xs) (h : R (Itt K p) H) : tupQ K (.ref p) H R := ⟨p, rfl, ⟨xs, e⟩, h⟩
theorem w_iStr {R : It → Hp → Prop} (h : te σ H fun x H1 => strQ x H1 R) : iStr te σ H R := h
theorem w_iStrv {R : It → Hp → Prop} {z : Str} (h : R (Its z) H) : strQ (.str z) H R := ⟨z, rfl, h⟩
theorem w_iRev {R : It → Hp → Prop} (h : tA σ H fun vs H1 => revQ K vs H1 R) : iRev K tA σ H R := h
theorem w_iRevv {R : It → Hp → Prop} {p : Addr} {xs : List V} (e : SqL K H p xs) (h : R (Itv K p xs.length) H) : revQ K [.ref p] H R := ⟨p, xs, rfl, e, h⟩
theorem w_raise {C : Addr} (h : W (.ref C) none σ H) : uRaise C W D σ H := h
theorem w_fld {C : Addr} (h : te σ H fun x H1 => fldQ C f x H1 Q) : uFld C f te σ H Q := h
theorem w_fldv {C p dx : Addr} {fs : List (Str × V)} (e : H p = some (.ins C dx fs)) (l : fs.lookup f = some v) (h : Q v H) : fldQ C f (.ref p) H Q := ⟨p, dx, fs, v, rfl, e, l, h⟩
theorem w_meth {C : Addr} {m : Str} (h : te σ H fun x H1 => methQ C m sp W tA σ x H1 Q) : uMeth C m sp W te tA σ H Q := h
theorem w_methv {C p dx : Addr} {m : Str} {fs : List (Str × V)} (e : H p = some (.ins C dx fs)) (l : fs.lookup m = none) (h : tA σ H fun vs H2 => sp (.ref p :: vs) H2 Q fun c d H3 => W c d σ H3) : methQ C m sp W tA σ (.ref p) H Q := ⟨p, dx, fs, rfl, e, l, h⟩
theorem w_setf {C : Addr} (h : tv σ H fun y H1 => te σ H1 fun x H2 => setfQ C f x y H2 (D.nx σ)) : uSetF C f te tv D σ H := h
theorem w_setfv {C p dx : Addr} {fs fs' : List (Str × V)} {N : Hp → Prop} (e : H p = some (.ins C dx fs)) (l : fs.length < 1000) (e2 : putF f y fs = fs') (h : N (upd H p (.ins C dx fs'))) : setfQ C f (.ref p) y H N := ⟨p, dx, fs, rfl, e, l, by rw [e2]; exact h⟩
theorem ifP {p A B : Prop} [Decidable p] (h1 : p → A) (h2 : ¬ p → B) : if decide p = true then A else B := by
  by_cases h : p
  · rw [if_pos (decide_eq_true h)]; exact h1 h
  · rw [if_neg (by rw [decide_eq_false h]; decide)]; exact h2 h
theorem ifN {p A B : Prop} [Decidable p] (h2 : ¬ p → A) (h1 : p → B) : if (!decide p) = true then A else B := by
  by_cases h : p
  · rw [if_neg (by rw [decide_eq_true h]; decide)]; exact h1 h
  · rw [if_pos (by rw [decide_eq_false h]; rfl)]; exact h2 h
theorem ifB {A B : Prop} (h1 : b = true → A) (h2 : b = false → B) : if b = true then A else B := by
  cases b
  · rw [if_neg Bool.false_ne_true]; exact h2 rfl
  · rw [if_pos rfl]; exact h1 rfl
theorem ifBN {A B : Prop} (h1 : b = false → A) (h2 : b = true → B) : if (!b) = true then A else B := by
  cases b
  · exact iteT (h1 rfl)
  · exact iteF (h2 rfl)
end steps
section heaps
variable {K : PySem.W.Frag} {H H' : Hp} {p q : Addr} {o u : HO} {xs : List V}
theorem upd_old (h : H q = some u) (n : H p = none) : upd H p o q = some u := by rw [upd_ne (ne_of_none h n)]; exact h
theorem upd_oth (h : H q = some u) (n : q ≠ p) : upd H p o q = some u := by rw [upd_ne n]; exact h
theorem none_of_upd (h : upd H p o q = none) : H q = none ∧ q ≠ p := by
  unfold upd at h
  split at h
  · cases h
  · exact ⟨h, by assumption⟩
theorem rd_old (h : Rd H q u) (n : H p = none) : Rd (upd H p o) q u := by
  rcases h with h | ⟨o', h⟩
  · exact .inl (upd_old h n)
  · exact .inr ⟨o', upd_old h n⟩
theorem sql_old (h : SqL K H q xs) (n : H p = none) : SqL K (upd H p o) q xs := h.imp (fun h => rd_old h n) id
theorem sqt_old (h : SqT K H q xs) (n : H p = none) : SqT K (upd H p o) q xs := h.imp (fun h => rd_old h n) id
/-- a tuple is never the thing that is written -/
theorem sqt_wr {w : HO} (h : SqT K H q xs) (hw : H p = some w) (n : ∀ ys, w ≠ .tup ys) (n2 : ∀ ob ys, w ≠ .frz ob ys) : SqT K (upd H p o) q xs := by
  refine h.imp (fun h => ?_) id
  rcases h with h | ⟨o', h⟩
  · exact .inl (upd_oth h fun e => by subst e; rw [hw] at h; exact n _ (Option.some.inj h))
  · exact .inr ⟨o', upd_oth h fun e => by subst e; rw [hw] at h; exact n2 _ _ (Option.some.inj h)⟩
theorem same_new (n : H p = none) : Same H (upd H p o) := fun b w h => upd_old h n
theorem same_upd {H1 : Hp} (s : Same H H1) (n : H p = none) : Same H (upd H1 p o) := fun b w h => by rw [upd_ne (ne_of_none h n)]; exact s b w h
theorem same_updN {H1 : Hp} (s : Same H H1) (n : H1 p = none) : Same H (upd H1 p o) := fun b w h => upd_old (s b w h) n
theorem Same.sqt (e : Same H H') (h : SqT K H q xs) : SqT K H' q xs := by
  rcases h with (h | ⟨o, h⟩) | h
  · exact .inl (.inl (e _ _ h))
  · exact .inl (.inr ⟨o, e _ _ h⟩)
  · exact .inr h
end heaps
section steps2
variable {K : PySem.W.Frag} {σ : L2.St} {H : Hp} {Q : VK} {C p : Addr} {sp : Sp} {W : WX} {t : TA} {te td ty tv : TE} {x y v : V} {kvs : List (Key × V)} {i : Int} {N : L2.St → Hp → Prop}
def mkQ (C : Addr) (sp : Sp) (W : WX) (σ : L2.St) (vs : List V) (H1 : Hp) (Q : VK) : Prop := ∀ x dx, H1 x = none → H1 dx = none → dx ≠ x → sp (.ref x :: vs) (upd (upd H1 dx (.own x)) x (.ins C dx [])) (fun v H2 => v = .non ∧ Q (.ref x) H2) fun c d H2 => W c d σ H2
theorem w_make (h : t σ H fun vs H1 => mkQ C sp W σ vs H1 Q) : uMake C sp W t σ H Q := h
def dgQ (x y : V) (H : Hp) (Q : VK) : Prop := ∃ a v, x = .ref a ∧ DGet H a y (some v) ∧ Q v H
theorem w_dget (h : td σ H fun x H1 => ty σ H1 fun y H2 => dgQ x y H2 Q) : tDGet td ty σ H Q := h
theorem w_dgetI (e : H p = some (.dK kvs)) (l : valV kvs (.inl i) = some v) (h : Q v H) : dgQ (.ref p) (.int i) H Q := ⟨p, v, rfl, by have z := DGet.k (k := .inl i) e; rw [l] at z; exact z, h⟩
theorem w_inD (e : H p = some (.dK kvs)) (h : Q (.bl (valV kvs (.inl i)).isSome) H) : uIn K (.int i) (.ref p) H Q := .inr ⟨_, DGet.k (k := .inl i) e, h⟩
theorem w_ninD (e : H p = some (.dK kvs)) (h : Q (.bl (!(valV kvs (.inl i)).isSome)) H) : uNin K (.int i) (.ref p) H Q := .inr ⟨_, DGet.k (k := .inl i) e, h⟩
def dpQ (x y v : V) (H : Hp) (N : Hp → Prop) : Prop := ∃ a H4, x = .ref a ∧ DPut H a y v H4 ∧ N H4
theorem w_dput {D : Ends} (h : tv σ H fun v H1 => td σ H1 fun x H2 => ty σ H2 fun y H3 => dpQ x y v H3 (D.nx σ)) : sDPut td ty tv D σ H := h
theorem w_dputI {M : Hp → Prop} (e : H p = some (.dK kvs)) (l : kvs.length < 10000000) (h : M (upd H p (.dK (putK kvs (.inl i) v)))) : dpQ (.ref p) (.int i) v H M := ⟨p, _, rfl, DPut.k (k := .inl i) e (Nat.lt_of_lt_of_le l (by decide)), h⟩
theorem w_newD (h : ∀ p, H p = none → Q (.ref p) (upd H p (.dK []))) : tDNewK σ H Q := h
/-- a list times a number -/
theorem w_rep {xs : List V} {k : Int} (e : H p = some (.lst xs)) (h0 : 0 ≤ k) (h1 : k ≤ 100000) (h2 : xs.length ≤ 100) (h : ∀ q, H q = none → Q (.ref q) (upd H q (.lst (List.replicate k.toNat xs).flatten))) : uMul (.ref p) (.int k) H Q := by
  refine ⟨p, k, xs, rfl, rfl, e, by omega, by omega, ?_, h⟩
  have h3 : k.toNat ≤ 100000 := by omega
  have h4 : xs.length * k.toNat ≤ 100 * 100000 := Nat.mul_le_mul h2 h3
  exact Nat.le_trans h4 (by decide)
theorem rep1 (n : Nat) (z : Int) : (List.replicate n [V.int z]).flatten = (List.replicate n z).map V.int := by
  induction n with
  | zero => rfl
  | succ n ih => rw [List.replicate_succ, List.flatten_cons, ih, List.replicate_succ, List.map_cons]; rfl
theorem w_rep1 {z k : Int} (e : H p = some (.lst [.int z])) (h0 : 0 ≤ k) (h1 : k ≤ 100000) (h : ∀ q, H q = none → Q (.ref q) (upd H q (.lst ((List.replicate k.toNat z).map V.int)))) : uMul (.ref p) (.int k) H Q :=
  w_rep e h0 h1 (by simp) fun q hq => by rw [rep1]; exact h q hq
theorem w_gtup2 {a : Addr} {u : TGs} (e : SqT K H a [x, y]) (h : u [x, y] σ H N) : gTup K 2 u (.ref a) σ H N := ⟨a, _, rfl, e, rfl, h⟩
theorem w_gtup3 {a : Addr} {u : TGs} {z : V} (e : SqT K H a [x, y, z]) (h : u [x, y, z] σ H N) : gTup K 3 u (.ref a) σ H N := ⟨a, _, rfl, e, rfl, h⟩
theorem w_gtup4 {a : Addr} {u : TGs} {z w : V} (e : SqT K H a [x, y, z, w]) (h : u [x, y, z, w] σ H N) : gTup K 4 u (.ref a) σ H N := ⟨a, _, rfl, e, rfl, h⟩
theorem w_gcons {g : TG} {u : TGs} {r : List V} (h : g v σ H fun σ' H' => u r σ' H' N) : gCons g u (v :: r) σ H N := ⟨v, r, rfl, h⟩
theorem w_gnil (h : N σ H) : gNil [] σ H N := ⟨rfl, h⟩
def augQ (C : Addr) (f : Str) (r : V → V → Hp → VK → Prop) (tv : TE) (D : Ends) (σ : L2.St) (x : V) (H1 : Hp) : Prop := ∃ a dx fs v, x = .ref a ∧ H1 a = some (.ins C dx fs) ∧ fs.lookup f = some v ∧
  tv σ H1 fun y H2 => r v y H2 fun z H3 => ∃ dx' fs', H3 a = some (.ins C dx' fs') ∧ fs'.length < 1000 ∧ D.nx σ (upd H3 a (.ins C dx' (putF f z fs')))
theorem w_augf {D : Ends} {f : Str} {r : V → V → Hp → VK → Prop} (h : te σ H fun x H1 => augQ C f r tv D σ x H1) : uAugF C f r te tv D σ H := h
theorem w_augsub {D : Ends} {f : Str} {dx : Addr} {fs : List (Str × V)} {i j : Int} (e : H p = some (.ins C dx fs)) (l : fs.lookup f = some (.int i)) (s : fs.length < 1000) (h : D.nx σ (upd H p (.ins C dx (putF f (.int (i - j)) fs)))) : augQ C f rSub (tC (.int j)) D σ (.ref p) H :=
  ⟨p, dx, fs, _, rfl, e, l, i, j, rfl, rfl, dx, fs, e, s, h⟩
theorem w_augadd {D : Ends} {f : Str} {dx : Addr} {fs : List (Str × V)} {i j : Int} (e : H p = some (.ins C dx fs)) (l : fs.lookup f = some (.int i)) (s : fs.length < 1000) (h : D.nx σ (upd H p (.ins C dx (putF f (.int (i + j)) fs)))) : augQ C f rAdd (tC (.int j)) D σ (.ref p) H :=
  ⟨p, dx, fs, _, rfl, e, l, i, j, rfl, rfl, dx, fs, e, s, h⟩
end steps2
section whiles
variable {D : Ends} {σ : L2.St} {H : Hp} {c : TT} {tb : TS}
def whQ (P : L2.St → Hp → Prop) (μ : L2.St → Hp → Nat) (m : Nat) (tb : TS) (D : Ends) (σ : L2.St) (H : Hp) : Prop :=
  ∃ N : L2.St → Hp → Prop, (∀ σ' H', N σ' H' → ∃ m', m' < m ∧ (m' = μ σ' H' ∧ P σ' H')) ∧ tb { D with nx := N, ct := N, bk := D.nx } σ H
theorem f_while (P : L2.St → Hp → Prop) (μ : L2.St → Hp → Nat) (h0 : P σ H) (hs : ∀ σ H, P σ H → c σ H fun b H1 => if b = true then whQ P μ (μ σ H) tb D σ H1 else D.nx σ H1) : tWhile c tb D σ H := by
  refine ⟨fun m σ H => m = μ σ H ∧ P σ H, ⟨_, rfl, h0⟩, fun m σ H q => ?_⟩
  obtain ⟨rfl, p⟩ := q
  exact hs σ H p
theorem w_wh {P : L2.St → Hp → Prop} {μ : L2.St → Hp → Nat} {m : Nat} (h : tb { D with nx := fun σ' H' => P σ' H' ∧ μ σ' H' < m, ct := fun σ' H' => P σ' H' ∧ μ σ' H' < m, bk := D.nx } σ H) : whQ P μ m tb D σ H := ⟨_, fun _ _ n => ⟨_, n.2, rfl, n.1⟩, h⟩
end whiles
section data
variable {K : PySem.W.Frag} {H : Hp} {Q : VK} {α β : Type} [DecidableEq α] [PySem.W.Datum α] [DecidableEq β] [PySem.W.Datum β]
def Dt (K : PySem.W.Frag) (H : Hp) (v : V) (a : α) : Prop := Dp K H v (PySem.W.Datum.toD a)
def DtAll (K : PySem.W.Frag) (H : Hp) (vs : List V) (as : List α) : Prop := DpAll K H vs (as.map PySem.W.Datum.toD)
theorem Dt.int {i : Int} : Dt K H (.int i) i := Dp.int i
theorem Dt.bl {i : Bool} : Dt K H (.bl i) i := Dp.bl i
theorem Dt.str {i : Str} : Dt K H (.str i) i := Dp.str i
theorem Dt.list {p : Addr} {vs : List V} {as : List α} (e : SqL K H p vs) (h : DtAll K H vs as) : Dt K H (.ref p) as := Dp.lst e h
theorem Dt.tup {p : Addr} {vs : List V} {as : List α} (e : SqT K H p vs) (h : DtAll K H vs as) : Dt K H (.ref p) (PySem.W.Tup.mk as) := Dp.tup e h
theorem Dt.pair {p : Addr} {x y : V} {a : α} {b : β} (e : SqT K H p [x, y]) (h1 : Dt K H x a) (h2 : Dt K H y b) : Dt K H (.ref p) (a, b) := Dp.tup e (DpAll.cons h1 (DpAll.cons h2 DpAll.nil))
theorem DtAll.nil : DtAll K H [] ([] : List α) := DpAll.nil
theorem DtAll.cons {v : V} {vs : List V} {a : α} {as : List α} (h : Dt K H v a) (hs : DtAll K H vs as) : DtAll K H (v :: vs) (a :: as) := DpAll.cons h hs
theorem DtAll.ints : ∀ (ns : List Int), DtAll K H (ns.map V.int) ns
  | [] => DpAll.nil
  | _ :: ns => DpAll.cons (Dp.int _) (DtAll.ints ns)
theorem DtAll.get : ∀ {vs : List V} {as : List α} {i : Nat} {v : V}, DtAll K H vs as → vs[i]? = some v → ∃ a, as[i]? = some a ∧ Dt K H v a
  | [], [], _, _, _, e => by cases e
  | [], _ :: _, _, _, h, _ => by cases h
  | _ :: _, [], _, _, h, _ => by cases h
  | _ :: _, a :: as, 0, v, h, e => by
    cases h with
    | cons h1 h2 => cases e; exact ⟨a, rfl, h1⟩
  | _ :: _, _ :: _, i + 1, v, h, e => by
    cases h with
    | cons h1 h2 => exact DtAll.get (i := i) h2 e
theorem DtAll.length : ∀ {vs : List V} {as : List α}, DtAll K H vs as → vs.length = as.length
  | [], [], _ => rfl
  | [], _ :: _, h => by cases h
  | _ :: _, [], h => by cases h
  | _ :: vs, _ :: as, h => by
    cases h with
    | cons h1 h2 => rw [List.length_cons, List.length_cons, DtAll.length h2]
theorem DtAll.append : ∀ {vs ws : List V} {as bs : List α}, DtAll K H vs as → DtAll K H ws bs → DtAll K H (vs ++ ws) (as ++ bs)
  | [], _, [], _, _, k => k
  | [], _, _ :: _, _, h, _ => by cases h
  | _ :: _, _, [], _, h, _ => by cases h
  | _ :: _, _, _ :: _, _, h, k => by
    cases h with
    | cons h1 h2 => exact DpAll.cons h1 (DtAll.append h2 k)
theorem w_eqD {x y : V} {a b : α} (h1 : Dt K H x a) (h2 : Dt K H y b) (hd : PySem.W.Datum.depth α ≤ 60) (hx : ∃ p, x = .ref p) (h : Q (.bl (decide (a = b))) H) : uEq K x y H Q := by
  obtain ⟨p, rfl⟩ := hx
  have z : rEqP K (.ref p) y H Q := ⟨_, _, h1, h2, ⟨PySem.W.Datum.plain a, Nat.le_trans (PySem.W.Datum.depth_le a) hd⟩, PySem.W.Datum.plain b, by rw [PySem.W.Datum.eqv]; exact h⟩
  unfold uEq; exact .inr z
theorem w_neD {x y : V} {a b : α} (h1 : Dt K H x a) (h2 : Dt K H y b) (hd : PySem.W.Datum.depth α ≤ 60) (hx : ∃ p, x = .ref p) (h : Q (.bl (!decide (a = b))) H) : uNe K x y H Q := by
  obtain ⟨p, rfl⟩ := hx
  have z : rNeP K (.ref p) y H Q := ⟨_, _, h1, h2, ⟨PySem.W.Datum.plain a, Nat.le_trans (PySem.W.Datum.depth_le a) hd⟩, PySem.W.Datum.plain b, by rw [PySem.W.Datum.eqv]; exact h⟩
  unfold uNe; exact .inr z
mutual
theorem Dp.same {H' : Hp} (s : Same H H') : ∀ {d : PyData} {v : V}, Dp K H v d → Dp K H' v d
  | .none, _, h => by cases h; exact .non
  | .bool _, _, h => by cases h; exact .bl _
  | .int _, _, h => by cases h; exact .int _
  | .str _, _, h => by cases h; exact .str _
  | .list _, _, h => by
    cases h with
    | lst e a => exact .lst (s.seq e) (DpAll.same s a)
  | .tuple _, _, h => by
    cases h with
    | tup e a =>
      refine .tup ?_ (DpAll.same s a)
      rcases e with (e | ⟨o, e⟩) | e
      · exact .inl (.inl (s _ _ e))
      · exact .inl (.inr ⟨o, s _ _ e⟩)
      · exact .inr e
  | .dict _, _, h => by cases h
theorem DpAll.same {H' : Hp} (s : Same H H') : ∀ {ds : List PyData} {vs : List V}, DpAll K H vs ds → DpAll K H' vs ds
  | [], _, h => by cases h; exact .nil
  | _ :: _, _, h => by
    cases h with
    | cons h1 h2 => exact .cons (Dp.same s h1) (DpAll.same s h2)
end
theorem Dt.same {H' : Hp} (s : Same H H') {v : V} {a : α} (h : Dt K H v a) : Dt K H' v a := Dp.same s h
theorem DtAll.same {H' : Hp} (s : Same H H') {vs : List V} {as : List α} (h : DtAll K H vs as) : DtAll K H' vs as := DpAll.same s h
end data
section tups
variable {K : PySem.W.Frag} {H : Hp}
mutual
def tupOnly : PyData → Bool
  | .list _ => false
  | .dict _ => false
  | .tuple ds => tupOnlyAll ds
  | _ => true
def tupOnlyAll : List PyData → Bool
  | [] => true
  | d :: ds => tupOnly d && tupOnlyAll ds
end
mutual
theorem Dp.wr {p : Addr} {w o : HO} (hw : H p = some w) (n : ∀ ys, w ≠ .tup ys) (n2 : ∀ ob ys, w ≠ .frz ob ys) : ∀ {d : PyData} {v : V}, tupOnly d = true → Dp K H v d → Dp K (upd H p o) v d
  | .none, _, _, h => by cases h; exact .non
  | .bool _, _, _, h => by cases h; exact .bl _
  | .int _, _, _, h => by cases h; exact .int _
  | .str _, _, _, h => by cases h; exact .str _
  | .list _, _, t, _ => by simp [tupOnly] at t
  | .tuple ds, _, t, h => by
    cases h with
    | tup e a => exact .tup (sqt_wr e hw n n2) (DpAll.wr hw n n2 (by simpa [tupOnly] using t) a)
  | .dict _, _, _, h => by cases h
theorem DpAll.wr {p : Addr} {w o : HO} (hw : H p = some w) (n : ∀ ys, w ≠ .tup ys) (n2 : ∀ ob ys, w ≠ .frz ob ys) : ∀ {ds : List PyData} {vs : List V}, tupOnlyAll ds = true → DpAll K H vs ds → DpAll K (upd H p o) vs ds
  | [], _, _, h => by cases h; exact .nil
  | d :: ds, _, t, h => by
    have t' := Bool.and_eq_true_iff.mp (show (tupOnly d && tupOnlyAll ds) = true by simpa [tupOnlyAll] using t)
    cases h with
    | cons h1 h2 => exact .cons (Dp.wr hw n n2 t'.1 h1) (DpAll.wr hw n n2 t'.2 h2)
end
end tups
section comps
variable {K : PySem.W.Frag} {σ : L2.St} {H1 : Hp} {Q : VK} {g : TG} {tt : TT} {te : TE} {vs : List Nat}
def lcQ (g : TG) (tt : TT) (te : TE) (vs : List Nat) (σ : L2.St) (J : It) (H1 : Hp) (Q : VK) : Prop := ∀ D, H1 D = none → ∃ W : Nat → Nat → Hp → Prop, (∃ m, W 0 m (upd H1 D (.lst []))) ∧ ∀ i m H, W i m H →
  (J.stop i H ∧ Q (.ref D) H) ∨ (J.go i H ∧ ∃ Nx : Hp → Prop, (∀ H', Nx H' → ∃ m', m' < m ∧ W (i + 1) m' H') ∧ ∀ x H', J.yld i H x H' → g x (wipe σ vs) H' fun σ2 H2 => wipe σ2 vs = wipe σ vs ∧ tt σ2 H2 fun b H3 =>
    if b = true then te σ2 H3 fun y H4 => ∃ acc, H4 D = some (.lst acc) ∧ acc.length < sizeLine ∧ Nx (upd H4 D (.lst (acc ++ [y]))) else Nx H3)
theorem w_lc {wi : TI} (h : wi σ H1 fun J H2 => lcQ g tt te vs σ J H2 Q) : tLc wi g tt te vs σ H1 Q := h
theorem w_yes {QB : Bool → Hp → Prop} (h : QB true H1) : tYes σ H1 QB := h
/-- what a turn of a comprehension wants: the new item, put behind the list at D -/
def putQ (D : Addr) (N : Hp → Prop) (y : V) (H4 : Hp) : Prop := ∃ acc, H4 D = some (.lst acc) ∧ acc.length < sizeLine ∧ N (upd H4 D (.lst (acc ++ [y])))
/-- a comprehension over anything that yields by its place, P the heap between the turns -/
theorem l_any {J : It} {n : Nat} {item : Nat → V → Prop} (P : Addr → Nat → Hp → Prop) (h0 : ∀ D, H1 D = none → P D 0 (upd H1 D (.lst [])))
    (hgo : ∀ D i H, H1 D = none → i < n → P D i H → J.go i H ∧ ∀ x H', J.yld i H x H' → H' = H ∧ item i x) (hst : ∀ D H, H1 D = none → P D n H → J.stop n H)
    (hs : ∀ D i x H, H1 D = none → i < n → item i x → P D i H → g x (wipe σ vs) H fun σ2 H2 => wipe σ2 vs = wipe σ vs ∧ tt σ2 H2 fun b H3 => if b = true then te σ2 H3 (putQ D (P D (i + 1))) else P D (i + 1) H3)
    (hd : ∀ D H, H1 D = none → P D n H → Q (.ref D) H) : lcQ g tt te vs σ J H1 Q := by
  intro D hD
  refine ⟨fun i m H => m = n - i ∧ i ≤ n ∧ P D i H, ⟨n, by simp, Nat.zero_le _, h0 D hD⟩, fun i m H q => ?_⟩
  obtain ⟨rfl, hi, p⟩ := q
  rcases Nat.lt_or_ge i n with hl | hl
  · obtain ⟨a, b⟩ := hgo D i H hD hl p
    refine .inr ⟨a, P D (i + 1), fun H' p' => ⟨n - (i + 1), by omega, rfl, hl, p'⟩, fun x H' y => ?_⟩
    obtain ⟨rfl, c⟩ := b x H' y
    exact hs D i x _ hD hl c p
  · obtain rfl : i = n := Nat.le_antisymm hi hl
    exact .inl ⟨hst D H hD p, hd D H hD p⟩
theorem l_range {lo : Int} {n : Nat} (P : Addr → Nat → Hp → Prop) (h0 : ∀ D, H1 D = none → P D 0 (upd H1 D (.lst [])))
    (hs : ∀ D i H, H1 D = none → i < n → P D i H → g (.int (lo + (i : Nat))) (wipe σ vs) H fun σ2 H2 => wipe σ2 vs = wipe σ vs ∧ tt σ2 H2 fun b H3 => if b = true then te σ2 H3 (putQ D (P D (i + 1))) else P D (i + 1) H3)
    (hd : ∀ D H, H1 D = none → P D n H → Q (.ref D) H) : lcQ g tt te vs σ (Itr lo n) H1 Q :=
  l_any (n := n) (item := fun i x => x = .int (lo + (i : Nat))) P h0 (fun _ i _ _ h _ => ⟨h, fun _ _ y => y⟩) (fun _ _ _ _ => Nat.le_refl _) (fun D i x H a b c p => by rw [c]; exact hs D i H a b p) hd
theorem l_list {a : Addr} {xs : List V} (P : Addr → Nat → Hp → Prop) (h0 : ∀ D, H1 D = none → P D 0 (upd H1 D (.lst []))) (hl : ∀ D i H, H1 D = none → P D i H → SqL K H a xs)
    (hs : ∀ D i x H, H1 D = none → xs[i]? = some x → P D i H → g x (wipe σ vs) H fun σ2 H2 => wipe σ2 vs = wipe σ vs ∧ tt σ2 H2 fun b H3 => if b = true then te σ2 H3 (putQ D (P D (i + 1))) else P D (i + 1) H3)
    (hd : ∀ D H, H1 D = none → P D xs.length H → Q (.ref D) H) : lcQ g tt te vs σ (Itl K a) H1 Q :=
  l_any (n := xs.length) (item := fun i x => xs[i]? = some x) P h0 (fun D i H hD h p => ⟨⟨xs, xs[i], hl D i H hD p, List.getElem?_eq_getElem h⟩, fun x H' y => ⟨y.1, y.2 xs (hl D i H hD p)⟩⟩)
    (fun D H hD p => ⟨xs, hl D _ H hD p, Nat.le_refl _⟩) (fun D i x H a b c p => hs D i x H a c p) hd
end comps
section texts
/-- the text of these signs -/
def tx (l : List Nat) : Str := ⟨l.toArray⟩
theorem tx_list (l : List Nat) : (tx l).cps.toList = l := rfl
theorem tx_len (l : List Nat) : (tx l).length = l.length := by unfold tx Str.length; exact List.size_toArray
theorem tx_app (l m : List Nat) : tx l ++ tx m = tx (l ++ m) := PySem.Str.ext' (by rw [PySem.Str.cps_append]; exact Array.toList_inj.mp (by rw [Array.toList_append]; rfl))
theorem tx_inj {l m : List Nat} : tx l = tx m ↔ l = m := ⟨fun h => by have := congrArg (fun z : Str => z.cps.toList) h; exact this, fun h => by rw [h]⟩
theorem cut_tk (l : List Nat) (k : Nat) : cutS (tx l) none (some (k : Int)) = tx (l.take k) := by
  unfold cutS
  rw [tx_len, HT.sIx_nat, HT.sIx_none, List.drop_zero, Nat.sub_zero, tx_list, ← List.take_take, List.take_length]
  rfl
theorem cut_dp (l : List Nat) (k : Nat) : cutS (tx l) (some (k : Int)) none = tx (l.drop k) := by
  unfold cutS
  rw [tx_len, HT.sIx_nat, HT.sIx_none, tx_list]
  rcases Nat.le_total k l.length with h | h
  · rw [Nat.min_eq_left h, List.take_of_length_le (by rw [List.length_drop]; exact Nat.le_refl _)]; rfl
  · rw [Nat.min_eq_right h, List.drop_length, List.drop_eq_nil_of_le h, List.take_nil]; rfl
theorem fold_rep (c : Nat) : ∀ (n : Nat) (a : Array Nat), (List.replicate n #[c]).foldl (· ++ ·) a = a ++ (List.replicate n c).toArray
  | 0, a => by simp
  | n + 1, a => by
    rw [List.replicate_succ, List.foldl_cons, fold_rep c n]
    apply Array.toList_inj.mp
    simp [List.replicate_succ]
theorem mul_one (c : Nat) (n : Nat) : Txt.mul (tx [c]) (n : Int) = tx (List.replicate n c) := by
  unfold Txt.mul
  by_cases h : (n : Int) < 1
  · rw [if_pos h]; obtain rfl : n = 0 := by omega
    rfl
  · rw [if_neg h]
    by_cases h2 : ((n : Int) == 1 || (tx [c]).length == 0) = true
    · rw [if_pos h2]
      have : (n : Int) = 1 := by
        rcases Bool.or_eq_true_iff.mp h2 with h2 | h2
        · exact eq_of_beq h2
        · cases h2
      obtain rfl : n = 1 := by omega
      rfl
    · rw [if_neg h2, Int.toNat_natCast]
      exact PySem.Str.ext' (by show (List.replicate n #[c]).foldl (· ++ ·) #[] = _; rw [fold_rep]; simp [tx])
theorem mulOk_one (c : Nat) {n : Int} (h0 : 0 ≤ n) (h1 : n ≤ 100000) : MulOk (tx [c]) n := by
  have e : (tx [c]).length = 1 := rfl
  refine ⟨?_, fun h _ => ?_, fun h _ => ?_⟩
  · rw [decide_eq_false (by omega), decide_eq_false (by omega)]; rfl
  · rw [e]
    have : (1 : Int) ≤ (2 ^ 63 - 1) / n := Int.le_ediv_of_mul_le (by omega) (by omega)
    omega
  · rw [e]; unfold Builtin.Str.tooLong
    rw [decide_eq_false]
    have : (100000 : Nat) ≤ sizeLine := by decide
    omega
/-- the first place of a sign in a text, or -1 -/
def ixc (l : List Nat) (c : Nat) : Int := if c ∈ l then (l.idxOf c : Int) else -1
theorem tx_find (l : List Nat) (c : Nat) : Txt.find (tx l) (tx [c]) = ixc l c := by
  unfold Txt.find ixc
  have key : ∀ i, PySem.StrLaws.At (tx l) (tx [c]) (tx l).length i ↔ l[i]? = some c := fun i => PySem.StrLaws.subAt_one (tx l) c i
  rcases PySem.StrLaws.occ_head (tx l) (tx [c]) 1 (Nat.le_refl 1) with ⟨e, hn⟩ | ⟨i, r, e, ha, hn⟩
  · rw [e, if_neg]
    intro hm
    obtain ⟨i, hi⟩ := List.getElem?_of_mem hm
    exact hn i ((key i).mpr hi)
  · rw [e]
    have hi := (key i).mp ha
    rw [if_pos (List.mem_of_getElem? hi)]
    have hl : i < l.length := (List.getElem?_eq_some_iff.mp hi).1
    have hg : l[i] = c := (List.getElem?_eq_some_iff.mp hi).2
    have h1 : l.idxOf c < l.length := List.idxOf_lt_length_iff.mpr (List.mem_of_getElem? hi)
    have h2 : l[l.idxOf c] = c := List.getElem_idxOf h1
    have h3 : ¬ l.idxOf c < i := fun q => hn _ q ((key _).mpr (by rw [List.getElem?_eq_getElem h1, h2]))
    have h4 : ¬ i < l.idxOf c := fun q => by
      have := List.not_of_lt_findIdx (p := (· == c)) (xs := l) (i := i) q
      simp [hg] at this
    have : l.idxOf c = i := by omega
    rw [this]
theorem cnt_eq (c : Nat) : ∀ l : List Nat, PyProof.Rows.cnt c l = (l.count c : Nat)
  | [] => rfl
  | n :: l => by
    rw [PyProof.Rows.cnt_cons, cnt_eq c l, List.count_cons]
    by_cases h : n = c
    · subst h; simp; omega
    · simp [h]
theorem tx_count (l : List Nat) (c : Nat) : Txt.count (tx l) (tx [c]) = (l.count c : Nat) := (PyProof.Rows.count_is (tx l) c).trans (cnt_eq c l)
end texts
section textsteps
variable {X : Cx} {K : PySem.W.Frag} {H : Hp} {Q : VK} {l m : List Nat} {c : Nat} {n : Int}
def uFind : V → List V → Hp → VK → Prop := fun x xs H Q => match x, xs with
  | .str a, [.str b] => Q (.int (Txt.find a b)) H
  | _, _ => False
def uCount : V → List V → Hp → VK → Prop := fun x xs H Q => match x, xs with
  | .str a, [.str b] => Q (.int (Txt.count a b)) H
  | _, _ => False
theorem w_addX (s : l.length + m.length ≤ 100000) (h : Q (.str (tx (l ++ m))) H) : uAdd K (.str (tx l)) (.str (tx m)) H Q := ⟨by rw [tx_len, tx_len]; exact small9 s, by rw [tx_app]; exact h⟩
theorem w_mulX (h0 : 0 ≤ n) (h1 : n ≤ 100000) (h : Q (.str (tx (List.replicate n.toNat c))) H) : uMul (.str (tx [c])) (.int n) H Q := by
  obtain ⟨k, rfl⟩ := Int.eq_ofNat_of_zero_le h0
  exact ⟨mulOk_one c h0 h1, by rw [mul_one]; exact h⟩
theorem w_lenX (s : l.length ≤ 100000) (h : Q (.int l.length) H) : uLen K [.str (tx l)] H Q := ⟨by rw [tx_len]; exact small9 s, by rw [tx_len]; exact h⟩
theorem w_truX {QB : Bool → Hp → Prop} (s : l.length ≤ 100000) (h : QB (!decide (l.length = 0)) H) : truV K (.str (tx l)) H QB := ⟨by rw [tx_len]; exact small9 s, by rw [tx_len]; exact h⟩
theorem d_tx : decide (tx l = tx m) = decide (l = m) := decide_eq_decide.mpr tx_inj
theorem w_eqX (h : Q (.bl (decide (l = m))) H) : uEq K (.str (tx l)) (.str (tx m)) H Q := by
  rw [← d_tx] at h; exact h
theorem w_neX (h : Q (.bl (!decide (l = m))) H) : uNe K (.str (tx l)) (.str (tx m)) H Q := by
  rw [← d_tx] at h; exact h
theorem w_tkX (s : l.length ≤ 100000) (h0 : 0 ≤ n) (h : Q (.str (tx (l.take n.toNat))) H) : uSl K (.str (tx l)) none (some n) H Q := by
  obtain ⟨k, rfl⟩ := Int.eq_ofNat_of_zero_le h0
  exact .inr (.inr ⟨_, rfl, by rw [tx_len]; exact small9 s, by rw [cut_tk]; exact h⟩)
theorem w_dpX (s : l.length ≤ 100000) (h0 : 0 ≤ n) (h : Q (.str (tx (l.drop n.toNat))) H) : uSl K (.str (tx l)) (some n) none H Q := by
  obtain ⟨k, rfl⟩ := Int.eq_ofNat_of_zero_le h0
  exact .inr (.inr ⟨_, rfl, by rw [tx_len]; exact small9 s, by rw [cut_dp]; exact h⟩)
theorem w_ixX (s : l.length ≤ 100000) (h0 : 0 ≤ n ∧ n.toNat < l.length) (h : Q (.str (tx [l.getD n.toNat 0])) H) : uIx K (.str (tx l)) (.int n) H Q := by
  refine ⟨by rw [tx_len]; exact small9 s, l.getD n.toNat 0, ?_, h⟩
  have y := atI_nat (show l[n.toNat]? = some (l.getD n.toNat 0) by rw [List.getD_eq_getElem?_getD, List.getElem?_eq_getElem h0.2]; rfl)
  rw [show ((n.toNat : Nat) : Int) = n by omega] at y
  exact y
theorem w_findX (h : Q (.int (ixc l c)) H) : uFind (.str (tx l)) [.str (tx [c])] H Q := by
  rw [← tx_find] at h; exact h
theorem w_countX (h : Q (.int ((l.count c : Nat) : Int)) H) : uCount (.str (tx l)) [.str (tx [c])] H Q := by
  rw [← tx_count] at h; exact h
end textsteps
section steps3
variable {X : Cx} {K : PySem.W.Frag} {H H' H0 : Hp} {Q : VK} {p q : Addr} {xs ys : List V} {o w : HO}
theorem w_cat (e1 : H p = some (.lst xs)) (e2 : H q = some (.lst ys)) (s : xs.length + ys.length ≤ 1000000) (h : ∀ l, H l = none → Q (.ref l) (upd H l (.lst (xs ++ ys)))) : uAdd K (.ref p) (.ref q) H Q :=
  .inl ⟨p, q, xs, ys, rfl, rfl, e1, e2, Nat.le_trans s (by decide), h⟩
end steps3
section steps4
variable {X : Cx} {K : PySem.W.Frag} {D : Ends} {σ : L2.St} {H H1 : Hp} {Q : VK} {g : TG} {tb : TS} {tt : TT} {te td ty tx : TE} {tA : TA} {p q a b : Addr} {xs ys : List V} {kvs : List (Key × V)} {x y z v : V} {i : Int} {vs : List Nat}
def enumQ (K : PySem.W.Frag) (vs : List V) (H1 : Hp) (R : It → Hp → Prop) : Prop := ∃ a xs, vs = [.ref a] ∧ SqL K H1 a xs ∧ R (Ite K a) H1
theorem w_iEnum {R : It → Hp → Prop} (h : tA σ H fun vs H1 => enumQ K vs H1 R) : iEnum K tA σ H R := h
theorem w_iEnumv {R : It → Hp → Prop} (e : SqL K H p xs) (h : R (Ite K p) H) : enumQ K [.ref p] H R := ⟨p, xs, rfl, e, h⟩
def zipQ (K : PySem.W.Frag) (vs : List V) (H1 : Hp) (R : It → Hp → Prop) : Prop := ∃ a b xs ys, vs = [.ref a, .ref b] ∧ SqL K H1 a xs ∧ SqL K H1 b ys ∧ R (Itz K a b) H1
theorem w_iZip {R : It → Hp → Prop} (h : tA σ H fun vs H1 => zipQ K vs H1 R) : iZip K tA σ H R := h
theorem w_iZipv {R : It → Hp → Prop} (e : SqL K H p xs) (e2 : SqL K H q ys) (h : R (Itz K p q) H) : zipQ K [.ref p, .ref q] H R := ⟨p, q, xs, ys, rfl, e, e2, h⟩
/-- a comprehension over two lists of one length -/
theorem l_zip (he : xs.length = ys.length) (P : Addr → Nat → Hp → Prop) (h0 : ∀ D, H1 D = none → P D 0 (upd H1 D (.lst []))) (hl : ∀ D i H, H1 D = none → P D i H → SqL K H a xs ∧ SqL K H b ys)
    (hs : ∀ D i x y H T, H1 D = none → xs[i]? = some x → ys[i]? = some y → P D i H → H T = none → g (.ref T) (wipe σ vs) (upd H T (.tup [x, y])) fun σ2 H2 => wipe σ2 vs = wipe σ vs ∧ tt σ2 H2 fun b H3 => if b = true then te σ2 H3 (putQ D (P D (i + 1))) else P D (i + 1) H3)
    (hd : ∀ D H, H1 D = none → P D xs.length H → Q (.ref D) H) : lcQ g tt te vs σ (Itz K a b) H1 Q := by
  intro D hD
  refine ⟨fun i m H => m = xs.length - i ∧ i ≤ xs.length ∧ P D i H, ⟨_, rfl, Nat.zero_le _, h0 D hD⟩, fun i m H q => ?_⟩
  obtain ⟨rfl, hi, p⟩ := q
  obtain ⟨e1, e2⟩ := hl D i H hD p
  rcases Nat.lt_or_ge i xs.length with hlt | hge
  · refine .inr ⟨⟨xs, ys, xs[i], ys[i]'(by omega), e1, e2, List.getElem?_eq_getElem hlt, List.getElem?_eq_getElem (by omega)⟩, P D (i + 1), fun H' p' => ⟨_, by omega, rfl, hlt, p'⟩, fun x H' y => ?_⟩
    obtain ⟨T, x', y', rfl, hT, rfl, hx, hy⟩ := y
    exact hs D i x' y' H T hD (hx xs e1) (hy ys e2) p hT
  · obtain rfl : i = xs.length := by omega
    exact .inl ⟨⟨xs, ys, e1, e2, .inl (Nat.le_refl _)⟩, hd D H hD p⟩
def keysQ (x : V) (H1 : Hp) (R : It → Hp → Prop) : Prop := ∃ d o, x = .ref d ∧ ((∃ kvs, H1 d = some (.frz o (.dK kvs)) ∧ R (Itk d o kvs) H1) ∨ ∃ kvs, H1 d = some (.frz o (.dT kvs)) ∧ R (Itkt d o kvs) H1)
theorem w_iKeys {R : It → Hp → Prop} (h : te σ H fun x H1 => keysQ x H1 R) : iKeys te σ H R := h
/-- d.get(k, e), d.get(k) -/
def get2Q (ty tx : TE) (σ : L2.St) (x : V) (H1 : Hp) (Q : VK) : Prop := ∃ a, x = .ref a ∧ IsD H1 a ∧ ty σ H1 fun y H2 => tx σ H2 fun z H3 => ∃ o, DGet H3 a y o ∧ Q (o.getD z) H3
def getQ (p : Addr) (y z : V) (H : Hp) (Q : VK) : Prop := ∃ o, DGet H p y o ∧ Q (o.getD z) H
theorem w_dget2 (h : td σ H fun x H1 => get2Q ty tx σ x H1 Q) : tDGet2 td ty tx σ H Q := h
theorem w_dget2v (e : H p = some (.dK kvs)) (h : ty σ H fun y H2 => tx σ H2 fun z H3 => getQ p y z H3 Q) : get2Q ty tx σ (.ref p) H Q := ⟨p, rfl, .inl ⟨kvs, .inl e⟩, h⟩
def get1Q (ty : TE) (σ : L2.St) (x : V) (H1 : Hp) (Q : VK) : Prop := ∃ a, x = .ref a ∧ IsD H1 a ∧ ty σ H1 fun y H2 => getQ a y .non H2 Q
theorem w_dget1 (h : td σ H fun x H1 => get1Q ty σ x H1 Q) : tDGet1 td ty σ H Q := h
theorem w_dget1v (e : H p = some (.dK kvs)) (h : ty σ H fun y H2 => getQ p y .non H2 Q) : get1Q ty σ (.ref p) H Q := ⟨p, rfl, .inl ⟨kvs, .inl e⟩, h⟩
theorem w_getI (e : H p = some (.dK kvs)) (h : Q ((valV kvs (.inl i)).getD z) H) : getQ p (.int i) z H Q := ⟨_, DGet.k (k := .inl i) e, h⟩
/-- d.pop(k) -/
def pop1Q (ty : TE) (σ : L2.St) (x : V) (H1 : Hp) (Q : VK) : Prop := ∃ a, x = .ref a ∧ IsD H1 a ∧ ty σ H1 fun y H2 => popQ1 a y H2 Q
where popQ1 (a : Addr) (y : V) (H2 : Hp) (Q : VK) : Prop := ∃ kvs k v, H2 a = some (.dK kvs) ∧ y = kV k ∧ valV kvs k = some v ∧ Q v (upd H2 a (.dK (dropK kvs k)))
theorem w_dpop1 (h : td σ H fun x H1 => pop1Q ty σ x H1 Q) : tDPop1 td ty σ H Q := h
theorem w_dpop1v (e : H p = some (.dK kvs)) (h : ty σ H fun y H2 => pop1Q.popQ1 p y H2 Q) : pop1Q ty σ (.ref p) H Q := ⟨p, rfl, .inl ⟨kvs, .inl e⟩, h⟩
/-- del d[k] -/
def delQ (x y : V) (H2 : Hp) (N : Hp → Prop) : Prop := ∃ a kvs k, x = .ref a ∧ H2 a = some (.dK kvs) ∧ y = kV k ∧ (valV kvs k).isSome = true ∧ N (upd H2 a (.dK (dropK kvs k)))
theorem w_ddel (h : td σ H fun x H1 => ty σ H1 fun y H2 => delQ x y H2 (D.nx σ)) : sDDel td ty D σ H := h
theorem w_delI {N : Hp → Prop} (e : H p = some (.dK kvs)) (l : (valV kvs (.inl i)).isSome = true) (h : N (upd H p (.dK (dropK kvs (.inl i))))) : delQ (.ref p) (.int i) H N := ⟨p, kvs, .inl i, rfl, e, rfl, l, h⟩
/-- sorted(d), d's keys ints; sorted(xs), ints -/
def uSortD : List V → Hp → VK → Prop := fun xs H Q => ∃ (a : Addr) (kvs : List (Key × V)) (ks : List Int), xs = [.ref a] ∧ Rd H a (.dK kvs) ∧ kvs.map (·.1) = ks.map Sum.inl ∧ ks.length < 64 ∧
    ∀ (ys : List Int) (p : Addr), ys.Perm ks → ys.Pairwise (· ≤ ·) → H p = none → Q (.ref p) (upd H p (.lst (ys.map V.int)))
theorem c_sortD (hc : X.calm = true) : CallR X (.builtin "sorted") uSortD := call_sortedDI hc
end steps4
section hotdefs
variable {P : Program} {w : World} {K : PySem.W.Frag} {mg : Str → Option Value} {base : Heap}
variable {X : Cx}
def uCallX (a : Addr) (cls : Value) (d : Option Addr) (sp : Addr → Value → Sp) (t : TA) : TE := fun σ H Q => d = none ∧ t σ H fun vs H1 => sp a cls vs H1 Q fun _ _ _ => False
theorem w_callX {a : Addr} {cls : Value} {sp : Addr → Value → Sp} {t : TA} {σ : L2.St} {H : Hp} {Q : VK} (h : t σ H fun vs H1 => sp a cls vs H1 Q fun _ _ _ => False) : uCallX a cls none sp t σ H Q := ⟨rfl, h⟩
end hotdefs
section steps5
variable {K : PySem.W.Frag} {H : Hp} {Q : VK} {s t : Str} {A B : Prop}
theorem ifSF (h : decide (s = t) = false) (k : B) : if decide (s = t) = true then A else B := by rw [h]; exact iteF k
theorem ifST (h : decide (s = t) = true) (k : A) : if decide (s = t) = true then A else B := by rw [h]; exact iteT k
theorem ifSNF (h : decide (s = t) = true) (k : B) : if (!decide (s = t)) = true then A else B := by rw [h]; exact iteF k
theorem ifSNT (h : decide (s = t) = false) (k : A) : if (!decide (s = t)) = true then A else B := by rw [h]; exact iteT k
theorem w_neNN (h : Q (.bl false) H) : uNe K .non .non H Q := .inl ⟨rfl, h⟩
theorem w_eqNN (h : Q (.bl true) H) : uEq K .non .non H Q := .inl ⟨rfl, h⟩
end steps5
section steps6
variable {K : PySem.W.Frag} {H : Hp} {Q : VK} {p : Addr} {n : Int}
theorem w_ixBl {bs : List Bool} (e : SqL K H p (bs.map V.bl)) (h0 : 0 ≤ n ∧ n.toNat < bs.length) (h : Q (.bl (bs.getD n.toNat false)) H) : uIx K (.ref p) (.int n) H Q :=
  ⟨_, .bl (bs.getD n.toNat false), .inl e, by
    have z : (bs.map V.bl)[n.toNat]? = some (.bl (bs.getD n.toNat false)) := by rw [List.getElem?_map, List.getElem?_eq_getElem h0.2, List.getD_eq_getElem?_getD, List.getElem?_eq_getElem h0.2]; rfl
    have y := atI_nat z
    rw [show ((n.toNat : Nat) : Int) = n by omega] at y
    exact y, h⟩
theorem at_bl {bs : List Bool} {i : Nat} {x : V} (h : (bs.map V.bl)[i]? = some x) : ∃ n, bs[i]? = some n ∧ x = .bl n := by
  rw [List.getElem?_map] at h
  cases e : bs[i]? with
  | none => rw [e] at h; cases h
  | some n => rw [e] at h; exact ⟨n, rfl, (Option.some.inj h).symm⟩
def augSQ (ti te : TE) (g : V → V → Hp → VK → Prop) (op : TIp) (ts : TSet) (D : Ends) (σ : L2.St) (x : V) (H1 : Hp) : Prop := ti σ H1 fun i H2 => g x i H2 fun v H3 => te σ H3 fun y H4 => op v y H4 fun z H5 => ts x i z H5 fun H6 => D.nx σ H6
theorem w_getI2 {ns : List Int} (e : SqL K H p (ns.map V.int)) (h0 : 0 ≤ n ∧ n.toNat < ns.length) (h : Q (.int (ns.getD n.toNat 0)) H) : uGet K (.ref p) (.int n) H Q :=
  .inl ⟨h0.1, _, .int (ns.getD n.toNat 0), e, by rw [List.getElem?_map, List.getElem?_eq_getElem h0.2, List.getD_eq_getElem?_getD, List.getElem?_eq_getElem h0.2]; rfl, h⟩
theorem w_augS {D : Ends} {σ : L2.St} {to ti te : TE} {g : V → V → Hp → VK → Prop} {op : TIp} {ts : TSet} (h : to σ H fun o H1 => augSQ ti te g op ts D σ o H1) : tAugS to ti te g op ts D σ H := h
theorem w_augSQ {D : Ends} {σ : L2.St} {ti te : TE} {g : V → V → Hp → VK → Prop} {op : TIp} {ts : TSet} {x : V} (h : ti σ H fun i H2 => g x i H2 fun v H3 => te σ H3 fun y H4 => op v y H4 fun z H5 => ts x i z H5 fun H6 => D.nx σ H6) : augSQ ti te g op ts D σ x H := h
end steps6
end U
namespace Lam
open PySem PySem.Spec L2 U
local macro_rules | `(tactic| walk_at "te") => `(tactic| fail "no fact")
local macro_rules | `(tactic| walk_at "kt") => `(tactic| fail "no fact")
local macro_rules | `(tactic| walk_at "xc") => `(tactic| fail "no fact")
local macro_rules | `(tactic| walk_at "x") => `(tactic| fail "no step")
local macro_rules | `(tactic| walk_at "hk") => `(tactic| first
  | assumption | exact upd_same | exact SqL.of upd_same | exact SqT.of upd_same
  | (apply sql_old; (· walk_at "hk"); (· assumption)) | (apply upd_old; (· walk_at "hk"); (· assumption)) | (apply sqt_old; (· walk_at "hk"); (· assumption))
  | exact L2.Same.seq (by assumption) (by assumption) | exact U.Same.sqt (by assumption) (by assumption) | exact (by assumption : L2.Same _ _) _ _ (by assumption)
  | (apply SqL.of; walk_at "hk") | (apply SqT.of; walk_at "hk"))
local macro_rules | `(tactic| walk_at "nn") => `(tactic| first | assumption | exact L2.Same.free (by assumption) (by assumption) | exact (none_of_upd (by assumption)).1)
local macro_rules | `(tactic| walk_at "sm") => `(tactic| first | assumption | exact L2.Same.refl _ | (apply same_updN; (· walk_at "sm"); (· assumption)) | (apply same_upd; (· walk_at "sm"); (· walk_at "nn")) | exact L2.Same.trans (by assumption) (by assumption))
local macro_rules | `(tactic| walk_at "s") => `(tactic| first
    | with_reducible refine w_seq ?_
    | with_reducible refine w_op ?_
    | with_reducible refine w_asg ?_
    | with_reducible refine w_name ?_
    | with_reducible refine w_c ?_
    | with_reducible refine w_if ?_
    | with_reducible refine w_test ?_
    | with_reducible refine w_blP ?_
    | with_reducible refine w_cons ?_
    | with_reducible refine w_nil ?_
    | with_reducible refine w_ret ?_
    | with_reducible refine w_call ?_
    | ((with_reducible refine' w_var ?e ?_); (case e => rfl))
    | ((with_reducible refine ifST ?h ?_); (case h => decide +kernel))
    | ((with_reducible refine ifSF ?h ?_); (case h => decide +kernel))
    | ((with_reducible refine ifSNT ?h ?_); (case h => decide +kernel))
    | ((with_reducible refine ifSNF ?h ?_); (case h => decide +kernel))
    | with_reducible refine iteT ?_
    | with_reducible refine iteF ?_
    | with_reducible refine ifNT ?_
    | with_reducible refine ifNF ?_
    | (((with_reducible show @ite Prop (_ = true) _ _ _); refine @ifP _ _ _ _ ?_ ?_) <;> intro h <;> first | (with_reducible exact absurd rfl h) | skip)
    | (((with_reducible show @ite Prop (_ = true) _ _ _); refine @ifN _ _ _ _ ?_ ?_) <;> intro h <;> first | (with_reducible exact absurd rfl h) | skip)
    | with_reducible refine w_eqX ?_
    | with_reducible refine w_neX ?_
    | with_reducible refine w_add ?_
    | with_reducible refine w_sub ?_
    | with_reducible refine w_eqI ?_
    | with_reducible refine w_neI ?_
    | with_reducible refine w_lt ?_
    | with_reducible refine w_le ?_
    | with_reducible refine w_gt ?_
    | with_reducible refine w_ge ?_
    | with_reducible refine w_eqS ?_
    | with_reducible refine w_eqB ?_
    | with_reducible refine w_neS ?_
    | with_reducible refine w_neB ?_
    | with_reducible refine w_cb ?_
    | with_reducible refine w_tup ?_
    | with_reducible refine w_lst ?_
    | with_reducible refine w_next ?_
    | with_reducible refine w_drop ?_
    | with_reducible refine w_not ?_
    | with_reducible refine w_tru ?_
    | with_reducible refine w_and ?_
    | with_reducible refine w_or ?_
    | with_reducible refine w_andV ?_
    | with_reducible refine w_orV ?_
    | with_reducible refine w_notV ?_
    | with_reducible refine w_ifE ?_
    | with_reducible refine w_chain ?_
    | with_reducible refine w_retN ?_
    | with_reducible refine w_bm ?_
    | with_reducible refine w_raise ?_
    | with_reducible refine w_fld ?_
    | with_reducible refine w_meth ?_
    | with_reducible refine w_setf ?_
    | with_reducible refine w_for ?_
    | with_reducible refine w_rng1 ?_
    | with_reducible refine w_rng2 ?_
    | with_reducible refine w_iList ?_
    | with_reducible refine w_iTup ?_
    | with_reducible refine w_iStr ?_
    | with_reducible refine w_iRev ?_
    | with_reducible refine w_brk ?_
    | with_reducible refine w_cont ?_
    | with_reducible refine w_un ?_
    | with_reducible refine w_lc ?_
    | with_reducible refine w_yes ?_
    | with_reducible refine w_gsub ?_
    | with_reducible refine w_sl ?_
    | with_reducible refine w_part ?_
    | with_reducible refine w_noPart ?_
    | with_reducible refine w_wh ?_
    | with_reducible refine w_tryAs ?_
    | with_reducible refine w_try ?_
    | with_reducible refine w_make ?_
    | with_reducible refine w_dget ?_
    | with_reducible refine w_dput ?_
    | with_reducible refine w_gcons ?_
    | with_reducible refine w_gnil ?_
    | with_reducible refine w_augf ?_
    | with_reducible refine w_iEnum ?_
    | with_reducible refine w_iZip ?_
    | with_reducible refine w_iKeys ?_
    | with_reducible refine w_dget2 ?_
    | with_reducible refine w_dget1 ?_
    | with_reducible refine w_dpop1 ?_
    | with_reducible refine w_ddel ?_
    | with_reducible refine w_callX ?_
    | with_reducible refine w_augS ?_
    | with_reducible refine w_augSQ ?_
    | ((with_reducible refine' w_aug ?e ?_); (case e => rfl))
    | ((with_reducible refine w_mul ?s ?_); (case s => first | exact Or.inr ⟨by omega, by omega⟩ | exact Or.inl ⟨by omega, by omega⟩))
    | ((with_reducible refine w_div ?s ?_); (case s => omega))
    | ((with_reducible refine w_mod ?s ?_); (case s => first | omega | decide))
    | ((with_reducible refine w_pow ?s ?_); (case s => first | exact ⟨by decide, by decide, by decide⟩ | exact ⟨by decide, by decide, by omega⟩))
    | ((with_reducible refine w_newL ?s ?_); (case s => (first | exact (by decide) | (simp only [List.length_cons, List.length_nil]; omega))); intro _ _)
    | ((with_reducible refine w_newT ?s ?_); (case s => (first | exact (by decide) | (simp only [List.length_cons, List.length_nil]; omega))); intro _ _)
    | with_reducible refine w_eqX ?_
    | with_reducible refine w_neX ?_
    | with_reducible refine w_findX ?_
    | with_reducible refine w_countX ?_
    | ((with_reducible refine w_lenX ?s ?_); (case s => (first | omega | (simp only [List.length_append, List.length_cons, List.length_nil, List.length_take, List.length_drop, List.length_replicate, List.length_map, List.length_range] at *; omega) | (simp only [List.length_append, List.length_cons, List.length_nil, List.length_take, List.length_drop, List.length_replicate, List.length_map, List.length_range]; omega) | decide)))
    | ((with_reducible refine w_truX ?s ?_); (case s => (first | omega | (simp only [List.length_append, List.length_cons, List.length_nil, List.length_take, List.length_drop, List.length_replicate, List.length_map, List.length_range] at *; omega) | (simp only [List.length_append, List.length_cons, List.length_nil, List.length_take, List.length_drop, List.length_replicate, List.length_map, List.length_range]; omega) | decide)))
    | ((with_reducible refine w_addX ?s ?_); (case s => (first | omega | (simp only [List.length_append, List.length_cons, List.length_nil, List.length_take, List.length_drop, List.length_replicate, List.length_map, List.length_range] at *; omega) | (simp only [List.length_append, List.length_cons, List.length_nil, List.length_take, List.length_drop, List.length_replicate, List.length_map, List.length_range]; omega) | decide)))
    | ((with_reducible refine w_mulX ?h0 ?h1 ?_); (case h0 => (first | omega | (simp only [List.length_append, List.length_cons, List.length_nil, List.length_take, List.length_drop, List.length_replicate, List.length_map, List.length_range] at *; omega) | (simp only [List.length_append, List.length_cons, List.length_nil, List.length_take, List.length_drop, List.length_replicate, List.length_map, List.length_range]; omega) | decide)); (case h1 => (first | omega | (simp only [List.length_append, List.length_cons, List.length_nil, List.length_take, List.length_drop, List.length_replicate, List.length_map, List.length_range] at *; omega) | (simp only [List.length_append, List.length_cons, List.length_nil, List.length_take, List.length_drop, List.length_replicate, List.length_map, List.length_range]; omega) | decide)))
    | ((with_reducible refine w_tkX ?s ?h0 ?_); (case s => (first | omega | (simp only [List.length_append, List.length_cons, List.length_nil, List.length_take, List.length_drop, List.length_replicate, List.length_map, List.length_range] at *; omega) | (simp only [List.length_append, List.length_cons, List.length_nil, List.length_take, List.length_drop, List.length_replicate, List.length_map, List.length_range]; omega) | decide)); (case h0 => (first | omega | (simp only [List.length_append, List.length_cons, List.length_nil, List.length_take, List.length_drop, List.length_replicate, List.length_map, List.length_range] at *; omega) | (simp only [List.length_append, List.length_cons, List.length_nil, List.length_take, List.length_drop, List.length_replicate, List.length_map, List.length_range]; omega) | decide)))
    | ((with_reducible refine w_dpX ?s ?h0 ?_); (case s => (first | omega | (simp only [List.length_append, List.length_cons, List.length_nil, List.length_take, List.length_drop, List.length_replicate, List.length_map, List.length_range] at *; omega) | (simp only [List.length_append, List.length_cons, List.length_nil, List.length_take, List.length_drop, List.length_replicate, List.length_map, List.length_range]; omega) | decide)); (case h0 => (first | omega | (simp only [List.length_append, List.length_cons, List.length_nil, List.length_take, List.length_drop, List.length_replicate, List.length_map, List.length_range] at *; omega) | (simp only [List.length_append, List.length_cons, List.length_nil, List.length_take, List.length_drop, List.length_replicate, List.length_map, List.length_range]; omega) | decide)))
    | ((with_reducible refine w_ixX ?s ?h0 ?_); (case s => (first | omega | (simp only [List.length_append, List.length_cons, List.length_nil, List.length_take, List.length_drop, List.length_replicate, List.length_map, List.length_range] at *; omega) | (simp only [List.length_append, List.length_cons, List.length_nil, List.length_take, List.length_drop, List.length_replicate, List.length_map, List.length_range]; omega) | decide)); (case h0 => (first | omega | (simp only [List.length_append, List.length_cons, List.length_nil, List.length_take, List.length_drop, List.length_replicate, List.length_map, List.length_range] at *; omega) | (simp only [List.length_append, List.length_cons, List.length_nil, List.length_take, List.length_drop, List.length_replicate, List.length_map, List.length_range]; omega) | decide)))
    | with_reducible refine w_max ?_
    | with_reducible refine w_min ?_
    | with_reducible refine w_eqNI ?_
    | with_reducible refine w_neNI ?_
    | with_reducible refine w_eqIN ?_
    | with_reducible refine w_neIN ?_
    | with_reducible refine w_neNN ?_
    | with_reducible refine w_eqNN ?_
    | with_reducible refine w_abs ?_
    | with_reducible refine w_intI ?_
    | with_reducible refine w_intB ?_
    | with_reducible refine w_ipI ?_
    | with_reducible refine w_bmS ?_
    | with_reducible refine w_iStrv ?_
    | with_reducible refine w_neg ?_
    | with_reducible refine w_partI ?_
    | with_reducible refine w_truB ?_
    | with_reducible refine w_truN ?_
    | with_reducible refine w_truI ?_
    | with_reducible refine w_isi_int_int ?_
    | with_reducible refine w_isi_int_bl ?_
    | with_reducible refine w_isi_int_str ?_
    | with_reducible refine w_isi_int_non ?_
    | with_reducible refine w_isi_bool_int ?_
    | with_reducible refine w_isi_bool_bl ?_
    | with_reducible refine w_isi_bool_str ?_
    | with_reducible refine w_isi_bool_non ?_
    | with_reducible refine w_isi_str_int ?_
    | with_reducible refine w_isi_str_bl ?_
    | with_reducible refine w_isi_str_str ?_
    | with_reducible refine w_isi_str_non ?_
    | with_reducible refine w_isi_list_int ?_
    | with_reducible refine w_isi_list_bl ?_
    | with_reducible refine w_isi_list_str ?_
    | with_reducible refine w_isi_list_non ?_
    | with_reducible refine w_isi_tuple_int ?_
    | with_reducible refine w_isi_tuple_bl ?_
    | with_reducible refine w_isi_tuple_str ?_
    | with_reducible refine w_isi_tuple_non ?_
    | with_reducible refine w_is_int ?_
    | with_reducible refine w_isnt_int ?_
    | with_reducible refine w_is_bl ?_
    | with_reducible refine w_isnt_bl ?_
    | with_reducible refine w_is_str ?_
    | with_reducible refine w_isnt_str ?_
    | with_reducible refine w_is_non ?_
    | with_reducible refine w_isnt_non ?_
    | with_reducible refine w_is_ref ?_
    | with_reducible refine w_isnt_ref ?_
    | ((with_reducible refine w_asT ?e ?_); (case e => walk_at "te"); intro _ _)
    | ((with_reducible refine w_onT ?e ?_); (case e => walk_at "te"); intro _ _)
    | ((with_reducible refine w_asF ?e ?_); (case e => walk_at "te"))
    | ((with_reducible refine w_onF ?e ?_); (case e => walk_at "te"))
    | ((with_reducible apply w_isE); (· walk_at "xc"); (· walk_at "kt"))
    | ((with_reducible apply w_lenL); (· walk_at "hk"))
    | ((with_reducible apply w_lenT); (· walk_at "hk"))
    | ((with_reducible apply w_bmL); (· walk_at "hk"))
    | ((with_reducible refine w_rng1v ?h1 ?h2 ?_); (case h1 => (first | omega | (simp only [List.length_map] at *; omega))); (case h2 => (first | omega | (simp only [List.length_map] at *; omega))))
    | ((with_reducible refine w_rng2v ?h1 ?_); (case h1 => (first | omega | (simp only [List.length_map] at *; omega))))
    | ((with_reducible apply w_ixI); (· walk_at "hk"); (· (first | omega | (simp only [List.length_map] at *; omega))))
    | ((with_reducible apply w_ixTI); (· walk_at "hk"); (· (first | omega | (simp only [List.length_map] at *; omega))))
    | ((with_reducible apply w_ixBl); (· walk_at "hk"); (· (first | omega | (simp only [List.length_map] at *; omega))))
    | ((with_reducible apply w_getI2); (· walk_at "hk"); (· (first | omega | (simp only [List.length_map] at *; omega))))
    | ((with_reducible apply w_ixTl); (· walk_at "hk"); (· rfl); (· decide))
    | ((with_reducible apply w_ixLl); (· walk_at "hk"); (· rfl); (· decide))
    | ((with_reducible apply w_appI); (· walk_at "hk"); (· (first | omega | (simp only [List.length_append, List.length_cons, List.length_nil]; omega))))
    | ((with_reducible apply w_iListv); (· walk_at "hk"))
    | ((with_reducible apply w_iTupv); (· walk_at "hk"))
    | ((with_reducible apply w_iRevv); (· walk_at "hk"))
    | ((with_reducible apply w_iEnumv); (· walk_at "hk"))
    | ((with_reducible apply w_iZipv); (· walk_at "hk"); (· walk_at "hk"))
    | ((with_reducible apply w_dget2v); (· walk_at "hk"))
    | ((with_reducible apply w_dget1v); (· walk_at "hk"))
    | ((with_reducible apply w_dpop1v); (· walk_at "hk"))
    | ((with_reducible apply w_getI); (· walk_at "hk"))
    | ((with_reducible apply w_inD); (· walk_at "hk"))
    | ((with_reducible apply w_ninD); (· walk_at "hk"))
    | ((with_reducible apply w_rep1); (· walk_at "hk"); (· (first | omega | (simp only [List.length_append, List.length_cons, List.length_nil, List.length_take, List.length_drop, List.length_replicate, List.length_map, List.length_range] at *; omega) | (simp only [List.length_append, List.length_cons, List.length_nil, List.length_take, List.length_drop, List.length_replicate, List.length_map, List.length_range]; omega) | decide)); (· (first | omega | (simp only [List.length_append, List.length_cons, List.length_nil, List.length_take, List.length_drop, List.length_replicate, List.length_map, List.length_range] at *; omega) | (simp only [List.length_append, List.length_cons, List.length_nil, List.length_take, List.length_drop, List.length_replicate, List.length_map, List.length_range]; omega) | decide)); intro _ _)
    | ((with_reducible apply w_gtup2); (· walk_at "hk"))
    | ((with_reducible apply w_gtup3); (· walk_at "hk"))
    | ((with_reducible apply w_gtup4); (· walk_at "hk"))
    | ((with_reducible refine w_newD ?_); intro _ _)
    | ((with_reducible apply w_augsub); (· walk_at "hk"); (· rfl); (· exact Nat.le_of_ble_eq_true rfl))
    | ((with_reducible apply w_augadd); (· walk_at "hk"); (· rfl); (· exact Nat.le_of_ble_eq_true rfl))
    | ((with_reducible apply w_fldv); (· walk_at "hk"); (· rfl))
    | ((with_reducible apply w_methv); (· walk_at "hk"); (· rfl))
    | ((with_reducible apply w_setfv); (· walk_at "hk"); (· exact Nat.le_of_ble_eq_true rfl); (· rfl))
    | walk_at "x")
local macro_rules | `(tactic| walk_at "run1") => `(tactic| repeat (first
    | with_reducible refine w_seq ?_
    | with_reducible refine w_op ?_
    | with_reducible refine w_asg ?_
    | with_reducible refine w_name ?_
    | with_reducible refine w_c ?_
    | with_reducible refine w_if ?_
    | with_reducible refine w_test ?_
    | with_reducible refine w_blP ?_
    | with_reducible refine w_cons ?_
    | with_reducible refine w_nil ?_
    | with_reducible refine w_ret ?_
    | with_reducible refine w_call ?_
    | ((with_reducible refine' w_var ?e ?_); (case e => rfl))
    | ((with_reducible refine ifST ?h ?_); (case h => decide +kernel))
    | ((with_reducible refine ifSF ?h ?_); (case h => decide +kernel))
    | ((with_reducible refine ifSNT ?h ?_); (case h => decide +kernel))
    | ((with_reducible refine ifSNF ?h ?_); (case h => decide +kernel))
    | with_reducible refine iteT ?_
    | with_reducible refine iteF ?_
    | with_reducible refine ifNT ?_
    | with_reducible refine ifNF ?_
    | (((with_reducible show @ite Prop (_ = true) _ _ _); refine @ifP _ _ _ _ ?_ ?_) <;> intro h <;> first | (with_reducible exact absurd rfl h) | skip)
    | (((with_reducible show @ite Prop (_ = true) _ _ _); refine @ifN _ _ _ _ ?_ ?_) <;> intro h <;> first | (with_reducible exact absurd rfl h) | skip)
    | with_reducible refine w_eqX ?_
    | with_reducible refine w_neX ?_
    | with_reducible refine w_add ?_
    | with_reducible refine w_sub ?_
    | with_reducible refine w_eqI ?_
    | with_reducible refine w_neI ?_
    | with_reducible refine w_lt ?_
    | with_reducible refine w_le ?_
    | with_reducible refine w_gt ?_
    | with_reducible refine w_ge ?_
    | with_reducible refine w_eqS ?_
    | with_reducible refine w_eqB ?_
    | with_reducible refine w_neS ?_
    | with_reducible refine w_neB ?_
    | with_reducible refine w_cb ?_
    | with_reducible refine w_tup ?_
    | with_reducible refine w_lst ?_
    | with_reducible refine w_next ?_
    | with_reducible refine w_drop ?_
    | with_reducible refine w_not ?_
    | with_reducible refine w_tru ?_
    | with_reducible refine w_and ?_
    | with_reducible refine w_or ?_
    | with_reducible refine w_andV ?_
    | with_reducible refine w_orV ?_
    | with_reducible refine w_notV ?_
    | with_reducible refine w_ifE ?_
    | with_reducible refine w_chain ?_
    | with_reducible refine w_retN ?_
    | with_reducible refine w_bm ?_
    | with_reducible refine w_raise ?_
    | with_reducible refine w_fld ?_
    | with_reducible refine w_meth ?_
    | with_reducible refine w_setf ?_
    | with_reducible refine w_for ?_
    | with_reducible refine w_rng1 ?_
    | with_reducible refine w_rng2 ?_
    | with_reducible refine w_iList ?_
    | with_reducible refine w_iTup ?_
    | with_reducible refine w_iStr ?_
    | with_reducible refine w_iRev ?_
    | with_reducible refine w_brk ?_
    | with_reducible refine w_cont ?_
    | with_reducible refine w_un ?_
    | with_reducible refine w_lc ?_
    | with_reducible refine w_yes ?_
    | with_reducible refine w_gsub ?_
    | with_reducible refine w_sl ?_
    | with_reducible refine w_part ?_
    | with_reducible refine w_noPart ?_
    | with_reducible refine w_wh ?_
    | with_reducible refine w_tryAs ?_
    | with_reducible refine w_try ?_
    | with_reducible refine w_make ?_
    | with_reducible refine w_dget ?_
    | with_reducible refine w_dput ?_
    | with_reducible refine w_gcons ?_
    | with_reducible refine w_gnil ?_
    | with_reducible refine w_augf ?_
    | with_reducible refine w_iEnum ?_
    | with_reducible refine w_iZip ?_
    | with_reducible refine w_iKeys ?_
    | with_reducible refine w_dget2 ?_
    | with_reducible refine w_dget1 ?_
    | with_reducible refine w_dpop1 ?_
    | with_reducible refine w_ddel ?_
    | with_reducible refine w_callX ?_
    | with_reducible refine w_augS ?_
    | with_reducible refine w_augSQ ?_
    | ((with_reducible refine' w_aug ?e ?_); (case e => rfl))
    | ((with_reducible refine w_mul ?s ?_); (case s => first | exact Or.inr ⟨by omega, by omega⟩ | exact Or.inl ⟨by omega, by omega⟩))
    | ((with_reducible refine w_div ?s ?_); (case s => omega))
    | ((with_reducible refine w_mod ?s ?_); (case s => first | omega | decide))
    | ((with_reducible refine w_pow ?s ?_); (case s => first | exact ⟨by decide, by decide, by decide⟩ | exact ⟨by decide, by decide, by omega⟩))
    | ((with_reducible refine w_newL ?s ?_); (case s => (first | exact (by decide) | (simp only [List.length_cons, List.length_nil]; omega))); intro _ _)
    | ((with_reducible refine w_newT ?s ?_); (case s => (first | exact (by decide) | (simp only [List.length_cons, List.length_nil]; omega))); intro _ _)
    | with_reducible refine w_eqX ?_
    | with_reducible refine w_neX ?_
    | with_reducible refine w_findX ?_
    | with_reducible refine w_countX ?_
    | ((with_reducible refine w_lenX ?s ?_); (case s => (first | omega | (simp only [List.length_append, List.length_cons, List.length_nil, List.length_take, List.length_drop, List.length_replicate, List.length_map, List.length_range] at *; omega) | (simp only [List.length_append, List.length_cons, List.length_nil, List.length_take, List.length_drop, List.length_replicate, List.length_map, List.length_range]; omega) | decide)))
    | ((with_reducible refine w_truX ?s ?_); (case s => (first | omega | (simp only [List.length_append, List.length_cons, List.length_nil, List.length_take, List.length_drop, List.length_replicate, List.length_map, List.length_range] at *; omega) | (simp only [List.length_append, List.length_cons, List.length_nil, List.length_take, List.length_drop, List.length_replicate, List.length_map, List.length_range]; omega) | decide)))
    | ((with_reducible refine w_addX ?s ?_); (case s => (first | omega | (simp only [List.length_append, List.length_cons, List.length_nil, List.length_take, List.length_drop, List.length_replicate, List.length_map, List.length_range] at *; omega) | (simp only [List.length_append, List.length_cons, List.length_nil, List.length_take, List.length_drop, List.length_replicate, List.length_map, List.length_range]; omega) | decide)))
    | ((with_reducible refine w_mulX ?h0 ?h1 ?_); (case h0 => (first | omega | (simp only [List.length_append, List.length_cons, List.length_nil, List.length_take, List.length_drop, List.length_replicate, List.length_map, List.length_range] at *; omega) | (simp only [List.length_append, List.length_cons, List.length_nil, List.length_take, List.length_drop, List.length_replicate, List.length_map, List.length_range]; omega) | decide)); (case h1 => (first | omega | (simp only [List.length_append, List.length_cons, List.length_nil, List.length_take, List.length_drop, List.length_replicate, List.length_map, List.length_range] at *; omega) | (simp only [List.length_append, List.length_cons, List.length_nil, List.length_take, List.length_drop, List.length_replicate, List.length_map, List.length_range]; omega) | decide)))
    | ((with_reducible refine w_tkX ?s ?h0 ?_); (case s => (first | omega | (simp only [List.length_append, List.length_cons, List.length_nil, List.length_take, List.length_drop, List.length_replicate, List.length_map, List.length_range] at *; omega) | (simp only [List.length_append, List.length_cons, List.length_nil, List.length_take, List.length_drop, List.length_replicate, List.length_map, List.length_range]; omega) | decide)); (case h0 => (first | omega | (simp only [List.length_append, List.length_cons, List.length_nil, List.length_take, List.length_drop, List.length_replicate, List.length_map, List.length_range] at *; omega) | (simp only [List.length_append, List.length_cons, List.length_nil, List.length_take, List.length_drop, List.length_replicate, List.length_map, List.length_range]; omega) | decide)))
    | ((with_reducible refine w_dpX ?s ?h0 ?_); (case s => (first | omega | (simp only [List.length_append, List.length_cons, List.length_nil, List.length_take, List.length_drop, List.length_replicate, List.length_map, List.length_range] at *; omega) | (simp only [List.length_append, List.length_cons, List.length_nil, List.length_take, List.length_drop, List.length_replicate, List.length_map, List.length_range]; omega) | decide)); (case h0 => (first | omega | (simp only [List.length_append, List.length_cons, List.length_nil, List.length_take, List.length_drop, List.length_replicate, List.length_map, List.length_range] at *; omega) | (simp only [List.length_append, List.length_cons, List.length_nil, List.length_take, List.length_drop, List.length_replicate, List.length_map, List.length_range]; omega) | decide)))
    | ((with_reducible refine w_ixX ?s ?h0 ?_); (case s => (first | omega | (simp only [List.length_append, List.length_cons, List.length_nil, List.length_take, List.length_drop, List.length_replicate, List.length_map, List.length_range] at *; omega) | (simp only [List.length_append, List.length_cons, List.length_nil, List.length_take, List.length_drop, List.length_replicate, List.length_map, List.length_range]; omega) | decide)); (case h0 => (first | omega | (simp only [List.length_append, List.length_cons, List.length_nil, List.length_take, List.length_drop, List.length_replicate, List.length_map, List.length_range] at *; omega) | (simp only [List.length_append, List.length_cons, List.length_nil, List.length_take, List.length_drop, List.length_replicate, List.length_map, List.length_range]; omega) | decide)))
    | with_reducible refine w_max ?_
    | with_reducible refine w_min ?_
    | with_reducible refine w_eqNI ?_
    | with_reducible refine w_neNI ?_
    | with_reducible refine w_eqIN ?_
    | with_reducible refine w_neIN ?_
    | with_reducible refine w_neNN ?_
    | with_reducible refine w_eqNN ?_
    | with_reducible refine w_abs ?_
    | with_reducible refine w_intI ?_
    | with_reducible refine w_intB ?_
    | with_reducible refine w_ipI ?_
    | with_reducible refine w_bmS ?_
    | with_reducible refine w_iStrv ?_
    | with_reducible refine w_neg ?_
    | with_reducible refine w_partI ?_
    | with_reducible refine w_truB ?_
    | with_reducible refine w_truN ?_
    | with_reducible refine w_truI ?_
    | with_reducible refine w_isi_int_int ?_
    | with_reducible refine w_isi_int_bl ?_
    | with_reducible refine w_isi_int_str ?_
    | with_reducible refine w_isi_int_non ?_
    | with_reducible refine w_isi_bool_int ?_
    | with_reducible refine w_isi_bool_bl ?_
    | with_reducible refine w_isi_bool_str ?_
    | with_reducible refine w_isi_bool_non ?_
    | with_reducible refine w_isi_str_int ?_
    | with_reducible refine w_isi_str_bl ?_
    | with_reducible refine w_isi_str_str ?_
    | with_reducible refine w_isi_str_non ?_
    | with_reducible refine w_isi_list_int ?_
    | with_reducible refine w_isi_list_bl ?_
    | with_reducible refine w_isi_list_str ?_
    | with_reducible refine w_isi_list_non ?_
    | with_reducible refine w_isi_tuple_int ?_
    | with_reducible refine w_isi_tuple_bl ?_
    | with_reducible refine w_isi_tuple_str ?_
    | with_reducible refine w_isi_tuple_non ?_
    | with_reducible refine w_is_int ?_
    | with_reducible refine w_isnt_int ?_
    | with_reducible refine w_is_bl ?_
    | with_reducible refine w_isnt_bl ?_
    | with_reducible refine w_is_str ?_
    | with_reducible refine w_isnt_str ?_
    | with_reducible refine w_is_non ?_
    | with_reducible refine w_isnt_non ?_
    | with_reducible refine w_is_ref ?_
    | with_reducible refine w_isnt_ref ?_
    | ((with_reducible refine w_asT ?e ?_); (case e => walk_at "te"); intro _ _)
    | ((with_reducible refine w_onT ?e ?_); (case e => walk_at "te"); intro _ _)
    | ((with_reducible refine w_asF ?e ?_); (case e => walk_at "te"))
    | ((with_reducible refine w_onF ?e ?_); (case e => walk_at "te"))
    | ((with_reducible apply w_isE); (· walk_at "xc"); (· walk_at "kt"))
    | ((with_reducible apply w_lenL); (· walk_at "hk"))
    | ((with_reducible apply w_lenT); (· walk_at "hk"))
    | ((with_reducible apply w_bmL); (· walk_at "hk"))
    | ((with_reducible refine w_rng1v ?h1 ?h2 ?_); (case h1 => (first | omega | (simp only [List.length_map] at *; omega))); (case h2 => (first | omega | (simp only [List.length_map] at *; omega))))
    | ((with_reducible refine w_rng2v ?h1 ?_); (case h1 => (first | omega | (simp only [List.length_map] at *; omega))))
    | ((with_reducible apply w_ixI); (· walk_at "hk"); (· (first | omega | (simp only [List.length_map] at *; omega))))
    | ((with_reducible apply w_ixTI); (· walk_at "hk"); (· (first | omega | (simp only [List.length_map] at *; omega))))
    | ((with_reducible apply w_ixBl); (· walk_at "hk"); (· (first | omega | (simp only [List.length_map] at *; omega))))
    | ((with_reducible apply w_getI2); (· walk_at "hk"); (· (first | omega | (simp only [List.length_map] at *; omega))))
    | ((with_reducible apply w_ixTl); (· walk_at "hk"); (· rfl); (· decide))
    | ((with_reducible apply w_ixLl); (· walk_at "hk"); (· rfl); (· decide))
    | ((with_reducible apply w_appI); (· walk_at "hk"); (· (first | omega | (simp only [List.length_append, List.length_cons, List.length_nil]; omega))))
    | ((with_reducible apply w_iListv); (· walk_at "hk"))
    | ((with_reducible apply w_iTupv); (· walk_at "hk"))
    | ((with_reducible apply w_iRevv); (· walk_at "hk"))
    | ((with_reducible apply w_iEnumv); (· walk_at "hk"))
    | ((with_reducible apply w_iZipv); (· walk_at "hk"); (· walk_at "hk"))
    | ((with_reducible apply w_dget2v); (· walk_at "hk"))
    | ((with_reducible apply w_dget1v); (· walk_at "hk"))
    | ((with_reducible apply w_dpop1v); (· walk_at "hk"))
    | ((with_reducible apply w_getI); (· walk_at "hk"))
    | ((with_reducible apply w_inD); (· walk_at "hk"))
    | ((with_reducible apply w_ninD); (· walk_at "hk"))
    | ((with_reducible apply w_rep1); (· walk_at "hk"); (· (first | omega | (simp only [List.length_append, List.length_cons, List.length_nil, List.length_take, List.length_drop, List.length_replicate, List.length_map, List.length_range] at *; omega) | (simp only [List.length_append, List.length_cons, List.length_nil, List.length_take, List.length_drop, List.length_replicate, List.length_map, List.length_range]; omega) | decide)); (· (first | omega | (simp only [List.length_append, List.length_cons, List.length_nil, List.length_take, List.length_drop, List.length_replicate, List.length_map, List.length_range] at *; omega) | (simp only [List.length_append, List.length_cons, List.length_nil, List.length_take, List.length_drop, List.length_replicate, List.length_map, List.length_range]; omega) | decide)); intro _ _)
    | ((with_reducible apply w_gtup2); (· walk_at "hk"))
    | ((with_reducible apply w_gtup3); (· walk_at "hk"))
    | ((with_reducible apply w_gtup4); (· walk_at "hk"))
    | ((with_reducible refine w_newD ?_); intro _ _)
    | ((with_reducible apply w_augsub); (· walk_at "hk"); (· rfl); (· exact Nat.le_of_ble_eq_true rfl))
    | ((with_reducible apply w_augadd); (· walk_at "hk"); (· rfl); (· exact Nat.le_of_ble_eq_true rfl))
    | ((with_reducible apply w_fldv); (· walk_at "hk"); (· rfl))
    | ((with_reducible apply w_methv); (· walk_at "hk"); (· rfl))
    | ((with_reducible apply w_setfv); (· walk_at "hk"); (· exact Nat.le_of_ble_eq_true rfl); (· rfl))
    | walk_at "x"))
local macro_rules | `(tactic| walk_at "run") => `(tactic| repeat' (first
    | with_reducible refine w_seq ?_
    | with_reducible refine w_op ?_
    | with_reducible refine w_asg ?_
    | with_reducible refine w_name ?_
    | with_reducible refine w_c ?_
    | with_reducible refine w_if ?_
    | with_reducible refine w_test ?_
    | with_reducible refine w_blP ?_
    | with_reducible refine w_cons ?_
    | with_reducible refine w_nil ?_
    | with_reducible refine w_ret ?_
    | with_reducible refine w_call ?_
    | ((with_reducible refine' w_var ?e ?_); (case e => rfl))
    | ((with_reducible refine ifST ?h ?_); (case h => decide +kernel))
    | ((with_reducible refine ifSF ?h ?_); (case h => decide +kernel))
    | ((with_reducible refine ifSNT ?h ?_); (case h => decide +kernel))
    | ((with_reducible refine ifSNF ?h ?_); (case h => decide +kernel))
    | with_reducible refine iteT ?_
    | with_reducible refine iteF ?_
    | with_reducible refine ifNT ?_
    | with_reducible refine ifNF ?_
    | (((with_reducible show @ite Prop (_ = true) _ _ _); refine @ifP _ _ _ _ ?_ ?_) <;> intro h <;> first | (with_reducible exact absurd rfl h) | skip)
    | (((with_reducible show @ite Prop (_ = true) _ _ _); refine @ifN _ _ _ _ ?_ ?_) <;> intro h <;> first | (with_reducible exact absurd rfl h) | skip)
    | with_reducible refine w_eqX ?_
    | with_reducible refine w_neX ?_
    | with_reducible refine w_add ?_
    | with_reducible refine w_sub ?_
    | with_reducible refine w_eqI ?_
    | with_reducible refine w_neI ?_
    | with_reducible refine w_lt ?_
    | with_reducible refine w_le ?_
    | with_reducible refine w_gt ?_
    | with_reducible refine w_ge ?_
    | with_reducible refine w_eqS ?_
    | with_reducible refine w_eqB ?_
    | with_reducible refine w_neS ?_
    | with_reducible refine w_neB ?_
    | with_reducible refine w_cb ?_
    | with_reducible refine w_tup ?_
    | with_reducible refine w_lst ?_
    | with_reducible refine w_next ?_
    | with_reducible refine w_drop ?_
    | with_reducible refine w_not ?_
    | with_reducible refine w_tru ?_
    | with_reducible refine w_and ?_
    | with_reducible refine w_or ?_
    | with_reducible refine w_andV ?_
    | with_reducible refine w_orV ?_
    | with_reducible refine w_notV ?_
    | with_reducible refine w_ifE ?_
    | with_reducible refine w_chain ?_
    | with_reducible refine w_retN ?_
    | with_reducible refine w_bm ?_
    | with_reducible refine w_raise ?_
    | with_reducible refine w_fld ?_
    | with_reducible refine w_meth ?_
    | with_reducible refine w_setf ?_
    | with_reducible refine w_for ?_
    | with_reducible refine w_rng1 ?_
    | with_reducible refine w_rng2 ?_
    | with_reducible refine w_iList ?_
    | with_reducible refine w_iTup ?_
    | with_reducible refine w_iStr ?_
    | with_reducible refine w_iRev ?_
    | with_reducible refine w_brk ?_
    | with_reducible refine w_cont ?_
    | with_reducible refine w_un ?_
    | with_reducible refine w_lc ?_
    | with_reducible refine w_yes ?_
    | with_reducible refine w_gsub ?_
    | with_reducible refine w_sl ?_
    | with_reducible refine w_part ?_
    | with_reducible refine w_noPart ?_
    | with_reducible refine w_wh ?_
    | with_reducible refine w_tryAs ?_
    | with_reducible refine w_try ?_
    | with_reducible refine w_make ?_
    | with_reducible refine w_dget ?_
    | with_reducible refine w_dput ?_
    | with_reducible refine w_gcons ?_
    | with_reducible refine w_gnil ?_
    | with_reducible refine w_augf ?_
    | with_reducible refine w_iEnum ?_
    | with_reducible refine w_iZip ?_
    | with_reducible refine w_iKeys ?_
    | with_reducible refine w_dget2 ?_
    | with_reducible refine w_dget1 ?_
    | with_reducible refine w_dpop1 ?_
    | with_reducible refine w_ddel ?_
    | with_reducible refine w_callX ?_
    | with_reducible refine w_augS ?_
    | with_reducible refine w_augSQ ?_
    | ((with_reducible refine' w_aug ?e ?_); (case e => rfl))
    | ((with_reducible refine w_mul ?s ?_); (case s => first | exact Or.inr ⟨by omega, by omega⟩ | exact Or.inl ⟨by omega, by omega⟩))
    | ((with_reducible refine w_div ?s ?_); (case s => omega))
    | ((with_reducible refine w_mod ?s ?_); (case s => first | omega | decide))
    | ((with_reducible refine w_pow ?s ?_); (case s => first | exact ⟨by decide, by decide, by decide⟩ | exact ⟨by decide, by decide, by omega⟩))
    | ((with_reducible refine w_newL ?s ?_); (case s => (first | exact (by decide) | (simp only [List.length_cons, List.length_nil]; omega))); intro _ _)
    | ((with_reducible refine w_newT ?s ?_); (case s => (first | exact (by decide) | (simp only [List.length_cons, List.length_nil]; omega))); intro _ _)
    | with_reducible refine w_eqX ?_
    | with_reducible refine w_neX ?_
    | with_reducible refine w_findX ?_
    | with_reducible refine w_countX ?_
    | ((with_reducible refine w_lenX ?s ?_); (case s => (first | omega | (simp only [List.length_append, List.length_cons, List.length_nil, List.length_take, List.length_drop, List.length_replicate, List.length_map, List.length_range] at *; omega) | (simp only [List.length_append, List.length_cons, List.length_nil, List.length_take, List.length_drop, List.length_replicate, List.length_map, List.length_range]; omega) | decide)))
    | ((with_reducible refine w_truX ?s ?_); (case s => (first | omega | (simp only [List.length_append, List.length_cons, List.length_nil, List.length_take, List.length_drop, List.length_replicate, List.length_map, List.length_range] at *; omega) | (simp only [List.length_append, List.length_cons, List.length_nil, List.length_take, List.length_drop, List.length_replicate, List.length_map, List.length_range]; omega) | decide)))
    | ((with_reducible refine w_addX ?s ?_); (case s => (first | omega | (simp only [List.length_append, List.length_cons, List.length_nil, List.length_take, List.length_drop, List.length_replicate, List.length_map, List.length_range] at *; omega) | (simp only [List.length_append, List.length_cons, List.length_nil, List.length_take, List.length_drop, List.length_replicate, List.length_map, List.length_range]; omega) | decide)))
    | ((with_reducible refine w_mulX ?h0 ?h1 ?_); (case h0 => (first | omega | (simp only [List.length_append, List.length_cons, List.length_nil, List.length_take, List.length_drop, List.length_replicate, List.length_map, List.length_range] at *; omega) | (simp only [List.length_append, List.length_cons, List.length_nil, List.length_take, List.length_drop, List.length_replicate, List.length_map, List.length_range]; omega) | decide)); (case h1 => (first | omega | (simp only [List.length_append, List.length_cons, List.length_nil, List.length_take, List.length_drop, List.length_replicate, List.length_map, List.length_range] at *; omega) | (simp only [List.length_append, List.length_cons, List.length_nil, List.length_take, List.length_drop, List.length_replicate, List.length_map, List.length_range]; omega) | decide)))
    | ((with_reducible refine w_tkX ?s ?h0 ?_); (case s => (first | omega | (simp only [List.length_append, List.length_cons, List.length_nil, List.length_take, List.length_drop, List.length_replicate, List.length_map, List.length_range] at *; omega) | (simp only [List.length_append, List.length_cons, List.length_nil, List.length_take, List.length_drop, List.length_replicate, List.length_map, List.length_range]; omega) | decide)); (case h0 => (first | omega | (simp only [List.length_append, List.length_cons, List.length_nil, List.length_take, List.length_drop, List.length_replicate, List.length_map, List.length_range] at *; omega) | (simp only [List.length_append, List.length_cons, List.length_nil, List.length_take, List.length_drop, List.length_replicate, List.length_map, List.length_range]; omega) | decide)))
    | ((with_reducible refine w_dpX ?s ?h0 ?_); (case s => (first | omega | (simp only [List.length_append, List.length_cons, List.length_nil, List.length_take, List.length_drop, List.length_replicate, List.length_map, List.length_range] at *; omega) | (simp only [List.length_append, List.length_cons, List.length_nil, List.length_take, List.length_drop, List.length_replicate, List.length_map, List.length_range]; omega) | decide)); (case h0 => (first | omega | (simp only [List.length_append, List.length_cons, List.length_nil, List.length_take, List.length_drop, List.length_replicate, List.length_map, List.length_range] at *; omega) | (simp only [List.length_append, List.length_cons, List.length_nil, List.length_take, List.length_drop, List.length_replicate, List.length_map, List.length_range]; omega) | decide)))
    | ((with_reducible refine w_ixX ?s ?h0 ?_); (case s => (first | omega | (simp only [List.length_append, List.length_cons, List.length_nil, List.length_take, List.length_drop, List.length_replicate, List.length_map, List.length_range] at *; omega) | (simp only [List.length_append, List.length_cons, List.length_nil, List.length_take, List.length_drop, List.length_replicate, List.length_map, List.length_range]; omega) | decide)); (case h0 => (first | omega | (simp only [List.length_append, List.length_cons, List.length_nil, List.length_take, List.length_drop, List.length_replicate, List.length_map, List.length_range] at *; omega) | (simp only [List.length_append, List.length_cons, List.length_nil, List.length_take, List.length_drop, List.length_replicate, List.length_map, List.length_range]; omega) | decide)))
    | with_reducible refine w_max ?_
    | with_reducible refine w_min ?_
    | with_reducible refine w_eqNI ?_
    | with_reducible refine w_neNI ?_
    | with_reducible refine w_eqIN ?_
    | with_reducible refine w_neIN ?_
    | with_reducible refine w_neNN ?_
    | with_reducible refine w_eqNN ?_
    | with_reducible refine w_abs ?_
    | with_reducible refine w_intI ?_
    | with_reducible refine w_intB ?_
    | with_reducible refine w_ipI ?_
    | with_reducible refine w_bmS ?_
    | with_reducible refine w_iStrv ?_
    | with_reducible refine w_neg ?_
    | with_reducible refine w_partI ?_
    | with_reducible refine w_truB ?_
    | with_reducible refine w_truN ?_
    | with_reducible refine w_truI ?_
    | with_reducible refine w_isi_int_int ?_
    | with_reducible refine w_isi_int_bl ?_
    | with_reducible refine w_isi_int_str ?_
    | with_reducible refine w_isi_int_non ?_
    | with_reducible refine w_isi_bool_int ?_
    | with_reducible refine w_isi_bool_bl ?_
    | with_reducible refine w_isi_bool_str ?_
    | with_reducible refine w_isi_bool_non ?_
    | with_reducible refine w_isi_str_int ?_
    | with_reducible refine w_isi_str_bl ?_
    | with_reducible refine w_isi_str_str ?_
    | with_reducible refine w_isi_str_non ?_
    | with_reducible refine w_isi_list_int ?_
    | with_reducible refine w_isi_list_bl ?_
    | with_reducible refine w_isi_list_str ?_
    | with_reducible refine w_isi_list_non ?_
    | with_reducible refine w_isi_tuple_int ?_
    | with_reducible refine w_isi_tuple_bl ?_
    | with_reducible refine w_isi_tuple_str ?_
    | with_reducible refine w_isi_tuple_non ?_
    | with_reducible refine w_is_int ?_
    | with_reducible refine w_isnt_int ?_
    | with_reducible refine w_is_bl ?_
    | with_reducible refine w_isnt_bl ?_
    | with_reducible refine w_is_str ?_
    | with_reducible refine w_isnt_str ?_
    | with_reducible refine w_is_non ?_
    | with_reducible refine w_isnt_non ?_
    | with_reducible refine w_is_ref ?_
    | with_reducible refine w_isnt_ref ?_
    | ((with_reducible refine w_asT ?e ?_); (case e => walk_at "te"); intro _ _)
    | ((with_reducible refine w_onT ?e ?_); (case e => walk_at "te"); intro _ _)
    | ((with_reducible refine w_asF ?e ?_); (case e => walk_at "te"))
    | ((with_reducible refine w_onF ?e ?_); (case e => walk_at "te"))
    | ((with_reducible apply w_isE); (· walk_at "xc"); (· walk_at "kt"))
    | ((with_reducible apply w_lenL); (· walk_at "hk"))
    | ((with_reducible apply w_lenT); (· walk_at "hk"))
    | ((with_reducible apply w_bmL); (· walk_at "hk"))
    | ((with_reducible refine w_rng1v ?h1 ?h2 ?_); (case h1 => (first | omega | (simp only [List.length_map] at *; omega))); (case h2 => (first | omega | (simp only [List.length_map] at *; omega))))
    | ((with_reducible refine w_rng2v ?h1 ?_); (case h1 => (first | omega | (simp only [List.length_map] at *; omega))))
    | ((with_reducible apply w_ixI); (· walk_at "hk"); (· (first | omega | (simp only [List.length_map] at *; omega))))
    | ((with_reducible apply w_ixTI); (· walk_at "hk"); (· (first | omega | (simp only [List.length_map] at *; omega))))
    | ((with_reducible apply w_ixBl); (· walk_at "hk"); (· (first | omega | (simp only [List.length_map] at *; omega))))
    | ((with_reducible apply w_getI2); (· walk_at "hk"); (· (first | omega | (simp only [List.length_map] at *; omega))))
    | ((with_reducible apply w_ixTl); (· walk_at "hk"); (· rfl); (· decide))
    | ((with_reducible apply w_ixLl); (· walk_at "hk"); (· rfl); (· decide))
    | ((with_reducible apply w_appI); (· walk_at "hk"); (· (first | omega | (simp only [List.length_append, List.length_cons, List.length_nil]; omega))))
    | ((with_reducible apply w_iListv); (· walk_at "hk"))
    | ((with_reducible apply w_iTupv); (· walk_at "hk"))
    | ((with_reducible apply w_iRevv); (· walk_at "hk"))
    | ((with_reducible apply w_iEnumv); (· walk_at "hk"))
    | ((with_reducible apply w_iZipv); (· walk_at "hk"); (· walk_at "hk"))
    | ((with_reducible apply w_dget2v); (· walk_at "hk"))
    | ((with_reducible apply w_dget1v); (· walk_at "hk"))
    | ((with_reducible apply w_dpop1v); (· walk_at "hk"))
    | ((with_reducible apply w_getI); (· walk_at "hk"))
    | ((with_reducible apply w_inD); (· walk_at "hk"))
    | ((with_reducible apply w_ninD); (· walk_at "hk"))
    | ((with_reducible apply w_rep1); (· walk_at "hk"); (· (first | omega | (simp only [List.length_append, List.length_cons, List.length_nil, List.length_take, List.length_drop, List.length_replicate, List.length_map, List.length_range] at *; omega) | (simp only [List.length_append, List.length_cons, List.length_nil, List.length_take, List.length_drop, List.length_replicate, List.length_map, List.length_range]; omega) | decide)); (· (first | omega | (simp only [List.length_append, List.length_cons, List.length_nil, List.length_take, List.length_drop, List.length_replicate, List.length_map, List.length_range] at *; omega) | (simp only [List.length_append, List.length_cons, List.length_nil, List.length_take, List.length_drop, List.length_replicate, List.length_map, List.length_range]; omega) | decide)); intro _ _)
    | ((with_reducible apply w_gtup2); (· walk_at "hk"))
    | ((with_reducible apply w_gtup3); (· walk_at "hk"))
    | ((with_reducible apply w_gtup4); (· walk_at "hk"))
    | ((with_reducible refine w_newD ?_); intro _ _)
    | ((with_reducible apply w_augsub); (· walk_at "hk"); (· rfl); (· exact Nat.le_of_ble_eq_true rfl))
    | ((with_reducible apply w_augadd); (· walk_at "hk"); (· rfl); (· exact Nat.le_of_ble_eq_true rfl))
    | ((with_reducible apply w_fldv); (· walk_at "hk"); (· rfl))
    | ((with_reducible apply w_methv); (· walk_at "hk"); (· rfl))
    | ((with_reducible apply w_setfv); (· walk_at "hk"); (· exact Nat.le_of_ble_eq_true rfl); (· rfl))
    | walk_at "x"))
/-- the addresses that the readings speak of -/
structure Ex where
  (LaminaError NotValid PowerOff NoProcess BadHandle NoVolume ReadOnly BadName Missing WrongKind Exists LoopFound CrossVolume Busy NotEmpty TooMany TooLong OverQuota NoSpace BadImage : Addr := 0)
  (Disk Head Space Store OpenFiles Handles Processes Log Accounts Session System : Addr := 0)
  (POINTER_KINDS MODES : Addr := 0)
/-- what is known of the exceptions' classes -/
structure Fa (K : PySem.W.Frag) (C : Ex) : Prop where
  fa0 : True
  te_LaminaError_LaminaError : PySem.W.exmOne K (.ref C.LaminaError) (.ref C.LaminaError) = some true
  te_NotValid_LaminaError : PySem.W.exmOne K (.ref C.NotValid) (.ref C.LaminaError) = some true
  te_PowerOff_LaminaError : PySem.W.exmOne K (.ref C.PowerOff) (.ref C.LaminaError) = some true
  te_NoSpace_LaminaError : PySem.W.exmOne K (.ref C.NoSpace) (.ref C.LaminaError) = some true
  kt_LaminaError_NotValid : PySem.W.kitOne K (.ref C.LaminaError) (.ref C.NotValid) = some false
  kt_NotValid_NotValid : PySem.W.kitOne K (.ref C.NotValid) (.ref C.NotValid) = some true
  kt_PowerOff_NotValid : PySem.W.kitOne K (.ref C.PowerOff) (.ref C.NotValid) = some false
  kt_NoSpace_NotValid : PySem.W.kitOne K (.ref C.NoSpace) (.ref C.NotValid) = some false
  kt_LaminaError_NoSpace : PySem.W.kitOne K (.ref C.LaminaError) (.ref C.NoSpace) = some false
  kt_NotValid_NoSpace : PySem.W.kitOne K (.ref C.NotValid) (.ref C.NoSpace) = some false
  kt_PowerOff_NoSpace : PySem.W.kitOne K (.ref C.PowerOff) (.ref C.NoSpace) = some false
  kt_NoSpace_NoSpace : PySem.W.kitOne K (.ref C.NoSpace) (.ref C.NoSpace) = some true
  xc_LaminaError : ExcC K C.LaminaError
  xc_NotValid : ExcC K C.NotValid
  xc_PowerOff : ExcC K C.PowerOff
  xc_NoSpace : ExcC K C.NoSpace
local macro_rules | `(tactic| walk_at "te") => `(tactic| first | exact Fa.te_LaminaError_LaminaError (by assumption) | exact Fa.te_NotValid_LaminaError (by assumption) | exact Fa.te_PowerOff_LaminaError (by assumption) | exact Fa.te_NoSpace_LaminaError (by assumption))
local macro_rules | `(tactic| walk_at "kt") => `(tactic| first | exact Fa.kt_LaminaError_NotValid (by assumption) | exact Fa.kt_NotValid_NotValid (by assumption) | exact Fa.kt_PowerOff_NotValid (by assumption) | exact Fa.kt_NoSpace_NotValid (by assumption) | exact Fa.kt_LaminaError_NoSpace (by assumption) | exact Fa.kt_NotValid_NoSpace (by assumption) | exact Fa.kt_PowerOff_NoSpace (by assumption) | exact Fa.kt_NoSpace_NoSpace (by assumption))
local macro_rules | `(tactic| walk_at "xc") => `(tactic| first | exact Fa.xc_LaminaError (by assumption) | exact Fa.xc_NotValid (by assumption) | exact Fa.xc_PowerOff (by assumption) | exact Fa.xc_NoSpace (by assumption))
def S1 (f : V → Hp → VK → XK → Prop) : Sp := fun vs H Q E => ∃ a, vs = [a] ∧ f a H Q E
def S2 (f : V → V → Hp → VK → XK → Prop) : Sp := fun vs H Q E => ∃ a b, vs = [a, b] ∧ f a b H Q E
def S3 (f : V → V → V → Hp → VK → XK → Prop) : Sp := fun vs H Q E => ∃ a b c, vs = [a, b, c] ∧ f a b c H Q E
def S4 (f : V → V → V → V → Hp → VK → XK → Prop) : Sp := fun vs H Q E => ∃ a b c d, vs = [a, b, c, d] ∧ f a b c d H Q E
def S5 (f : V → V → V → V → V → Hp → VK → XK → Prop) : Sp := fun vs H Q E => ∃ a b c d e, vs = [a, b, c, d, e] ∧ f a b c d e H Q E
section
variable {vs : List V} {H : Hp} {Q : VK} {E : XK} {a b c d e : V}
theorem len1 {f} (h : S1 f vs H Q E) : vs.length = 1 := by obtain ⟨_, rfl, _⟩ := h; rfl
theorem len2 {f} (h : S2 f vs H Q E) : vs.length = 2 := by obtain ⟨_, _, rfl, _⟩ := h; rfl
theorem len3 {f} (h : S3 f vs H Q E) : vs.length = 3 := by obtain ⟨_, _, _, rfl, _⟩ := h; rfl
theorem len4 {f} (h : S4 f vs H Q E) : vs.length = 4 := by obtain ⟨_, _, _, _, rfl, _⟩ := h; rfl
theorem len5 {f} (h : S5 f vs H Q E) : vs.length = 5 := by obtain ⟨_, _, _, _, _, rfl, _⟩ := h; rfl
theorem w_S1 {f} (h : f a H Q E) : S1 f [a] H Q E := ⟨a, rfl, h⟩
theorem w_S2 {f} (h : f a b H Q E) : S2 f [a, b] H Q E := ⟨a, b, rfl, h⟩
theorem w_S3 {f} (h : f a b c H Q E) : S3 f [a, b, c] H Q E := ⟨a, b, c, rfl, h⟩
theorem w_S4 {f} (h : f a b c d H Q E) : S4 f [a, b, c, d] H Q E := ⟨a, b, c, d, rfl, h⟩
theorem w_S5 {f} (h : f a b c d e H Q E) : S5 f [a, b, c, d, e] H Q E := ⟨a, b, c, d, e, rfl, h⟩
end
theorem lt_line {n : Nat} (h : n < 10000000) : n < sizeLine := Nat.lt_of_lt_of_le h (by decide)
/-- what isinstance may ask: a scalar, or an object that is a list, a tuple, a dict -/
def Known (K : PySem.W.Frag) (H : Hp) : V → Prop
  | .ref a => ∃ o : Ob, TyX K H (.ref a) (.type o.nm)
  | .byt _ => False
  | .flt _ => False
  | .ty _ => False
  | _ => True
abbrev spLaw (K : PySem.W.Frag) : Sp := S1 fun a H Q _ => ∃ (p : Addr) (ns : List Int), a = .ref p ∧ SqL K H p (ns.map V.int) ∧ ns.length ≤ 63 ∧ ∀ H', Q (.bl true) H'
/-- an item of a mapped list -/
theorem at_int {ns : List Int} {i : Nat} {x : V} (h : (ns.map V.int)[i]? = some x) : ∃ n, ns[i]? = some n ∧ x = .int n := by
  rw [List.getElem?_map] at h
  cases e : ns[i]? with
  | none => rw [e] at h; cases h
  | some n => rw [e] at h; exact ⟨n, rfl, (Option.some.inj h).symm⟩
theorem int_at {ns : List Int} {i : Nat} (h : i < ns.length) : (ns.map V.int)[i]? = some (.int (ns.getD i 0)) := by
  rw [List.getElem?_map, List.getElem?_eq_getElem h, List.getD_eq_getElem?_getD, List.getElem?_eq_getElem h]
  rfl
theorem tyx_list {K : PySem.W.Frag} {H : Hp} {p : Addr} {xs : List V} (h : SqL K H p xs) : TyX K H (.ref p) (.type U.Ob.list.nm) := by
  rcases h with (h | ⟨o, h⟩) | ⟨o, its, n, e, c, _⟩
  · exact .base (.lst h)
  · exact .base (.frz h)
  · exact .kList e c
theorem tyx_tup {K : PySem.W.Frag} {H : Hp} {p : Addr} {xs : List V} (h : SqT K H p xs) : TyX K H (.ref p) (.type U.Ob.tuple.nm) := by
  rcases h with (h | ⟨o, h⟩) | ⟨o, its, n, e, c, _⟩
  · exact .base (.tup h)
  · exact .fTuple h
  · exact .kTuple e c
theorem w_isiO {K : PySem.W.Frag} {H : Hp} {Q : VK} {p : Addr} {n : Ty} (o : U.Ob) (t : TyX K H (.ref p) (.type o.nm)) (h : Q (.bl (isO n o)) H) : uIsi K n [.ref p, .ty n.nm] H Q := ⟨rfl, o, t, h⟩
theorem w_isi_list_L {K : PySem.W.Frag} {H : Hp} {Q : VK} {p : Addr} {xs : List V} (e : SqL K H p xs) (h : Q (.bl true) H) : uIsi K .list [.ref p, .ty "list"] H Q := ⟨rfl, .list, tyx_list e, h⟩
theorem w_isi_tuple_T {K : PySem.W.Frag} {H : Hp} {Q : VK} {p : Addr} {xs : List V} (e : SqT K H p xs) (h : Q (.bl true) H) : uIsi K .tuple [.ref p, .ty "tuple"] H Q := ⟨rfl, .tuple, tyx_tup e, h⟩
/-- a value that is known not to be a list -/
def NoList (K : PySem.W.Frag) (H : Hp) : V → Prop
  | .ref a => ∃ o : U.Ob, o ≠ .list ∧ TyX K H (.ref a) (.type o.nm)
  | .byt _ => False
  | .flt _ => False
  | .ty _ => False
  | _ => True
theorem all_take {α : Type} {p : α → Bool} {xs : List α} {i : Nat} {x : α} (h : xs[i]? = some x) (ha : (xs.take i).all p = true) (hx : p x = true) : (xs.take (i + 1)).all p = true := by
  have hb := (List.getElem?_eq_some_iff.mp h)
  obtain ⟨hl, he⟩ := hb
  rw [List.take_succ_eq_append_getElem hl, List.all_append, ha, he]
  simp [hx]
theorem all_not {α : Type} {p : α → Bool} {xs : List α} {i : Nat} {x : α} (h : xs[i]? = some x) (hx : p x = false) : xs.all p = false := by
  rw [List.all_eq_false]
  exact ⟨x, List.mem_of_getElem? h, by simp [hx]⟩
theorem take_snoc {α : Type} {l : List α} {i : Nat} {c : α} (h : l[i]? = some c) : l.take (i + 1) = l.take i ++ [c] := by
  obtain ⟨hl, he⟩ := List.getElem?_eq_some_iff.mp h
  rw [List.take_succ_eq_append_getElem hl, he]
def isWord : V → Bool
  | .int i => decide (0 ≤ i)
  | _ => false
def sp_is_word (K : PySem.W.Frag) (_ : Ex) : Sp := S1 fun a H Q _ => Known K H a ∧ Q (.bl (isWord a)) H
def t_is_word (K : PySem.W.Frag) (C : Ex) (E : XK) : TS :=
  tSeq (tIfS (tOr (tNot (uTru K (tCB (uIsi K .int) (tCons (tVar 0) (tCons (tC (.ty "int")) (tNil)))))) (uTru K (tCB (uIsi K .bool) (tCons (tVar 0) (tCons (tC (.ty "bool")) (tNil)))))) (tRet (tC (.bl false))) (tNext))
  (tRet (tOp (uGe K) (tVar 0) (tC (.int 0))))
theorem pure_is_word {K : PySem.W.Frag} {C : Ex} {vs : List V} {H : Hp} {Q : VK} {E : XK} (F : Fa K C) (h : sp_is_word K C vs H Q E) : t_is_word K C E { nx := fun _ H' => Q .non H', rt := Q } (start ["value"] vs) H := by
  obtain ⟨a, rfl, hk, k⟩ := h
  unfold t_is_word
  cases a with
  | non => walk_at "run"; exact k
  | bl b => walk_at "run"; exact k
  | int i => walk_at "run"; exact k
  | str z => walk_at "run"; exact k
  | ref p =>
    obtain ⟨o, ho⟩ := hk
    walk_at "run1"
    refine ⟨rfl, o, ho, ?_⟩
    cases o <;> (walk_at "run"; exact k)
  | _ => exact hk.elim
def btw (lo hi : Int) : V → Bool
  | .int i => decide (lo ≤ i) && decide (i ≤ hi)
  | _ => false
theorem btw_i (lo hi i : Int) : btw lo hi (.int i) = (decide (lo ≤ i) && decide (i ≤ hi)) := rfl
def sp_is_between (K : PySem.W.Frag) (_ : Ex) : Sp := S3 fun a b c H Q _ => ∃ lo hi : Int, b = .int lo ∧ c = .int hi ∧ Known K H a ∧ Q (.bl (btw lo hi a)) H
def t_is_between (K : PySem.W.Frag) (C : Ex) (E : XK) : TS :=
  tSeq (tIfS (tOr (tNot (uTru K (tCB (uIsi K .int) (tCons (tVar 0) (tCons (tC (.ty "int")) (tNil)))))) (uTru K (tCB (uIsi K .bool) (tCons (tVar 0) (tCons (tC (.ty "bool")) (tNil)))))) (tRet (tC (.bl false))) (tNext))
  (tRet (tChain (uLe K) (uLe K) (tVar 1) (tVar 0) (tVar 2)))
theorem pure_is_between {K : PySem.W.Frag} {C : Ex} {vs : List V} {H : Hp} {Q : VK} {E : XK} (F : Fa K C) (h : sp_is_between K C vs H Q E) : t_is_between K C E { nx := fun _ H' => Q .non H', rt := Q } (start ["value", "low", "high"] vs) H := by
  obtain ⟨a, b, c, rfl, lo, hi, rfl, rfl, hk, k⟩ := h
  unfold t_is_between
  cases a with
  | non => walk_at "run"; exact k
  | bl b => walk_at "run"; exact k
  | int i =>
    walk_at "run1"
    · rename_i h
      rw [btw_i, decide_eq_true h, Bool.true_and] at k
      exact k
    · walk_at "run1"
      rename_i h
      rw [btw_i, decide_eq_false h, Bool.false_and] at k
      exact k
  | str z => walk_at "run"; exact k
  | ref p =>
    obtain ⟨o, ho⟩ := hk
    walk_at "run1"
    refine ⟨rfl, o, ho, ?_⟩
    cases o <;> (walk_at "run"; exact k)
  | _ => exact hk.elim
theorem btw_int {lo hi i : Int} (h1 : lo ≤ i) (h2 : i ≤ hi) : btw lo hi (.int i) = true := by rw [btw_i, decide_eq_true h1, decide_eq_true h2]; rfl
theorem btw_inv {lo hi : Int} {v : V} (h : btw lo hi v = true) : ∃ i, v = .int i ∧ lo ≤ i ∧ i ≤ hi := by
  cases v <;> first | (cases h; done) | skip
  rename_i i
  exact ⟨i, rfl, of_decide_eq_true (Bool.and_eq_true_iff.mp h).1, of_decide_eq_true (Bool.and_eq_true_iff.mp h).2⟩
def sp_are_words (K : PySem.W.Frag) (_ : Ex) : Sp := S2 fun a b H Q _ => ∃ m : Int, b = .int m ∧
  ((∃ p xs, a = .ref p ∧ SqL K H p xs ∧ (∀ x ∈ xs, Known K H x) ∧ Q (.bl (decide ((xs.length : Int) = m) && xs.all isWord)) H) ∨ (NoList K H a ∧ Q (.bl false) H))
def t_are_words (K : PySem.W.Frag) (C : Ex) (E : XK) : TS :=
  tSeq (tIfS (tOr (tNot (uTru K (tCB (uIsi K .list) (tCons (tVar 0) (tCons (tC (.ty "list")) (tNil)))))) (tTest (tOp (uNe K) (tCB (uLen K) (tCons (tVar 0) (tNil))) (tVar 1)))) (tRet (tC (.bl false))) (tNext))
  (tSeq (tFor (iList K (tVar 0)) (gName 2)
  (tIfS (tNot (uTru K (uCall (sp_is_word K C) (WB E) (tCons (tVar 2) (tNil))))) (tRet (tC (.bl false))) (tNext)))
  (tRet (tC (.bl true))))
theorem pure_are_words {K : PySem.W.Frag} {C : Ex} {vs : List V} {H : Hp} {Q : VK} {E : XK} (F : Fa K C) (h : sp_are_words K C vs H Q E) : t_are_words K C E { nx := fun _ H' => Q .non H', rt := Q } (start ["values", "many", "value"] vs) H := by
  obtain ⟨a, b, rfl, m, rfl, ⟨p, xs, rfl, hS, hk, k⟩ | ⟨hn, k⟩⟩ := h
  · unfold t_are_words
    walk_at "run1"
    refine w_isi_list_L hS ?_
    walk_at "run1"
    · walk_at "run1"
      rename_i hne
      rw [decide_eq_false hne] at k
      exact k
    · walk_at "run1"
      rename_i he
      refine f_list (xs := xs) (fun i σ H' => H' = H ∧ (∃ v, σ = [some (.ref p), some (.int m), v]) ∧ (xs.take i).all isWord = true) ⟨rfl, ⟨none, rfl⟩, rfl⟩ (by rintro i σ H' _ ⟨rfl, _⟩; exact hS) ?_ ?_
      · rintro i x σ H' hx ⟨rfl, ⟨v, rfl⟩, ha⟩
        walk_at "run1"
        refine w_S1 ⟨hk x (List.mem_of_getElem? hx), ?_⟩
        walk_at "run1"
        refine ifBN (fun hf => ?_) (fun ht => ?_)
        · walk_at "run1"
          rw [all_not hx hf, Bool.and_false] at k
          exact k
        · walk_at "run1"
          exact ⟨rfl, ⟨_, rfl⟩, all_take hx ha ht⟩
      · rintro σ H' ⟨rfl, ⟨v, rfl⟩, ha⟩
        walk_at "run1"
        rw [List.take_length] at ha
        rw [ha, decide_eq_true he] at k
        exact k
  · unfold t_are_words
    cases a with
    | ref p =>
      obtain ⟨o, ho, ht⟩ := hn
      walk_at "run1"
      refine ⟨rfl, o, ht, ?_⟩
      cases o with
      | list => exact absurd rfl ho
      | _ => walk_at "run"; exact k
    | byt _ => exact hn.elim
    | flt _ => exact hn.elim
    | ty _ => exact hn.elim
    | _ => walk_at "run"; exact k
def TapeOk (ts : List Int) : Prop := (∀ t ∈ ts, 0 ≤ t ∧ t < 1000) ∧ ts.length ≤ 3780
theorem TapeOk.app {ts : List Int} {z : Int} (h : ∀ t ∈ ts, 0 ≤ t ∧ t < 1000) (h0 : 0 ≤ z) (h1 : z < 1000) : ∀ t ∈ ts ++ [z], 0 ≤ t ∧ t < 1000 := by
  intro t ht
  rcases List.mem_append.mp ht with ht | ht
  · exact h t ht
  · rw [List.mem_singleton.mp ht]; exact ⟨h0, h1⟩
def sp__law_tape (K : PySem.W.Frag) (_ : Ex) : Sp := S1 fun a H Q _ => ∃ (p : Addr) (ns : List Int), a = .ref p ∧ SqL K H p (ns.map V.int) ∧ ns.length ≤ 63 ∧
  ∀ H' l ts, Same H H' → H l = none → H' l = some (.lst (ts.map V.int)) → TapeOk ts → Q (.ref l) H'
def t__law_tape (K : PySem.W.Frag) (C : Ex) (E : XK) : TS :=
  tSeq (tAsg (tLst (tNil)) (gName 1))
  (tSeq (tFor (iRng1 (tCons (tCB (uLen K) (tCons (tVar 0) (tNil))) (tNil))) (gName 2)
  (tSeq (tAsg (tCB (uAbs) (tCons (tCB (uInt) (tCons (tOp (uIx K) (tVar 0) (tVar 2)) (tNil))) (tNil))) (gName 3))
  (tIfS (tTest (tOp (uGe K) (tVar 3) (tOp (uPow) (tC (.int 10)) (tC (.int 18))))) (tFor (iRng1 (tCons (tC (.int 60)) (tNil))) (gName 4)
  (tIfS (tTest (tOp (uGt) (tVar 3) (tC (.int 0)))) (tSeq (tDrop (tBM K "list" (rAppend) (tVar 1) (tCons (tOp (uMod) (tVar 3) (tC (.int 1000))) (tNil))))
  (tAsg (tOp (uDiv) (tVar 3) (tC (.int 1000))) (gName 3))) (tNext))) (tFor (iRng1 (tCons (tC (.int 4)) (tNil))) (gName 4)
  (tSeq (tAsg (tOp (uMod) (tOp (uAdd K) (tOp (uAdd K) (tOp (uMul) (tVar 3) (tC (.int 48271))) (tOp (uMul) (tC (.int 69621)) (tOp (uAdd K) (tVar 2) (tC (.int 1))))) (tOp (uMul) (tC (.int 7)) (tVar 4))) (tC (.int 2147483647))) (gName 3))
  (tSeq (tAsg (tOp (uMod) (tOp (uMul) (tVar 3) (tC (.int 16807))) (tC (.int 2147483647))) (gName 3))
  (tDrop (tBM K "list" (rAppend) (tVar 1) (tCons (tOp (uMod) (tOp (uDiv) (tVar 3) (tC (.int 1000))) (tC (.int 1000))) (tNil))))))))))
  (tRet (tVar 1)))
theorem pure__law_tape {K : PySem.W.Frag} {C : Ex} {vs : List V} {H : Hp} {Q : VK} {E : XK} (F : Fa K C) (h : sp__law_tape K C vs H Q E) : t__law_tape K C E { nx := fun _ H' => Q .non H', rt := Q } (start ["_law_script", "_law_tape_here", "_law_k", "_law_value", "_law_step"] vs) H := by
  obtain ⟨a, rfl, p, ns, rfl, hS, hn, k⟩ := h
  unfold t__law_tape
  walk_at "run1"
  rename_i l hl
  refine f_range (fun i σ H' => ∃ v2 v3 v4 ts, σ = [some (.ref p), some (.ref l), v2, v3, v4] ∧ Same H H' ∧ H' l = some (.lst (ts.map V.int)) ∧ (∀ t ∈ ts, 0 ≤ t ∧ t < 1000) ∧ ts.length ≤ 60 * i)
    ⟨none, none, none, [], rfl, same_new hl, upd_same, by simp, Nat.zero_le _⟩ ?_ ?_
  · rintro i σ H1 hi ⟨v2, v3, v4, ts, rfl, hs, hl1, ht, hz⟩
    have hi' : i < ns.length := by simp only [List.length_map] at hi; omega
    have hS1 := hs.seq hS
    walk_at "run1"
    · have h0 : 0 ≤ (if ns.getD (0 + (i : Int)).toNat 0 < 0 then -ns.getD (0 + (i : Int)).toNat 0 else ns.getD (0 + (i : Int)).toNat 0) := by split <;> omega
      generalize (if ns.getD (0 + (i : Int)).toNat 0 < 0 then -ns.getD (0 + (i : Int)).toNat 0 else ns.getD (0 + (i : Int)).toNat 0) = z at *
      refine f_range (fun j σ H' => ∃ (z : Int) (v4 : Option V) (ts : List Int), σ = [some (.ref p), some (.ref l), some (.int (0 + (i : Int))), some (.int z), v4] ∧ 0 ≤ z ∧ Same H H' ∧ H' l = some (.lst (ts.map V.int)) ∧ (∀ t ∈ ts, 0 ≤ t ∧ t < 1000) ∧ ts.length ≤ 60 * i + j)
        ⟨z, v4, ts, rfl, h0, hs, hl1, ht, hz⟩ ?_ ?_
      · rintro j σ H2 hj ⟨z, v4, ts, rfl, hz0, hs, hl1, ht, hz⟩
        have hj' : j < 60 := hj
        walk_at "run1"
        · exact ⟨_, _, _, rfl, by omega, same_upd hs hl, upd_same, TapeOk.app ht (by omega) (by omega), by simp only [List.length_append, List.length_cons, List.length_nil]; omega⟩
        · walk_at "run1"
          exact ⟨_, _, _, rfl, by omega, hs, hl1, ht, by omega⟩
      · rintro σ H2 ⟨z, v4, ts, rfl, hz0, hs, hl1, ht, hz⟩
        exact ⟨_, _, _, _, rfl, hs, hl1, ht, by have : (60 : Int).toNat = 60 := rfl; omega⟩
    · have h0 : 0 ≤ (if ns.getD (0 + (i : Int)).toNat 0 < 0 then -ns.getD (0 + (i : Int)).toNat 0 else ns.getD (0 + (i : Int)).toNat 0) := by split <;> omega
      generalize (if ns.getD (0 + (i : Int)).toNat 0 < 0 then -ns.getD (0 + (i : Int)).toNat 0 else ns.getD (0 + (i : Int)).toNat 0) = z at *
      have h18 : z < 10 ^ 18 := by
        have e : (18 : Int).toNat = 18 := rfl
        rename_i hne
        rw [e] at hne
        omega
      walk_at "run1"
      refine f_range (fun j σ H' => ∃ (z : Int) (v4 : Option V) (ts : List Int), σ = [some (.ref p), some (.ref l), some (.int (0 + (i : Int))), some (.int z), v4] ∧ (0 ≤ z ∧ z < 10 ^ 18) ∧ Same H H' ∧ H' l = some (.lst (ts.map V.int)) ∧ (∀ t ∈ ts, 0 ≤ t ∧ t < 1000) ∧ ts.length ≤ 60 * i + j)
        ⟨z, v4, ts, rfl, ⟨h0, h18⟩, hs, hl1, ht, hz⟩ ?_ ?_
      · rintro j σ H2 hj ⟨z, v4, ts, rfl, hz0, hs, hl1, ht, hz⟩
        have hj' : j < 4 := hj
        walk_at "run1"
        exact ⟨_, _, _, rfl, by omega, same_upd hs hl, upd_same, TapeOk.app ht (by omega) (by omega), by simp only [List.length_append, List.length_cons, List.length_nil]; omega⟩
      · rintro σ H2 ⟨z, v4, ts, rfl, hz0, hs, hl1, ht, hz⟩
        exact ⟨_, _, _, _, rfl, hs, hl1, ht, by have : (4 : Int).toNat = 4 := rfl; omega⟩
  · rintro σ H1 ⟨v2, v3, v4, ts, rfl, hs, hl1, ht, hz⟩
    walk_at "run1"
    exact k _ _ ts hs hl hl1 ⟨ht, by simp only [List.length_map] at hz; omega⟩
def sp__law_at (K : PySem.W.Frag) (_ : Ex) : Sp := S2 fun a b H Q _ => ∃ (p : Addr) (ts : List Int) (k : Int), a = .ref p ∧ b = .int k ∧ SqL K H p (ts.map V.int) ∧ 0 ≤ k ∧ Q (.int (ts.getD k.toNat 0)) H
def t__law_at (K : PySem.W.Frag) (C : Ex) (E : XK) : TS :=
  tSeq (tIfS (tTest (tOp (uLt K) (tVar 1) (tCB (uLen K) (tCons (tVar 0) (tNil))))) (tRet (tOp (uIx K) (tVar 0) (tVar 1))) (tNext))
  (tRet (tC (.int 0)))
theorem pure__law_at {K : PySem.W.Frag} {C : Ex} {vs : List V} {H : Hp} {Q : VK} {E : XK} (F : Fa K C) (h : sp__law_at K C vs H Q E) : t__law_at K C E { nx := fun _ H' => Q .non H', rt := Q } (start ["_law_tape_here", "_law_k"] vs) H := by
  obtain ⟨a, b, rfl, p, ts, k, rfl, rfl, hS, hk, q⟩ := h
  unfold t__law_at
  walk_at "run1"
  · walk_at "run1"
    exact q
  · walk_at "run1"
    rename_i hlt
    rw [List.getD_eq_getElem?_getD, List.getElem?_eq_none (by simp only [List.length_map] at hlt; omega)] at q
    exact q
theorem TapeOk.at {ts : List Int} (h : TapeOk ts) (k : Nat) : 0 ≤ ts.getD k 0 ∧ ts.getD k 0 < 1000 := by
  rw [List.getD_eq_getElem?_getD]
  cases e : ts[k]? with
  | none => exact ⟨Int.le_refl 0, by decide⟩
  | some z => exact h.1 z (List.mem_of_getElem? e)
theorem u__law_at {K : PySem.W.Frag} {C : Ex} {H : Hp} {Q : VK} {E : XK} {p : Addr} {ts : List Int} {k : Int} (e : SqL K H p (ts.map V.int)) (h0 : 0 ≤ k) (h : Q (.int (ts.getD k.toNat 0)) H) : sp__law_at K C [.ref p, .int k] H Q E := w_S2 ⟨p, ts, k, rfl, rfl, e, h0, h⟩
local macro_rules | `(tactic| walk_at "x") => `(tactic| ((with_reducible apply u__law_at); (· walk_at "hk"); (· omega)))
/-- of the objects of H all but those of S stand in H'; S' is of S or new -/
def Stp (S : List Addr) (H : Hp) (S' : List Addr) (H' : Hp) : Prop := (∀ b o, H b = some o → b ∉ S → H' b = some o) ∧ ∀ b ∈ S', b ∈ S ∨ H b = none
theorem Stp.refl {S : List Addr} {H : Hp} : Stp S H S H := ⟨fun _ _ h _ => h, fun _ h => .inl h⟩
theorem Stp.trans {S S1 S2 : List Addr} {H H1 H2 : Hp} (x : Stp S H S1 H1) (y : Stp S1 H1 S2 H2) : Stp S H S2 H2 := by
  refine ⟨fun b o h n => y.1 b o (x.1 b o h n) fun q => ?_, fun b hb => ?_⟩
  · rcases x.2 b q with z | z
    · exact n z
    · rw [h] at z; cases z
  · rcases y.2 b hb with q | q
    · exact x.2 b q
    · by_cases n : b ∈ S
      · exact .inl n
      · cases e : H b with
        | none => exact .inr rfl
        | some o => rw [x.1 b o e n] at q; cases q
theorem Stp.same {S : List Addr} {H H' : Hp} (s : Same H H') : Stp S H S H' := ⟨fun b o h _ => s b o h, fun _ h => .inl h⟩
theorem Stp.upd {S : List Addr} {H H' : Hp} {p : Addr} {o : HO} (x : Stp S H S H') (h : p ∈ S) : Stp S H S (upd H' p o) :=
  ⟨fun b w e n => by rw [upd_ne (fun q => n (by rw [q]; exact h))]; exact x.1 b w e n, x.2⟩
theorem Stp.new {S : List Addr} {H H' : Hp} {p : Addr} {o : HO} (x : Stp S H S H') (h : H' p = none) : Stp S H S (L2.upd H' p o) := x.trans (.same (same_new h))
theorem Stp.fresh {S S' : List Addr} {H H' : Hp} {p : Addr} (x : Stp S H S' H') (n : H' p = none) : p ∈ S ∨ H p = none := by
  by_cases q : p ∈ S
  · exact .inl q
  · cases e : H p with
    | none => exact .inr rfl
    | some o => rw [x.1 p o e q] at n; cases n
theorem Stp.keep {S S' : List Addr} {H H' : Hp} {b : Addr} {o : HO} (x : Stp S H S' H') (h : H b = some o) (n : b ∉ S) : H' b = some o ∧ b ∉ S' :=
  ⟨x.1 b o h n, fun q => (x.2 b q).elim n fun z => by rw [h] at z; cases z⟩
/-- a list of eight words -/
def RowAt (H : Hp) (v : V) (r : List Int) : Prop := r.length = 8 ∧ ∃ p, v = .ref p ∧ H p = some (.lst (r.map V.int))
def AllRef (vs : List V) : Prop := ∀ x ∈ vs, ∃ p, x = V.ref p
theorem row_ne {r : List Int} {vs : List V} (h : r.length = 8) (hv : AllRef vs) : HO.lst (r.map V.int) ≠ HO.lst vs := by
  intro e
  have e := HO.lst.inj e
  cases r with
  | nil => cases h
  | cons z r =>
    obtain ⟨p, q⟩ := hv (.int z) (by rw [← e]; exact List.mem_cons_self ..)
    cases q
theorem RowAt.same {H H' : Hp} {v : V} {r : List Int} (x : RowAt H v r) (s : Same H H') : RowAt H' v r := by
  obtain ⟨l, p, rfl, h⟩ := x
  exact ⟨l, p, rfl, s _ _ h⟩
theorem RowAt.upd {H : Hp} {v : V} {r : List Int} {q : Addr} {o u : HO} (x : RowAt H v r) (h : H q = some u) (n : r.length = 8 → HO.lst (r.map V.int) ≠ u) : RowAt (upd H q o) v r := by
  obtain ⟨l, p, rfl, e⟩ := x
  exact ⟨l, p, rfl, by rw [upd_ne (ne_of e h (n l))]; exact e⟩
/-- what may be written without a row's loss -/
def NoRow (u : HO) : Prop := ∀ r : List Int, r.length = 8 → HO.lst (r.map V.int) ≠ u
theorem noRow_ins {C dx : Addr} {fs : List (Str × V)} : NoRow (.ins C dx fs) := fun _ _ e => nomatch e
theorem noRow_dK {kvs : List (Key × V)} : NoRow (.dK kvs) := fun _ _ e => nomatch e
theorem noRow_refs {vs : List V} (h : AllRef vs) : NoRow (.lst vs) := fun _ l => row_ne l h
def RowsAt (H : Hp) (vs : List V) (rs : List (List Int)) : Prop := vs.length = rs.length ∧ ∀ (i : Nat) v, vs[i]? = some v → ∃ r, rs[i]? = some r ∧ RowAt H v r
theorem RowsAt.ref {H : Hp} {vs : List V} {rs : List (List Int)} (x : RowsAt H vs rs) : AllRef vs := fun v hv => by
  obtain ⟨i, hi⟩ := List.getElem?_of_mem hv
  obtain ⟨r, _, _, p, e, _⟩ := x.2 i v hi
  exact ⟨p, e⟩
theorem RowsAt.map {H H' : Hp} {vs : List V} {rs : List (List Int)} (x : RowsAt H vs rs) (f : ∀ v r, RowAt H v r → RowAt H' v r) : RowsAt H' vs rs := ⟨x.1, fun i v h => by
  obtain ⟨r, e, y⟩ := x.2 i v h
  exact ⟨r, e, f v r y⟩⟩
theorem RowsAt.same {H H' : Hp} {vs : List V} {rs : List (List Int)} (x : RowsAt H vs rs) (s : Same H H') : RowsAt H' vs rs := x.map fun _ _ y => y.same s
theorem RowsAt.upd {H : Hp} {vs : List V} {rs : List (List Int)} {q : Addr} {o u : HO} (x : RowsAt H vs rs) (h : H q = some u) (n : NoRow u) : RowsAt (upd H q o) vs rs := x.map fun _ r y => y.upd h (n r)
theorem RowsAt.nil {H : Hp} : RowsAt H [] [] := ⟨rfl, fun i v h => by simp at h⟩
theorem RowsAt.snoc {H : Hp} {vs : List V} {rs : List (List Int)} {v : V} {r : List Int} (x : RowsAt H vs rs) (y : RowAt H v r) : RowsAt H (vs ++ [v]) (rs ++ [r]) := by
  refine ⟨by rw [List.length_append, List.length_append, x.1]; rfl, fun i w h => ?_⟩
  rcases Nat.lt_or_ge i vs.length with q | q
  · rw [List.getElem?_append_left q] at h
    obtain ⟨r', e, z⟩ := x.2 i w h
    exact ⟨r', by rw [List.getElem?_append_left (by rw [← x.1]; exact q)]; exact e, z⟩
  · rw [List.getElem?_append_right q] at h
    have hi : i - vs.length = 0 := by
      have := (List.getElem?_eq_some_iff.mp h).1
      simp at this
      omega
    rw [hi] at h
    cases h
    exact ⟨r, by rw [List.getElem?_append_right (by rw [← x.1]; exact q), ← x.1, hi]; rfl, y⟩
theorem RowsAt.set {H : Hp} {vs : List V} {rs : List (List Int)} {v : V} {r : List Int} {j : Nat} (x : RowsAt H vs rs) (y : RowAt H v r) : RowsAt H (vs.set j v) (rs.set j r) := by
  refine ⟨by rw [List.length_set, List.length_set, x.1], fun i w h => ?_⟩
  by_cases q : j = i
  · subst q
    have hl : j < vs.length := by
      have := (List.getElem?_eq_some_iff.mp h).1
      rw [List.length_set] at this
      exact this
    rw [List.getElem?_set_self hl] at h
    cases h
    exact ⟨r, List.getElem?_set_self (by rw [← x.1]; exact hl), y⟩
  · rw [List.getElem?_set_ne q] at h
    obtain ⟨r', e, z⟩ := x.2 i w h
    exact ⟨r', by rw [List.getElem?_set_ne q]; exact e, z⟩
theorem AllRef.snoc {vs : List V} {p : Addr} (h : AllRef vs) : AllRef (vs ++ [.ref p]) := fun x hx => by
  rcases List.mem_append.mp hx with q | q
  · exact h x q
  · exact ⟨p, List.mem_singleton.mp q⟩
/-- eight words -/
def Row8 (r : List Int) : Prop := r.length = 8 ∧ ∀ z ∈ r, 0 ≤ z
theorem Row8.set {r : List Int} {i : Nat} {z : Int} (h : Row8 r) (hz : 0 ≤ z) : Row8 (r.set i z) := ⟨by rw [List.length_set]; exact h.1, fun y hy => by
  rcases List.mem_or_eq_of_mem_set hy with q | q
  · exact h.2 y q
  · rw [q]; exact hz⟩
theorem getD_nn {l : List Int} (h : ∀ z ∈ l, 0 ≤ z) (k : Nat) : 0 ≤ l.getD k 0 := by
  rw [List.getD_eq_getElem?_getD]
  cases e : l[k]? with
  | none => exact Int.le_refl 0
  | some z => exact h z (List.mem_of_getElem? e)
structure DiskS where
  blocks : Int
  secs : List (List Int)
  wr : List (Int × List Int)
  left : Option Int
  pw : Bool
def optI : Option Int → V
  | none => .non
  | some i => .int i
theorem optI_n : optI none = .non := rfl
theorem optI_s (z : Int) : optI (some z) = .int z := rfl
/-- what was written to a sector last -/
def lastW : List (Int × List Int) → Int → Option (List Int)
  | [], _ => none
  | (t, r) :: w, s => match lastW w s with
    | some q => some q
    | none => if s = t then some r else none
theorem lastW_snoc (w : List (Int × List Int)) (t : Int) (r : List Int) (s : Int) : lastW (w ++ [(t, r)]) s = if s = t then some r else lastW w s := by
  induction w with
  | nil => rfl
  | cons p w ih =>
    obtain ⟨u, q⟩ := p
    show (match lastW (w ++ [(t, r)]) s with | some q => some q | none => if s = u then some q else none) = if s = t then some r else (match lastW w s with | some q => some q | none => if s = u then some q else none)
    rw [ih]
    by_cases h : s = t
    · rw [if_pos h, if_pos h]
    · rw [if_neg h, if_neg h]
def rdS (D : DiskS) (s : Int) : List Int := (lastW D.wr s).getD (D.secs.getD s.toNat [])
def WrAt (H : Hp) (v : V) (s : Int) (r : List Int) : Prop := ∃ t x, v = .ref t ∧ H t = some (.tup [.int s, x]) ∧ RowAt H x r
def WrsAt (H : Hp) (vs : List V) (ws : List (Int × List Int)) : Prop := vs.length = ws.length ∧ ∀ (i : Nat) v, vs[i]? = some v → ∃ s r, ws[i]? = some (s, r) ∧ WrAt H v s r
def NwAt (H : Hp) (kvs : List (Key × V)) (ws : List (Int × List Int)) : Prop := kvs.length ≤ ws.length ∧ (∀ kv ∈ kvs, ∃ s : Int, kv.1 = .inl s) ∧
  ∀ s : Int, (valV kvs (.inl s) = none ∧ lastW ws s = none) ∨ ∃ v r, valV kvs (.inl s) = some v ∧ lastW ws s = some r ∧ RowAt H v r
/-- the disk's own object -/
def dkO (C : Ex) (dx a w n : Addr) (D : DiskS) : HO := .ins C.Disk dx [("blocks", .int D.blocks), ("sectors", .ref a), ("writes", .ref w), ("newest", .ref n), ("left", optI D.left), ("power", .bl D.pw)]
structure DiskAt (C : Ex) (H : Hp) (d a w n : Addr) (D : DiskS) : Prop where
  ins : ∃ dx, H d = some (dkO C dx a w n D)
  sec : ∃ vs, H a = some (.lst vs) ∧ RowsAt H vs D.secs
  wrt : ∃ vs, H w = some (.lst vs) ∧ WrsAt H vs D.wr
  new : ∃ kvs, H n = some (.dK kvs) ∧ NwAt H kvs D.wr
  ne : a ≠ w
/-- sizes and words -/
structure DiskOk (D : DiskS) : Prop where
  bl : 96 ≤ D.blocks ∧ D.blocks ≤ 256
  sz : (D.secs.length : Int) = 4 * D.blocks
  wk : ∀ p ∈ D.wr, 0 ≤ p.1 ∧ p.1 < 4 * D.blocks
  wn : D.wr.length ≤ 100000
theorem WrAt.map {H H' : Hp} {v : V} {s : Int} {r : List Int} (x : WrAt H v s r) (f : ∀ v r, RowAt H v r → RowAt H' v r) (g : ∀ t xs, H t = some (.tup xs) → H' t = some (.tup xs)) : WrAt H' v s r := by
  obtain ⟨t, y, rfl, e, z⟩ := x
  exact ⟨t, y, rfl, g _ _ e, f _ _ z⟩
theorem WrsAt.ref {H : Hp} {vs : List V} {ws : List (Int × List Int)} (x : WrsAt H vs ws) : AllRef vs := fun v hv => by
  obtain ⟨i, hi⟩ := List.getElem?_of_mem hv
  obtain ⟨s, r, _, t, _, e, _⟩ := x.2 i v hi
  exact ⟨t, e⟩
theorem WrsAt.map {H H' : Hp} {vs : List V} {ws : List (Int × List Int)} (x : WrsAt H vs ws) (f : ∀ v r, RowAt H v r → RowAt H' v r) (g : ∀ t xs, H t = some (.tup xs) → H' t = some (.tup xs)) : WrsAt H' vs ws := ⟨x.1, fun i v h => by
  obtain ⟨s, r, e, y⟩ := x.2 i v h
  exact ⟨s, r, e, y.map f g⟩⟩
theorem NwAt.map {H H' : Hp} {kvs : List (Key × V)} {ws : List (Int × List Int)} (x : NwAt H kvs ws) (f : ∀ v r, RowAt H v r → RowAt H' v r) : NwAt H' kvs ws := ⟨x.1, x.2.1, fun s => by
  rcases x.2.2 s with y | ⟨v, r, a, b, c⟩
  · exact .inl y
  · exact .inr ⟨v, r, a, b, f v r c⟩⟩
/-- neither a row nor a tuple -/
def Plain (u : HO) : Prop := NoRow u ∧ ∀ xs, u ≠ .tup xs
theorem plain_ins {C dx : Addr} {fs : List (Str × V)} : Plain (.ins C dx fs) := ⟨noRow_ins, fun _ e => nomatch e⟩
theorem plain_dK {kvs : List (Key × V)} : Plain (.dK kvs) := ⟨noRow_dK, fun _ e => nomatch e⟩
theorem plain_refs {vs : List V} (h : AllRef vs) : Plain (.lst vs) := ⟨noRow_refs h, fun _ e => nomatch e⟩
theorem row_upd {H : Hp} {q : Addr} {o u : HO} (h : H q = some u) (p : Plain u) : ∀ v r, RowAt H v r → RowAt (upd H q o) v r := fun _ r x => x.upd h (p.1 r)
theorem tup_upd {H : Hp} {q : Addr} {o u : HO} (h : H q = some u) (p : Plain u) : ∀ t xs, H t = some (.tup xs) → upd H q o t = some (.tup xs) := fun t xs e => by rw [upd_ne (ne_of e h fun z => p.2 xs z.symm)]; exact e
theorem DiskAt.same {C : Ex} {H H' : Hp} {d a w n : Addr} {D : DiskS} (x : DiskAt C H d a w n D) (s : Same H H') : DiskAt C H' d a w n D := by
  obtain ⟨⟨dx, i⟩, ⟨vs, e1, r1⟩, ⟨ws, e2, r2⟩, ⟨kvs, e3, r3⟩, ne⟩ := x
  exact ⟨⟨dx, s _ _ i⟩, ⟨vs, s _ _ e1, r1.same s⟩, ⟨ws, s _ _ e2, r2.map (fun _ _ y => y.same s) fun _ _ e => s _ _ e⟩, ⟨kvs, s _ _ e3, r3.map fun _ _ y => y.same s⟩, ne⟩
/-- the disk's own object changes -/
theorem DiskAt.fields {C : Ex} {H : Hp} {d a w n dx : Addr} {D D' : DiskS} (x : DiskAt C H d a w n D) (h1 : D'.secs = D.secs) (h2 : D'.wr = D.wr) : DiskAt C (upd H d (dkO C dx a w n D')) d a w n D' := by
  obtain ⟨⟨_, i⟩, ⟨vs, e1, r1⟩, ⟨ws, e2, r2⟩, ⟨kvs, e3, r3⟩, ne⟩ := x
  refine ⟨⟨dx, upd_same⟩, ⟨vs, upd_oth e1 (ne_of e1 i fun z => nomatch z), by rw [h1]; exact r1.map (row_upd i plain_ins)⟩, ⟨ws, upd_oth e2 (ne_of e2 i fun z => nomatch z), by rw [h2]; exact r2.map (row_upd i plain_ins) (tup_upd i plain_ins)⟩, ⟨kvs, upd_oth e3 (ne_of e3 i fun z => nomatch z), by rw [h2]; exact r3.map (row_upd i plain_ins)⟩, ne⟩
/-- the addresses that a disk writes -/
abbrev dkF (d a w n : Addr) : List Addr := [d, a, w, n]
def opA (D : DiskS) : DiskS := if D.left = some 0 then { D with pw := false } else D
def opB (D : DiskS) : DiskS := if D.pw = true then { D with left := D.left.map (· - 1) } else D
def opS (D : DiskS) : DiskS := opB (opA D)
theorem opS_secs (D : DiskS) : (opS D).secs = D.secs ∧ (opS D).wr = D.wr ∧ (opS D).blocks = D.blocks := by
  have a : (opA D).secs = D.secs ∧ (opA D).wr = D.wr ∧ (opA D).blocks = D.blocks := by unfold opA; split <;> exact ⟨rfl, rfl, rfl⟩
  have b : ∀ D : DiskS, (opB D).secs = D.secs ∧ (opB D).wr = D.wr ∧ (opB D).blocks = D.blocks := fun D => by unfold opB; split <;> exact ⟨rfl, rfl, rfl⟩
  exact ⟨(b _).1.trans a.1, (b _).2.1.trans a.2.1, (b _).2.2.trans a.2.2⟩
def sp_Disk_operate (K : PySem.W.Frag) (C : Ex) : Sp := S1 fun x H Q E => ∃ d a w n D, x = .ref d ∧ DiskAt C H d a w n D ∧ ∀ H', DiskAt C H' d a w n (opS D) → (∀ b o, H b = some o → b ≠ d → H' b = some o) →
  ((opS D).pw = true → Q .non H') ∧ ((opS D).pw = false → E (.ref C.PowerOff) none H')
def t_Disk_operate (K : PySem.W.Frag) (C : Ex) (E : XK) : TS :=
  tCut (tIfS (tTest (tOp (uEq K) (uFld C.Disk "left" (tVar 0)) (tC (.int 0)))) (uSetF C.Disk "power" (tVar 0) (tC (.bl false))) (tNext))
  (tSeq (tIfS (tNot (uTru K (uFld C.Disk "power" (tVar 0)))) (uRaise C.PowerOff (WB E)) (tNext))
  (tIfS (tTest (tOp (uIsnt) (uFld C.Disk "left" (tVar 0)) (tC .non))) (uAugF C.Disk "left" rSub (tVar 0) (tC (.int 1))) (tNext)))
theorem pure_Disk_operate {K : PySem.W.Frag} {C : Ex} {vs : List V} {H : Hp} {Q : VK} {E : XK} (F : Fa K C) (h : sp_Disk_operate K C vs H Q E) : t_Disk_operate K C E { nx := fun _ H' => Q .non H', rt := Q } (start ["self"] vs) H := by
  obtain ⟨x, rfl, d, a, w, n, D, rfl, hD, k⟩ := h
  obtain ⟨dx, i⟩ := hD.ins
  unfold t_Disk_operate
  unfold dkO at i
  refine w_cut (fun σ H1 => σ = [some (.ref d)] ∧ DiskAt C H1 d a w n (opA D) ∧ ∀ b o, H b = some o → b ≠ d → H1 b = some o) ?_ ?_
  · cases hl : D.left with
    | none =>
      rw [hl, optI_n] at i
      walk_at "run1"
      rw [show opA D = D by unfold opA; rw [hl, if_neg (by simp)]]
      exact ⟨rfl, hD, fun _ _ h _ => h⟩
    | some z =>
      rw [hl, optI_s] at i
      walk_at "run1"
      · rename_i e
        subst e
        rw [show opA D = { D with pw := false } by unfold opA; rw [if_pos hl]]
        refine ⟨rfl, ?_, fun b o h n => upd_oth h n⟩
        have z := hD.fields (dx := dx) (D' := { D with pw := false }) rfl rfl
        have e : dkO C dx a w n { D with pw := false } = .ins C.Disk dx [("blocks", .int D.blocks), ("sectors", .ref a), ("writes", .ref w), ("newest", .ref n), ("left", .int 0), ("power", .bl false)] := by
          show HO.ins C.Disk dx [("blocks", .int D.blocks), ("sectors", .ref a), ("writes", .ref w), ("newest", .ref n), ("left", optI D.left), ("power", .bl false)] = _
          rw [hl]
          rfl
        rw [e] at z
        exact z
      · walk_at "run1"
        rename_i e
        rw [show opA D = D by unfold opA; rw [hl, if_neg (fun q => e (Option.some.inj q))]]
        exact ⟨rfl, hD, fun _ _ h _ => h⟩
  · rintro σ H1 ⟨rfl, hD1, fr⟩
    unfold opS at k
    generalize opA D = D1 at *
    obtain ⟨dx1, i1⟩ := hD1.ins
    unfold dkO at i1
    cases hp : D1.pw with
    | false =>
      rw [hp] at i1
      rw [show opB D1 = D1 by unfold opB; rw [if_neg (by rw [hp]; decide)]] at k
      walk_at "run1"
      exact (k H1 hD1 fr).2 hp
    | true =>
      rw [hp] at i1
      rw [show opB D1 = { D1 with left := D1.left.map (· - 1) } by unfold opB; rw [if_pos hp]] at k
      walk_at "run1"
      cases hl : D1.left with
      | none =>
        rw [hl, optI_n] at i1
        rw [optI_n]
        walk_at "run1"
        refine (k H1 ?_ fr).1 hp
        have : ({ D1 with left := Option.map (fun x => x - 1) D1.left } : DiskS) = D1 := by rw [hl, Option.map_none, ← hl]
        rw [this]
        exact hD1
      | some z =>
        rw [hl, optI_s] at i1
        rw [optI_s]
        walk_at "run1"
        have z2 := hD1.fields (dx := dx1) (D' := { D1 with left := D1.left.map (· - 1) }) rfl rfl
        have e : dkO C dx1 a w n { D1 with left := D1.left.map (· - 1) } = .ins C.Disk dx1 [("blocks", .int D1.blocks), ("sectors", .ref a), ("writes", .ref w), ("newest", .ref n), ("left", .int (z - 1)), ("power", .bl true)] := by
          show HO.ins C.Disk dx1 [("blocks", .int D1.blocks), ("sectors", .ref a), ("writes", .ref w), ("newest", .ref n), ("left", optI (D1.left.map (· - 1))), ("power", .bl D1.pw)] = _
          rw [hl, hp]
          rfl
        rw [e] at z2
        exact (k _ z2 fun b o h n => upd_oth (fr b o h n) n).1 hp
def newD (z : Int) : DiskS := ⟨z, List.replicate (z * 4).toNat (List.replicate 8 0), [], none, true⟩
/-- a disk that is being made -/
def Ini (H H' : Hp) (d a dx c : Addr) (fs : List (Str × V)) (rs : List (List Int)) : Prop := H' d = some (.ins c dx fs) ∧ (∀ b o, H b = some o → b ≠ d → H' b = some o) ∧ ∃ vs, H' a = some (.lst vs) ∧ RowsAt H' vs rs
theorem Ini.new {H H' : Hp} {d a dx c p : Addr} {fs : List (Str × V)} {rs : List (List Int)} {o : HO} (x : Ini H H' d a dx c fs rs) (n : H' p = none) : Ini H (upd H' p o) d a dx c fs rs := by
  obtain ⟨x1, x2, vs, x3, x4⟩ := x
  exact ⟨upd_old x1 n, fun b w h q => upd_old (x2 b w h q) n, vs, upd_old x3 n, x4.same (same_new n)⟩
theorem Ini.set {H H' : Hp} {d a dx c : Addr} {fs fs' : List (Str × V)} {rs : List (List Int)} (x : Ini H H' d a dx c fs rs) : Ini H (upd H' d (.ins c dx fs')) d a dx c fs' rs := by
  obtain ⟨x1, x2, vs, x3, x4⟩ := x
  exact ⟨upd_same, fun b w h q => upd_oth (x2 b w h q) q, vs, upd_oth x3 (ne_of x3 x1 fun z => nomatch z), x4.map (row_upd x1 plain_ins)⟩
theorem Ini.free {H H' : Hp} {d a dx c p : Addr} {fs : List (Str × V)} {rs : List (List Int)} (x : Ini H H' d a dx c fs rs) (n : H' p = none) : H p = none := by
  cases e : H p with
  | none => rfl
  | some o =>
    by_cases q : p = d
    · rw [q, x.1] at n; cases n
    · rw [x.2.1 p o e q] at n; cases n
def sp_Disk___init__ (K : PySem.W.Frag) (C : Ex) : Sp := S2 fun x b H Q E => ∃ d dx, x = .ref d ∧ H d = some (.ins C.Disk dx []) ∧ Known K H b ∧
  (∀ z : Int, b = .int z → 96 ≤ z → z ≤ 256 → ∀ H' a w n, (∀ c o, H c = some o → c ≠ d → H' c = some o) → H a = none → H w = none → H n = none → DiskAt C H' d a w n (newD z) → Q .non H') ∧ (btw 96 256 b = false → E (.ref C.NotValid) none H)
def t_Disk___init__ (K : PySem.W.Frag) (C : Ex) (E : XK) : TS :=
  tSeq (tIfS (tNot (uTru K (uCall (sp_is_between K C) (WB E) (tCons (tVar 1) (tCons (tC (.int 96)) (tCons (tC (.int 256)) (tNil))))))) (uRaise C.NotValid (WB E)) (tNext))
  (tSeq (uSetF C.Disk "blocks" (tVar 0) (tVar 1))
  (tSeq (uSetF C.Disk "sectors" (tVar 0) (tLc (iRng1 (tCons (tOp (uMul) (tVar 1) (tC (.int 4))) (tNil))) (gName 2) (tYes) (tOp (uMul) (tLst (tCons (tC (.int 0)) (tNil))) (tC (.int 8))) [2]))
  (tSeq (uSetF C.Disk "writes" (tVar 0) (tLst (tNil)))
  (tSeq (uSetF C.Disk "newest" (tVar 0) (tDNewK))
  (tSeq (uSetF C.Disk "left" (tVar 0) (tC .non))
  (uSetF C.Disk "power" (tVar 0) (tC (.bl true))))))))
theorem pure_Disk___init__ {K : PySem.W.Frag} {C : Ex} {vs : List V} {H : Hp} {Q : VK} {E : XK} (F : Fa K C) (h : sp_Disk___init__ K C vs H Q E) : t_Disk___init__ K C E { nx := fun _ H' => Q .non H', rt := Q } (start ["self", "blocks", "sector"] vs) H := by
  obtain ⟨x, b, rfl, d, dx, rfl, i, hk, k1, k2⟩ := h
  unfold t_Disk___init__
  walk_at "run1"
  refine w_S3 ⟨96, 256, rfl, rfl, hk, ?_⟩
  walk_at "run1"
  refine ifBN (fun hf => ?_) (fun ht => ?_)
  · walk_at "run1"
    exact k2 hf
  · obtain ⟨z, rfl, z1, z2⟩ := btw_inv ht
    walk_at "run1"
    have i0 : upd H d (.ins C.Disk dx (putF "blocks" (V.int z) [])) d = some (.ins C.Disk dx (putF "blocks" (V.int z) [])) := upd_same
    have fr0 : ∀ b o, H b = some o → b ≠ d → upd H d (.ins C.Disk dx (putF "blocks" (V.int z) [])) b = some o := fun b o h n => upd_oth h n
    generalize upd H d (.ins C.Disk dx (putF "blocks" (V.int z) [])) = H0 at *
    refine l_range (fun a i H1 => Same H0 H1 ∧ ∃ vs, H1 a = some (.lst vs) ∧ vs.length = i ∧ RowsAt H1 vs (List.replicate i (List.replicate 8 0))) (fun a ha => ⟨same_new ha, [], upd_same, rfl, .nil⟩) ?_ ?_
    · rintro a i H1 ha hi ⟨s1, vs, e1, hv, r1⟩
      walk_at "run1"
      refine ⟨rfl, ?_⟩
      walk_at "run1"
      rename_i p hp q hq
      refine ⟨vs, upd_old (upd_old e1 hp) hq, Nat.lt_of_le_of_lt (by omega) (lt_line (n := 2000) (by decide)), ?_⟩
      have hs : Same H1 (upd (upd H1 p (.lst [.int 0])) q (.lst ((List.replicate (8 : Int).toNat (0 : Int)).map V.int))) := same_updN (same_new hp) hq
      have ea : upd (upd H1 p (.lst [.int 0])) q (.lst ((List.replicate (8 : Int).toNat (0 : Int)).map V.int)) a = some (.lst vs) := hs _ _ e1
      have rq : RowAt (upd (upd H1 p (.lst [.int 0])) q (.lst ((List.replicate (8 : Int).toNat (0 : Int)).map V.int))) (.ref q) (List.replicate 8 0) := ⟨rfl, q, rfl, upd_same⟩
      have rr := (r1.same hs).snoc rq
      refine ⟨same_upd (s1.trans hs) ha, vs ++ [.ref q], upd_same, by rw [List.length_append, hv]; rfl, ?_⟩
      rw [List.replicate_succ']
      exact rr.upd ea (noRow_refs r1.ref)
    · rintro a H1 ha ⟨s1, vs, e1, hv, r1⟩
      have J0 : Ini H H1 d a dx C.Disk (putF "blocks" (V.int z) []) (List.replicate (z * 4).toNat (List.replicate 8 0)) := ⟨s1 _ _ i0, fun b o h n => s1 _ _ (fr0 b o h n), vs, e1, r1⟩
      have fa : H a = none := by
        cases e : H a with
        | none => rfl
        | some o =>
          by_cases q : a = d
          · rw [q, i0] at ha; cases ha
          · rw [fr0 a o e q] at ha; cases ha
      have i1 := J0.1
      walk_at "run1"
      have J1 := J0.set (fs' := putF "sectors" (V.ref a) (putF "blocks" (V.int z) []))
      generalize upd H1 d (.ins C.Disk dx (putF "sectors" (V.ref a) (putF "blocks" (V.int z) []))) = H2 at *
      have i2 := J1.1
      walk_at "run1"
      rename_i w n hw hn
      have J2 := J1.new (o := .lst []) hw
      have nwd : w ≠ d := (ne_of_none i2 hw).symm
      have J3 := J2.set (fs' := putF "writes" (V.ref w) (putF "sectors" (V.ref a) (putF "blocks" (V.int z) [])))
      have nnd : n ≠ d := (ne_of_none J3.1 hn).symm
      have ew : upd (upd H2 w (.lst [])) d (.ins C.Disk dx (putF "writes" (V.ref w) (putF "sectors" (V.ref a) (putF "blocks" (V.int z) [])))) w = some (.lst []) := by rw [upd_ne nwd]; exact upd_same
      have nwn : w ≠ n := ne_of_none ew hn
      have J4 := (J3.new (o := .dK []) hn)
      have J5 := ((J4.set (fs' := putF "newest" (V.ref n) (putF "writes" (V.ref w) (putF "sectors" (V.ref a) (putF "blocks" (V.int z) []))))).set (fs' := putF "left" V.non (putF "newest" (V.ref n) (putF "writes" (V.ref w) (putF "sectors" (V.ref a) (putF "blocks" (V.int z) [])))))).set (fs' := putF "power" (V.bl true) (putF "left" V.non (putF "newest" (V.ref n) (putF "writes" (V.ref w) (putF "sectors" (V.ref a) (putF "blocks" (V.int z) []))))))
      obtain ⟨j1, j2, vs, j3, j4⟩ := J5
      have naw : a ≠ w := by
        obtain ⟨_, _, _, y, _⟩ := J1
        exact ne_of_none y hw
      refine k1 z rfl z1 z2 _ a w n j2 fa (J1.free hw) (J3.free hn) ⟨⟨dx, j1⟩, ⟨vs, j3, j4⟩, ⟨[], ?_, rfl, fun i v h => by simp at h⟩, ⟨[], ?_, Nat.le_refl 0, fun _ h => by simp at h, fun s => .inl ⟨rfl, rfl⟩⟩, naw⟩
      · rw [upd_ne nwd, upd_ne nwd, upd_ne nwd, upd_ne nwn]; exact ew
      · rw [upd_ne nnd, upd_ne nnd, upd_ne nnd]; exact upd_same
def sp_Disk_read (K : PySem.W.Frag) (C : Ex) : Sp := S2 fun x b H Q E => ∃ d a w n D, x = .ref d ∧ DiskAt C H d a w n D ∧ DiskOk D ∧ Known K H b ∧
  (D.pw = false → E (.ref C.PowerOff) none H) ∧ (D.pw = true → btw 0 (D.secs.length - 1) b = false → E (.ref C.NotValid) none H) ∧
  ∀ s : Int, D.pw = true → b = .int s → 0 ≤ s → s < D.secs.length → (rdS D s).length = 8 → ∀ p, H p = none → ∀ H', Same H H' → H' p = some (.lst ((rdS D s).map V.int)) → Q (.ref p) H'
def t_Disk_read (K : PySem.W.Frag) (C : Ex) (E : XK) : TS :=
  tSeq (tIfS (tNot (uTru K (uFld C.Disk "power" (tVar 0)))) (uRaise C.PowerOff (WB E)) (tNext))
  (tSeq (tIfS (tNot (uTru K (uCall (sp_is_between K C) (WB E) (tCons (tVar 1) (tCons (tC (.int 0)) (tCons (tOp (uSub) (tCB (uLen K) (tCons (uFld C.Disk "sectors" (tVar 0)) (tNil))) (tC (.int 1))) (tNil))))))) (uRaise C.NotValid (WB E)) (tNext))
  (tSeq (tIfS (tTest (tOp (uIn K) (tVar 1) (uFld C.Disk "newest" (tVar 0)))) (tRet (tCB (uList K) (tCons (tDGet (uFld C.Disk "newest" (tVar 0)) (tVar 1)) (tNil)))) (tNext))
  (tRet (tCB (uList K) (tCons (tOp (uIx K) (uFld C.Disk "sectors" (tVar 0)) (tVar 1)) (tNil))))))
theorem pure_Disk_read {K : PySem.W.Frag} {C : Ex} {vs : List V} {H : Hp} {Q : VK} {E : XK} (F : Fa K C) (h : sp_Disk_read K C vs H Q E) : t_Disk_read K C E { nx := fun _ H' => Q .non H', rt := Q } (start ["self", "sector"] vs) H := by
  obtain ⟨x, b, rfl, d, a, w, n, D, rfl, hD, ok, hk, k0, k1, k2⟩ := h
  obtain ⟨⟨dx, i⟩, ⟨vs, e1, r1⟩, ⟨ws, e2, r2⟩, ⟨kvs, e3, r3⟩, ne⟩ := hD
  unfold dkO at i
  unfold t_Disk_read
  walk_at "run1"
  refine ifBN (fun hf => ?_) (fun hp => ?_)
  · walk_at "run1"
    exact k0 hf
  · walk_at "run1"
    rw [r1.1]
    refine w_S3 ⟨0, (D.secs.length : Int) - 1, rfl, rfl, hk, ?_⟩
    walk_at "run1"
    refine ifBN (fun hf => ?_) (fun ht => ?_)
    · walk_at "run1"
      exact k1 hp hf
    · obtain ⟨s, rfl, s0, s1⟩ := btw_inv ht
      walk_at "run1"
      rcases r3.2.2 s with ⟨hv, hl⟩ | ⟨v, r, hv, hl, h8, q, rfl, hq⟩
      · rw [hv, Option.isSome_none]
        have er : rdS D s = D.secs.getD s.toNat [] := by unfold rdS; rw [hl]; rfl
        walk_at "run1"
        refine w_ixA (SqL.of e1) ⟨s0, by rw [r1.1]; omega⟩ fun v ev => ?_
        obtain ⟨r, hr, h8, q, rfl, hq⟩ := r1.2 _ v ev
        have er2 : rdS D s = r := by rw [er, List.getD_eq_getElem?_getD, hr]; rfl
        walk_at "run1"
        refine w_tlist (SqL.of hq) fun l hl => ?_
        exact k2 s hp rfl s0 (by omega) (by rw [er2]; exact h8) l hl _ (same_new hl) (by rw [er2]; exact upd_same)
      · rw [hv, Option.isSome_some]
        have er2 : rdS D s = r := by unfold rdS; rw [hl]; rfl
        walk_at "run1"
        refine w_dgetI e3 hv ?_
        walk_at "run1"
        refine w_tlist (SqL.of hq) fun l hl => ?_
        exact k2 s hp rfl s0 (by omega) (by rw [er2]; exact h8) l hl _ (same_new hl) (by rw [er2]; exact upd_same)
theorem sql_fr {K : PySem.W.Frag} {H H1 : Hp} {d q c dx : Addr} {fs : List (Str × V)} {xs : List V} (i : H d = some (.ins c dx fs)) (fr : ∀ b o, H b = some o → b ≠ d → H1 b = some o) (h : SqL K H q xs) : SqL K H1 q xs := by
  rcases h with (h | ⟨o, h⟩) | h
  · exact .inl (.inl (fr _ _ h (ne_of h i fun z => nomatch z)))
  · exact .inl (.inr ⟨o, fr _ _ h (ne_of h i fun z => nomatch z)⟩)
  · exact .inr h
theorem RowAt.of {H : Hp} {p : Addr} {r : List Int} (l : r.length = 8) (h : H p = some (.lst (r.map V.int))) : RowAt H (.ref p) r := ⟨l, p, rfl, h⟩
theorem WrsAt.snoc {H : Hp} {vs : List V} {ws : List (Int × List Int)} {v : V} {s : Int} {r : List Int} (x : WrsAt H vs ws) (y : WrAt H v s r) : WrsAt H (vs ++ [v]) (ws ++ [(s, r)]) := by
  refine ⟨by rw [List.length_append, List.length_append, x.1]; rfl, fun i w h => ?_⟩
  rcases Nat.lt_or_ge i vs.length with q | q
  · rw [List.getElem?_append_left q] at h
    obtain ⟨s', r', e, z⟩ := x.2 i w h
    exact ⟨s', r', by rw [List.getElem?_append_left (by rw [← x.1]; exact q)]; exact e, z⟩
  · rw [List.getElem?_append_right q] at h
    have hi : i - vs.length = 0 := by
      have := (List.getElem?_eq_some_iff.mp h).1
      simp at this
      omega
    rw [hi] at h
    cases h
    exact ⟨s, r, by rw [List.getElem?_append_right (by rw [← x.1]; exact q), ← x.1, hi]; rfl, y⟩
theorem mem_putK {kvs : List (Key × V)} {k : Key} {v : V} {kv : Key × V} (h : kv ∈ putK kvs k v) : kv.1 = k ∨ kv ∈ kvs := by
  unfold putK at h
  split at h
  · obtain ⟨x, hx, e⟩ := List.mem_map.mp h
    by_cases q : x.1 = k
    · rw [if_pos q] at e; subst e; exact .inl q
    · rw [if_neg q] at e; subst e; exact .inr hx
  · rcases List.mem_append.mp h with h | h
    · exact .inr h
    · rw [List.mem_singleton.mp h]; exact .inl rfl
theorem NwAt.put {H : Hp} {kvs : List (Key × V)} {ws : List (Int × List Int)} {s : Int} {v : V} {r : List Int} (x : NwAt H kvs ws) (y : RowAt H v r) : NwAt H (putK kvs (.inl s) v) (ws ++ [(s, r)]) := by
  refine ⟨?_, fun kv hk => ?_, fun t => ?_⟩
  · have := length_putK kvs (.inl s) v
    rw [List.length_append]
    have := x.1
    simp only [List.length_cons, List.length_nil]
    omega
  · rcases mem_putK hk with h | h
    · exact ⟨s, h⟩
    · exact x.2.1 kv h
  · rw [valV_put, lastW_snoc]
    by_cases h : t = s
    · subst h
      rw [if_pos rfl, if_pos rfl]
      exact .inr ⟨v, r, rfl, rfl, y⟩
    · rw [if_neg (fun e => h (Sum.inl.inj e)), if_neg h]
      exact x.2.2 t
/-- one more write waits -/
def pushW (D : DiskS) (s : Int) (r : List Int) : DiskS := { D with wr := D.wr ++ [(s, r)] }
def sp_Disk_write (K : PySem.W.Frag) (C : Ex) : Sp := S3 fun x b c H Q E => ∃ d a w n D, x = .ref d ∧ DiskAt C H d a w n D ∧ DiskOk D ∧ D.wr.length < 100000 ∧ Known K H b ∧
  ((∃ q xs, c = .ref q ∧ SqL K H q xs ∧ (∀ x ∈ xs, Known K H x) ∧ ((btw 0 (D.secs.length - 1) b = false ∨ (decide ((xs.length : Int) = 8) && xs.all isWord) = false) → E (.ref C.NotValid) none H) ∧
    ∀ s : Int, b = .int s → 0 ≤ s → s < D.secs.length → ∀ r, xs = r.map V.int → r.length = 8 → (∀ z ∈ r, 0 ≤ z) →
      (∀ H', DiskAt C H' d a w n (opS D) → Stp (dkF d a w n) H (dkF d a w n) H' → (opS D).pw = false → E (.ref C.PowerOff) none H') ∧
      (∀ H', DiskAt C H' d a w n (pushW (opS D) s r) → Stp (dkF d a w n) H (dkF d a w n) H' → (opS D).pw = true → Q .non H')) ∨ (NoList K H c ∧ E (.ref C.NotValid) none H))
theorem all_ints {xs : List V} (h : xs.all isWord = true) : ∃ r : List Int, xs = r.map V.int ∧ ∀ z ∈ r, 0 ≤ z := by
  induction xs with
  | nil => exact ⟨[], rfl, by simp⟩
  | cons x xs ih =>
    rw [List.all_cons, Bool.and_eq_true] at h
    obtain ⟨r, rfl, hr⟩ := ih h.2
    cases x <;> first | (cases h.1; done) | skip
    rename_i i
    exact ⟨i :: r, rfl, fun z hz => by
      rcases List.mem_cons.mp hz with rfl | hz
      · exact of_decide_eq_true h.1
      · exact hr z hz⟩
def t_Disk_write (K : PySem.W.Frag) (C : Ex) (E : XK) : TS :=
  tSeq (tIfS (tNot (uTru K (uCall (sp_is_between K C) (WB E) (tCons (tVar 1) (tCons (tC (.int 0)) (tCons (tOp (uSub) (tCB (uLen K) (tCons (uFld C.Disk "sectors" (tVar 0)) (tNil))) (tC (.int 1))) (tNil))))))) (uRaise C.NotValid (WB E)) (tNext))
  (tSeq (tIfS (tNot (uTru K (uCall (sp_are_words K C) (WB E) (tCons (tVar 2) (tCons (tC (.int 8)) (tNil)))))) (uRaise C.NotValid (WB E)) (tNext))
  (tSeq (tDrop (uMeth C.Disk "operate" (sp_Disk_operate K C) (WB E) (tVar 0) (tNil)))
  (tSeq (tDrop (tBM K "list" (rAppend) (uFld C.Disk "writes" (tVar 0)) (tCons (tTup (tCons (tVar 1) (tCons (tCB (uList K) (tCons (tVar 2) (tNil))) (tNil)))) (tNil))))
  (sDPut (uFld C.Disk "newest" (tVar 0)) (tVar 1) (tCB (uList K) (tCons (tVar 2) (tNil)))))))
theorem pure_Disk_write {K : PySem.W.Frag} {C : Ex} {vs : List V} {H : Hp} {Q : VK} {E : XK} (F : Fa K C) (h : sp_Disk_write K C vs H Q E) : t_Disk_write K C E { nx := fun _ H' => Q .non H', rt := Q } (start ["self", "sector", "words"] vs) H := by
  obtain ⟨x, b, c, rfl, d, a, w, n, D, rfl, hD, ok, hw, hk, hc⟩ := h
  have hD' := hD
  obtain ⟨⟨dx, i⟩, ⟨vs, e1, r1⟩, ⟨ws, e2, r2⟩, ⟨kvs, e3, r3⟩, ne⟩ := hD
  unfold dkO at i
  unfold t_Disk_write
  walk_at "run1"
  rw [r1.1]
  refine w_S3 ⟨0, (D.secs.length : Int) - 1, rfl, rfl, hk, ?_⟩
  walk_at "run1"
  refine ifBN (fun hf => ?_) (fun ht => ?_)
  · walk_at "run1"
    rcases hc with ⟨_, _, _, _, _, z, _⟩ | ⟨_, z⟩
    · exact z (.inl hf)
    · exact z
  · obtain ⟨s, rfl, s0, s1⟩ := btw_inv ht
    walk_at "run1"
    rcases hc with ⟨q, xs, rfl, hq, hx, z, k⟩ | ⟨hn, z⟩
    · refine w_S2 ⟨8, rfl, .inl ⟨q, xs, rfl, hq, hx, ?_⟩⟩
      walk_at "run1"
      refine ifBN (fun hf => ?_) (fun hg => ?_)
      · walk_at "run1"
        exact z (.inr hf)
      · obtain ⟨r, rfl, hr⟩ := all_ints (Bool.and_eq_true_iff.mp hg).2
        have h8 : r.length = 8 := by
          have := of_decide_eq_true (Bool.and_eq_true_iff.mp hg).1
          rw [List.length_map] at this
          omega
        obtain ⟨k1, k2⟩ := k s rfl s0 (by omega) r rfl h8 hr
        walk_at "run1"
        refine w_S1 ⟨d, a, w, n, D, rfl, hD', fun H1 hD1 fr => ⟨fun hp => ?_, fun hp => ?_⟩⟩
        · have st1 : Stp (dkF d a w n) H (dkF d a w n) H1 := ⟨fun b o h nb => fr b o h fun e => nb (by rw [e]; exact List.mem_cons_self ..), fun b h => .inl h⟩
          have hq1 := sql_fr i fr hq
          have hD1' := hD1
          have hl : D.wr.length = (opS D).wr.length := by rw [(opS_secs D).2.1]
          generalize opS D = D1 at *
          obtain ⟨⟨dx1, i1⟩, ⟨vs1, e11, r11⟩, ⟨ws1, e21, r21⟩, ⟨kvs1, e31, r31⟩, ne1⟩ := hD1
          unfold dkO at i1
          walk_at "run1"
          refine w_tlist hq1 fun l hl => ?_
          walk_at "run1"
          rename_i t ht
          have s3 : Same H1 (upd (upd H1 l (.lst (r.map V.int))) t (.tup [.int s, .ref l])) := same_updN (same_new hl) ht
          have et : upd (upd H1 l (.lst (r.map V.int))) t (.tup [.int s, .ref l]) t = some (.tup [.int s, .ref l]) := upd_same
          have rl : RowAt (upd (upd H1 l (.lst (r.map V.int))) t (.tup [.int s, .ref l])) (.ref l) r := .of h8 (upd_old upd_same ht)
          generalize upd (upd H1 l (.lst (r.map V.int))) t (.tup [.int s, .ref l]) = H3 at *
          have r13 := r11.same s3
          have r23 := r21.map (fun _ _ y => y.same s3) fun _ _ e => s3 _ _ e
          have r33 := r31.map fun _ _ y => y.same s3
          have pw := plain_refs r21.ref
          have hlen := r21.1
          refine w_app (s3 _ _ e21) (lt_line (by omega)) ?_
          have i4 : upd H3 w (.lst (ws1 ++ [.ref t])) d = _ := upd_oth (s3 _ _ i1) (ne_of i1 e21 fun z => nomatch z)
          have a4 : upd H3 w (.lst (ws1 ++ [.ref t])) a = _ := upd_oth (s3 _ _ e11) ne1
          have n4 : upd H3 w (.lst (ws1 ++ [.ref t])) n = _ := upd_oth (s3 _ _ e31) (ne_of e31 e21 fun z => nomatch z)
          have w4 : upd H3 w (.lst (ws1 ++ [.ref t])) w = _ := upd_same
          have q4 : SqL K (upd H3 w (.lst (ws1 ++ [.ref t]))) q (r.map V.int) := by
            rcases s3.seq hq1 with (h | ⟨o, h⟩) | h
            · exact .inl (.inl (upd_oth h (ne_of h (s3 _ _ e21) (row_ne h8 r21.ref))))
            · exact .inl (.inr ⟨o, upd_oth h (ne_of h (s3 _ _ e21) fun z => nomatch z)⟩)
            · exact .inr h
          have r14 := r13.map (row_upd (o := .lst (ws1 ++ [.ref t])) (s3 _ _ e21) pw)
          have r24 := (r23.map (row_upd (o := .lst (ws1 ++ [.ref t])) (s3 _ _ e21) pw) (tup_upd (s3 _ _ e21) pw)).snoc (v := .ref t) (s := s) (r := r) ⟨t, _, rfl, tup_upd (s3 _ _ e21) pw _ _ et, row_upd (s3 _ _ e21) pw _ _ rl⟩
          have r34 := r33.map (row_upd (o := .lst (ws1 ++ [.ref t])) (s3 _ _ e21) pw)
          have st4 : Stp (dkF d a w n) H (dkF d a w n) (upd H3 w (.lst (ws1 ++ [.ref t]))) := (st1.trans (.same s3)).upd (by simp [dkF])
          generalize upd H3 w (.lst (ws1 ++ [.ref t])) = H4 at *
          walk_at "run1"
          refine w_tlist q4 fun l2 hl2 => ?_
          have s5 : Same H4 (upd H4 l2 (.lst (r.map V.int))) := same_new hl2
          have rl2 : RowAt (upd H4 l2 (.lst (r.map V.int))) (.ref l2) r := .of h8 upd_same
          generalize upd H4 l2 (.lst (r.map V.int)) = H5 at *
          have i5 := s5 _ _ i4
          have n5 := s5 _ _ n4
          walk_at "run1"
          refine w_dputI n5 (by have := r31.1; omega) ?_
          have fr6 := row_upd (o := .dK (putK kvs1 (.inl s) (.ref l2))) n5 plain_dK
          have ft6 := tup_upd (o := .dK (putK kvs1 (.inl s) (.ref l2))) n5 plain_dK
          refine k2 _ ⟨⟨dx1, upd_oth i5 (ne_of i5 n5 fun z => nomatch z)⟩, ⟨vs1, upd_oth (s5 _ _ a4) (ne_of (s5 _ _ a4) n5 fun z => nomatch z), (r14.same s5).map fr6⟩, ⟨_, upd_oth (s5 _ _ w4) (ne_of (s5 _ _ w4) n5 fun z => nomatch z), (r24.map (fun _ _ y => y.same s5) fun _ _ e => s5 _ _ e).map fr6 ft6⟩, ⟨_, upd_same, NwAt.put ((r34.map fun _ _ y => y.same s5).map fr6) (fr6 _ _ rl2)⟩, ne1⟩ ((st4.trans (.same s5)).upd (by simp [dkF])) hp
        · exact k1 H1 hD1 ⟨fun b o h nb => fr b o h fun e => nb (by rw [e]; exact List.mem_cons_self ..), fun b h => .inl h⟩ hp
    · refine w_S2 ⟨8, rfl, .inr ⟨hn, ?_⟩⟩
      walk_at "run1"
      exact z
/-- the sectors behind a flush -/
def flushS : List (List Int) → List (Int × List Int) → List (List Int)
  | rs, [] => rs
  | rs, (s, r) :: w => flushS (rs.set s.toNat r) w
theorem flushS_snoc (rs : List (List Int)) (w : List (Int × List Int)) (s : Int) (r : List Int) : flushS rs (w ++ [(s, r)]) = (flushS rs w).set s.toNat r := by
  induction w generalizing rs with
  | nil => rfl
  | cons p w ih => obtain ⟨t, q⟩ := p; exact ih _
theorem flushS_len (rs : List (List Int)) (w : List (Int × List Int)) : (flushS rs w).length = rs.length := by
  induction w generalizing rs with
  | nil => rfl
  | cons p w ih => obtain ⟨t, q⟩ := p; show (flushS (rs.set t.toNat q) w).length = _; rw [ih, List.length_set]
def flushD (D : DiskS) : DiskS := { D with secs := flushS D.secs D.wr, wr := [] }
def sp_Disk_flush (K : PySem.W.Frag) (C : Ex) : Sp := S1 fun x H Q E => ∃ d a w n D, x = .ref d ∧ DiskAt C H d a w n D ∧ DiskOk D ∧
  (∀ H', DiskAt C H' d a w n (opS D) → Stp (dkF d a w n) H (dkF d a w n) H' → (opS D).pw = false → E (.ref C.PowerOff) none H') ∧
  (∀ H' w' n', DiskAt C H' d a w' n' (flushD (opS D)) → Stp (dkF d a w n) H (dkF d a w' n') H' → (opS D).pw = true → Q .non H')
theorem w_f_list {K : PySem.W.Frag} {D : Ends} {σ : L2.St} {H : Hp} {g : TG} {tb : TS} {a : Addr} {xs : List V} (Pv : Nat → L2.St → Hp → Prop) (h0 : Pv 0 σ H) (hl : ∀ i σ H, i ≤ xs.length → Pv i σ H → H a = some (.lst xs))
    (hs : ∀ i x σ H, xs[i]? = some x → Pv i σ H → g x σ H fun σ2 H2 => tb { D with nx := Pv (i + 1), ct := Pv (i + 1), bk := D.nx } σ2 H2) (hd : ∀ σ H, Pv xs.length σ H → D.nx σ H) : forQ g tb D σ (Itl K a) H :=
  f_list Pv h0 (fun i σ H q p => SqL.of (hl i σ H q p)) hs hd
def t_Disk_flush (K : PySem.W.Frag) (C : Ex) (E : XK) : TS :=
  tSeq (tDrop (uMeth C.Disk "operate" (sp_Disk_operate K C) (WB E) (tVar 0) (tNil)))
  (tSeq (tFor (iList K (uFld C.Disk "writes" (tVar 0))) (gTup K 2 (gCons (gName 1) (gCons (gName 2) (gNil))))
  (tAsg (tCB (uList K) (tCons (tVar 2) (tNil))) (gSub (uFld C.Disk "sectors" (tVar 0)) (tVar 1) uSet)))
  (tSeq (uSetF C.Disk "writes" (tVar 0) (tLst (tNil)))
  (uSetF C.Disk "newest" (tVar 0) (tDNewK))))
theorem pure_Disk_flush {K : PySem.W.Frag} {C : Ex} {vs : List V} {H : Hp} {Q : VK} {E : XK} (F : Fa K C) (h : sp_Disk_flush K C vs H Q E) : t_Disk_flush K C E { nx := fun _ H' => Q .non H', rt := Q } (start ["self", "sector", "words"] vs) H := by
  obtain ⟨x, rfl, d, a, w, n, D, rfl, hD, ok, k1, k2⟩ := h
  obtain ⟨dx, i⟩ := hD.ins
  unfold dkO at i
  unfold t_Disk_flush
  walk_at "run1"
  refine w_S1 ⟨d, a, w, n, D, rfl, hD, fun H1 hD1 fr => ⟨fun hp => ?_, fun hp => ?_⟩⟩
  · have st1 : Stp (dkF d a w n) H (dkF d a w n) H1 := ⟨fun b o h nb => fr b o h fun e => nb (by rw [e]; exact List.mem_cons_self ..), fun b h => .inl h⟩
    have wk : ∀ p ∈ (opS D).wr, 0 ≤ p.1 ∧ p.1.toNat < (opS D).secs.length := by
      rw [(opS_secs D).1, (opS_secs D).2.1]
      intro p hp
      have := ok.wk p hp
      have := ok.sz
      omega
    clear k1
    generalize opS D = D1 at *
    obtain ⟨⟨dx1, i1⟩, ⟨vs1, e11, r11⟩, ⟨ws1, e21, r21⟩, ⟨kvs1, e31, r31⟩, ne1⟩ := hD1
    unfold dkO at i1
    have hw := r21.1
    walk_at "run1"
    refine w_f_list (xs := ws1) (fun i σ H2 => ∃ v1 v2, σ = [some (.ref d), v1, v2] ∧ H2 d = some (dkO C dx1 a w n D1) ∧ (∃ vs, H2 a = some (.lst vs) ∧ RowsAt H2 vs (flushS D1.secs (D1.wr.take i))) ∧ H2 w = some (.lst ws1) ∧ WrsAt H2 ws1 D1.wr ∧ (∃ kvs, H2 n = some (.dK kvs)) ∧ Stp (dkF d a w n) H (dkF d a w n) H2)
      ⟨none, none, rfl, i1, ⟨vs1, e11, r11⟩, e21, r21, ⟨kvs1, e31⟩, st1⟩ (by rintro i σ H2 _ ⟨_, _, _, _, _, h, _⟩; exact h) ?_ ?_
    · rintro i x σ H2 hx ⟨v1, v2, rfl, h1, ⟨vs, h2, rr⟩, h3, h4, ⟨kvs, h5⟩, st⟩
      obtain ⟨s, r, hsr, t, y, rfl, et, ry⟩ := h4.2 _ _ hx
      obtain ⟨l8, py, rfl, ey⟩ := ry
      have hm := List.mem_of_getElem? hsr
      have ws := wk _ hm
      unfold dkO at h1
      walk_at "run1"
      refine w_tlist (SqL.of ey) fun l hl => ?_
      have s3 : Same H2 (upd H2 l (.lst (r.map V.int))) := same_new hl
      have rl : RowAt (upd H2 l (.lst (r.map V.int))) (.ref l) r := .of l8 upd_same
      generalize upd H2 l (.lst (r.map V.int)) = H3 at *
      have h13 := s3 _ _ h1
      walk_at "run1"
      refine w_setL (s3 _ _ h2) ⟨ws.1, by rw [rr.1, flushS_len]; exact ws.2⟩ ?_
      have pa := plain_refs rr.ref
      have fr4 := row_upd (o := .lst (vs.set s.toNat (.ref l))) (s3 _ _ h2) pa
      have ft4 := tup_upd (o := .lst (vs.set s.toNat (.ref l))) (s3 _ _ h2) pa
      refine ⟨_, _, rfl, upd_oth h13 (ne_of h1 h2 fun z => nomatch z), ⟨_, upd_same, ?_⟩, upd_oth (s3 _ _ h3) ne1.symm, (h4.map (fun _ _ y => y.same s3) fun _ _ e => s3 _ _ e).map fr4 ft4, ⟨kvs, upd_oth (s3 _ _ h5) (ne_of h5 h2 fun z => nomatch z)⟩, (st.trans (.same s3)).upd (by simp [dkF])⟩
      rw [take_snoc hsr, flushS_snoc]
      exact ((rr.same s3).map fr4).set (fr4 _ _ rl)
    · rintro σ H2 ⟨v1, v2, rfl, h1, ⟨vs, h2, rr⟩, h3, h4, ⟨kvs, h5⟩, st⟩
      rw [hw, List.take_length] at rr
      unfold dkO at h1
      walk_at "run1"
      rename_i w' hw' n' hn'
      have J0 : Ini H2 H2 d a dx1 C.Disk _ (flushS D1.secs D1.wr) := ⟨h1, fun _ _ h _ => h, vs, h2, rr⟩
      have J1 := J0.new (o := .lst []) hw'
      have nwd : w' ≠ d := (ne_of_none h1 hw').symm
      have naw : a ≠ w' := ne_of_none h2 hw'
      have e1 : upd (upd H2 w' (.lst [])) d (.ins C.Disk dx1 (putF "writes" (.ref w') [("blocks", .int D1.blocks), ("sectors", .ref a), ("writes", .ref w), ("newest", .ref n), ("left", optI D1.left), ("power", .bl D1.pw)])) w' = some (.lst []) := by rw [upd_ne nwd]; exact upd_same
      have J2 := J1.set (fs' := putF "writes" (V.ref w') [("blocks", .int D1.blocks), ("sectors", .ref a), ("writes", .ref w), ("newest", .ref n), ("left", optI D1.left), ("power", .bl D1.pw)])
      have nnd : n' ≠ d := (ne_of_none J2.1 hn').symm
      have nwn : w' ≠ n' := ne_of_none e1 hn'
      have st2 : Stp (dkF d a w n) H (dkF d a w n) (upd (upd H2 w' (.lst [])) d (.ins C.Disk dx1 (putF "writes" (.ref w') [("blocks", .int D1.blocks), ("sectors", .ref a), ("writes", .ref w), ("newest", .ref n), ("left", optI D1.left), ("power", .bl D1.pw)]))) := (st.trans (.same (same_new hw'))).upd (by simp [dkF])
      have J3 := (J2.new (o := .dK []) hn').set (fs' := putF "newest" (V.ref n') (putF "writes" (V.ref w') [("blocks", .int D1.blocks), ("sectors", .ref a), ("writes", .ref w), ("newest", .ref n), ("left", optI D1.left), ("power", .bl D1.pw)]))
      obtain ⟨j1, j2, vs', j3, j4⟩ := J3
      refine k2 _ w' n' ⟨⟨dx1, j1⟩, ⟨vs', j3, j4⟩, ⟨[], ?_, rfl, fun i v h => by simp at h⟩, ⟨[], ?_, Nat.le_refl 0, fun _ h => by simp at h, fun s => .inl ⟨rfl, rfl⟩⟩, naw⟩ ?_ hp
      · rw [upd_ne nwd, upd_ne nwn]; exact e1
      · rw [upd_ne nnd]; exact upd_same
      · have st3 := (st2.trans (.same (same_new (o := .dK []) hn'))).upd (p := d) (o := .ins C.Disk dx1 (putF "newest" (.ref n') (putF "writes" (.ref w') [("blocks", .int D1.blocks), ("sectors", .ref a), ("writes", .ref w), ("newest", .ref n), ("left", optI D1.left), ("power", .bl D1.pw)]))) (by simp [dkF])
        refine ⟨st3.1, fun b hb => ?_⟩
        rcases List.mem_cons.mp hb with rfl | hb
        · exact .inl (by simp [dkF])
        rcases List.mem_cons.mp hb with rfl | hb
        · exact .inl (by simp [dkF])
        rcases List.mem_cons.mp hb with rfl | hb
        · exact st.fresh hw'
        rcases List.mem_cons.mp hb with rfl | hb
        · exact st2.fresh hn'
        · cases hb
  · exact k1 H1 hD1 ⟨fun b o h nb => fr b o h fun e => nb (by rw [e]; exact List.mem_cons_self ..), fun b h => .inl h⟩ hp
/-- the rows of data -/
theorem RowsAt.dt {K : PySem.W.Frag} {H : Hp} : ∀ {vs : List V} {rs : List (List Int)}, RowsAt H vs rs → DtAll K H vs rs
  | [], [], _ => DtAll.nil
  | [], _ :: _, h => by cases h.1
  | _ :: _, [], h => by cases h.1
  | v :: vs, r :: rs, h => by
    obtain ⟨r', e, _, p, rfl, q⟩ := h.2 0 v rfl
    cases e
    refine DtAll.cons (Dt.list (SqL.of q) (DtAll.ints r)) (RowsAt.dt ⟨by simpa using h.1, fun i w hw => ?_⟩)
    exact h.2 (i + 1) w hw
def sp_Disk_lasting (K : PySem.W.Frag) (C : Ex) : Sp := S1 fun x H Q _ => ∃ d a w n D, x = .ref d ∧ DiskAt C H d a w n D ∧ D.secs.length ≤ 100000 ∧
  ∀ p, H p = none → ∀ H' vs, Same H H' → H' p = some (.lst vs) → RowsAt H' vs D.secs → Q (.ref p) H'
def t_Disk_lasting (K : PySem.W.Frag) (C : Ex) (E : XK) : TS :=
  tRet (tLc (iList K (uFld C.Disk "sectors" (tVar 0))) (gName 1) (tYes) (tCB (uList K) (tCons (tVar 1) (tNil))) [1])
theorem pure_Disk_lasting {K : PySem.W.Frag} {C : Ex} {vs : List V} {H : Hp} {Q : VK} {E : XK} (F : Fa K C) (h : sp_Disk_lasting K C vs H Q E) : t_Disk_lasting K C E { nx := fun _ H' => Q .non H', rt := Q } (start ["self", "words"] vs) H := by
  obtain ⟨x, rfl, d, a, w, n, D, rfl, hD, hl, k⟩ := h
  obtain ⟨⟨dx, i⟩, ⟨vs, e1, r1⟩, ⟨ws, e2, r2⟩, ⟨kvs, e3, r3⟩, ne⟩ := hD
  unfold dkO at i
  unfold t_Disk_lasting
  walk_at "run1"
  refine l_list (xs := vs) (fun b i H1 => Same H H1 ∧ ∃ us, H1 b = some (.lst us) ∧ RowsAt H1 us (D.secs.take i)) (fun b hb => ⟨same_new hb, [], upd_same, .nil⟩) (fun b i H1 _ p => SqL.of (p.1 _ _ e1)) ?_ ?_
  · rintro b i x H1 hb hx ⟨s1, us, h1, rr⟩
    obtain ⟨r, hr, ry⟩ := r1.2 _ _ hx
    obtain ⟨l8, py, rfl, ey⟩ := ry
    walk_at "run1"
    refine ⟨rfl, ?_⟩
    walk_at "run1"
    refine w_tlist (SqL.of (s1 _ _ ey)) fun l hl2 => ?_
    have s3 : Same H1 (upd H1 l (.lst (r.map V.int))) := same_new hl2
    have rl : RowAt (upd H1 l (.lst (r.map V.int))) (.ref l) r := .of l8 upd_same
    generalize upd H1 l (.lst (r.map V.int)) = H3 at *
    have hz : us.length ≤ D.secs.length := by rw [rr.1, List.length_take]; omega
    refine ⟨us, s3 _ _ h1, lt_line (by omega), same_upd (s1.trans s3) hb, us ++ [.ref l], upd_same, ?_⟩
    rw [take_snoc hr]
    exact ((rr.same s3).snoc rl).upd (s3 _ _ h1) (noRow_refs rr.ref)
  · rintro b H1 hb ⟨s1, us, h1, rr⟩
    rw [r1.1, List.take_length] at rr
    exact k b hb H1 us s1 h1 rr
/-- waiting writes as data -/
theorem WrsAt.dt {K : PySem.W.Frag} {H : Hp} : ∀ {vs : List V} {rs : List (Int × List Int)}, WrsAt H vs rs → DtAll K H vs rs
  | [], [], _ => DtAll.nil
  | [], _ :: _, h => by cases h.1
  | _ :: _, [], h => by cases h.1
  | v :: vs, r :: rs, h => by
    obtain ⟨s, r', e, t, x, rfl, et, _, p, rfl, q⟩ := h.2 0 v rfl
    cases e
    refine DtAll.cons (Dt.pair (SqT.of et) Dt.int (Dt.list (SqL.of q) (DtAll.ints r'))) (WrsAt.dt ⟨by simpa using h.1, fun i w hw => ?_⟩)
    exact h.2 (i + 1) w hw
def sp_Disk_waiting (K : PySem.W.Frag) (C : Ex) : Sp := S1 fun x H Q _ => ∃ d a w n D, x = .ref d ∧ DiskAt C H d a w n D ∧ D.wr.length ≤ 100000 ∧
  ∀ p, H p = none → ∀ H' vs, Same H H' → H' p = some (.lst vs) → WrsAt H' vs D.wr → Q (.ref p) H'
def t_Disk_waiting (K : PySem.W.Frag) (C : Ex) (E : XK) : TS :=
  tRet (tLc (iList K (uFld C.Disk "writes" (tVar 0))) (gTup K 2 (gCons (gName 1) (gCons (gName 2) (gNil)))) (tYes) (tTup (tCons (tVar 1) (tCons (tCB (uList K) (tCons (tVar 2) (tNil))) (tNil)))) [1, 2])
theorem pure_Disk_waiting {K : PySem.W.Frag} {C : Ex} {vs : List V} {H : Hp} {Q : VK} {E : XK} (F : Fa K C) (h : sp_Disk_waiting K C vs H Q E) : t_Disk_waiting K C E { nx := fun _ H' => Q .non H', rt := Q } (start ["self", "sector", "words"] vs) H := by
  obtain ⟨x, rfl, d, a, w, n, D, rfl, hD, hl, k⟩ := h
  obtain ⟨⟨dx, i⟩, ⟨vs, e1, r1⟩, ⟨ws, e2, r2⟩, ⟨kvs, e3, r3⟩, ne⟩ := hD
  unfold dkO at i
  unfold t_Disk_waiting
  walk_at "run1"
  refine l_list (xs := ws) (fun b i H1 => Same H H1 ∧ ∃ us, H1 b = some (.lst us) ∧ WrsAt H1 us (D.wr.take i)) (fun b hb => ⟨same_new hb, [], upd_same, rfl, fun i v h => by simp at h⟩) (fun b i H1 _ p => SqL.of (p.1 _ _ e2)) ?_ ?_
  · rintro b i x H1 hb hx ⟨s1, us, h1, rr⟩
    obtain ⟨s, r, hr, t, y, rfl, et, l8, py, rfl, ey⟩ := r2.2 _ _ hx
    have et1 := s1 _ _ et
    walk_at "run1"
    refine ⟨rfl, ?_⟩
    walk_at "run1"
    refine w_tlist (SqL.of (s1 _ _ ey)) fun l hl2 => ?_
    walk_at "run1"
    rename_i t2 ht2
    have s3 : Same H1 (upd (upd H1 l (.lst (r.map V.int))) t2 (.tup [.int s, .ref l])) := same_updN (same_new hl2) ht2
    have rl : WrAt (upd (upd H1 l (.lst (r.map V.int))) t2 (.tup [.int s, .ref l])) (.ref t2) s r := ⟨t2, _, rfl, upd_same, .of l8 (upd_old upd_same ht2)⟩
    generalize upd (upd H1 l (.lst (r.map V.int))) t2 (.tup [.int s, .ref l]) = H3 at *
    have hz : us.length ≤ D.wr.length := by rw [rr.1, List.length_take]; omega
    have pw := plain_refs rr.ref
    refine ⟨us, s3 _ _ h1, lt_line (by omega), same_upd (s1.trans s3) hb, us ++ [.ref t2], upd_same, ?_⟩
    rw [take_snoc hr]
    exact ((rr.map (fun _ _ y => y.same s3) fun _ _ e => s3 _ _ e).snoc rl).map (row_upd (s3 _ _ h1) pw) (tup_upd (s3 _ _ h1) pw)
  · rintro b H1 hb ⟨s1, us, h1, rr⟩
    rw [r2.1, List.take_length] at rr
    exact k b hb H1 us s1 h1 rr
theorem opS_id {D : DiskS} (h1 : D.left = none) (h2 : D.pw = true) : opS D = D := by
  have a : opA D = D := by unfold opA; rw [if_neg (by rw [h1]; simp)]
  unfold opS
  rw [a]
  unfold opB
  rw [if_pos h2, h1]
  cases D
  cases h1
  rfl
def Rd8 (D : DiskS) : Prop := ∀ s : Int, 0 ≤ s → s < D.secs.length → (rdS D s).length = 8
theorem rd_push {D : DiskS} {s t : Int} {r : List Int} : rdS (pushW D s r) t = if t = s then r else rdS D t := by
  unfold rdS pushW
  rw [lastW_snoc]
  split <;> rfl
/-- a read that is served -/
theorem w_read {K : PySem.W.Frag} {C : Ex} {H : Hp} {Q : VK} {E : XK} {d a w n : Addr} {D : DiskS} {s : Int} (x : DiskAt C H d a w n D) (ok : DiskOk D) (r8 : Rd8 D) (pw : D.pw = true) (h0 : 0 ≤ s) (h1 : s < D.secs.length)
    (k : ∀ p, H p = none → ∀ H', Same H H' → H' p = some (.lst ((rdS D s).map V.int)) → Q (.ref p) H') : sp_Disk_read K C [.ref d, .int s] H Q E :=
  w_S2 ⟨d, a, w, n, D, rfl, x, ok, trivial, (fun q => by rw [pw] at q; cases q), (fun _ q => by rw [btw_int h0 (by omega)] at q; cases q), fun t _ e _ _ _ => by cases e; exact k⟩
structure DskOn (D : DiskS) (b : Int) (m : Nat) : Prop where
  ok : DiskOk D
  lf : D.left = none
  pw : D.pw = true
  bl : D.blocks = b
  r8 : Rd8 D
  wl : D.wr.length ≤ m
theorem DskOn.push {D : DiskS} {b : Int} {m : Nat} {s : Int} {r : List Int} (x : DskOn D b m) (hm : m < 100000) (h0 : 0 ≤ s) (h1 : s < D.secs.length) (l : r.length = 8) : DskOn (pushW D s r) b (m + 1) := by
  refine ⟨⟨x.ok.bl, x.ok.sz, fun p hp => ?_, ?_⟩, x.lf, x.pw, x.bl, fun t t0 t1 => ?_, ?_⟩
  · have := x.ok.sz
    rcases List.mem_append.mp hp with q | q
    · exact x.ok.wk p q
    · rw [List.mem_singleton.mp q]
      show 0 ≤ s ∧ s < 4 * D.blocks
      omega
  · show (D.wr ++ [(s, r)]).length ≤ 100000
    have := x.wl
    rw [List.length_append]
    simp only [List.length_cons, List.length_nil]
    omega
  · rw [rd_push]
    split
    · exact l
    · exact x.r8 t t0 t1
  · show (D.wr ++ [(s, r)]).length ≤ m + 1
    have := x.wl
    rw [List.length_append]
    simp only [List.length_cons, List.length_nil]
    omega
/-- a write that is served -/
theorem w_write {K : PySem.W.Frag} {C : Ex} {H : Hp} {Q : VK} {E : XK} {d a w n : Addr} {D : DiskS} {b : Int} {m : Nat} {s : Int} {q : Addr} {r : List Int} (x : DiskAt C H d a w n D) (o : DskOn D b m) (hm : m < 100000) (h0 : 0 ≤ s) (h1 : s < D.secs.length)
    (hq : SqL K H q (r.map V.int)) (h8 : r.length = 8) (hr : ∀ z ∈ r, 0 ≤ z) (k : ∀ H', DiskAt C H' d a w n (pushW D s r) → Stp (dkF d a w n) H (dkF d a w n) H' → Q .non H') : sp_Disk_write K C [.ref d, .int s, .ref q] H Q E := by
  refine w_S3 ⟨d, a, w, n, D, rfl, x, o.ok, by have := o.wl; omega, trivial, .inl ⟨q, _, rfl, hq, fun y hy => ?_, fun z => ?_, fun t e _ _ r2 er _ _ => ?_⟩⟩
  · obtain ⟨i, _, rfl⟩ := List.mem_map.mp hy
    trivial
  · exfalso
    rcases z with z | z
    · rw [btw_int h0 (by omega)] at z; cases z
    · have : (r.map V.int).all isWord = true := List.all_eq_true.mpr fun y hy => by
        obtain ⟨i, hi, rfl⟩ := List.mem_map.mp hy
        exact decide_eq_true (hr i hi)
      rw [this, decide_eq_true (by rw [List.length_map]; omega)] at z
      cases z
  · cases e
    have er : r = r2 := (List.map_inj_right (fun _ _ h => V.int.inj h)).mp er
    subst er
    rw [opS_id o.lf o.pw]
    exact ⟨fun _ _ _ h => (by rw [o.pw] at h; cases h), fun H' a b _ => k H' a b⟩
theorem flushS_get (t : Int) (ht : 0 ≤ t) : ∀ (w : List (Int × List Int)) (rs : List (List Int)), t.toNat < rs.length → (∀ p ∈ w, 0 ≤ p.1) → (flushS rs w).getD t.toNat [] = (lastW w t).getD (rs.getD t.toNat [])
  | [], rs, _, _ => rfl
  | (s, r) :: w, rs, hl, hp => by
    have ih := flushS_get t ht w (rs.set s.toNat r) (by rw [List.length_set]; exact hl) fun p h => hp p (List.mem_cons_of_mem _ h)
    show (flushS (rs.set s.toNat r) w).getD t.toNat [] = _
    rw [ih]
    show _ = (match lastW w t with | some q => some q | none => if t = s then some r else none).getD (rs.getD t.toNat [])
    cases lastW w t with
    | some q => rfl
    | none =>
      have h0 := hp (s, r) (List.mem_cons_self ..)
      by_cases e : t = s
      · subst e
        rw [if_pos rfl]
        show (rs.set t.toNat r).getD t.toNat [] = r
        rw [List.getD_eq_getElem?_getD, List.getElem?_set_self hl]; rfl
      · rw [if_neg e]
        show (rs.set s.toNat r).getD t.toNat [] = rs.getD t.toNat []
        have : s.toNat ≠ t.toNat := fun q => e (by have : 0 ≤ s := h0; omega)
        rw [List.getD_eq_getElem?_getD, List.getElem?_set_ne this, List.getD_eq_getElem?_getD]
theorem rd_flush {D : DiskS} {b : Int} {m : Nat} (o : DskOn D b m) {t : Int} (h0 : 0 ≤ t) (h1 : t < D.secs.length) : rdS (flushD D) t = rdS D t := by
  show (lastW [] t).getD ((flushS D.secs D.wr).getD t.toNat []) = _
  show (flushS D.secs D.wr).getD t.toNat [] = _
  rw [flushS_get t h0 _ _ (by omega) fun p h => (o.ok.wk p h).1]
  rfl
theorem DskOn.flush {D : DiskS} {b : Int} {m : Nat} (o : DskOn D b m) : DskOn (flushD D) b 0 := by
  have hl : (flushD D).secs.length = D.secs.length := flushS_len _ _
  refine ⟨⟨o.ok.bl, by rw [hl]; exact o.ok.sz, fun p h => (by cases h), Nat.zero_le _⟩, o.lf, o.pw, o.bl, fun t t0 t1 => ?_, Nat.le_refl 0⟩
  rw [hl] at t1
  rw [rd_flush o t0 t1]
  exact o.r8 t t0 t1
/-- a flush that is served -/
theorem w_flush {K : PySem.W.Frag} {C : Ex} {H : Hp} {Q : VK} {E : XK} {d a w n : Addr} {D : DiskS} {b : Int} {m : Nat} (x : DiskAt C H d a w n D) (o : DskOn D b m)
    (k : ∀ H' w' n', DiskAt C H' d a w' n' (flushD D) → Stp (dkF d a w n) H (dkF d a w' n') H' → Q .non H') : sp_Disk_flush K C [.ref d] H Q E :=
  w_S1 ⟨d, a, w, n, D, rfl, x, o.ok, by rw [opS_id o.lf o.pw]; exact fun _ _ _ h => (by rw [o.pw] at h; cases h), by rw [opS_id o.lf o.pw]; exact fun H' w' n' a b _ => k H' w' n' a b⟩
theorem newD_on {z : Int} (h : 96 ≤ z ∧ z ≤ 256) : DskOn (newD z) z 0 := by
  have hl : (newD z).secs.length = (z * 4).toNat := List.length_replicate ..
  have rd : ∀ t : Int, t < (newD z).secs.length → 0 ≤ t → rdS (newD z) t = List.replicate 8 0 := fun t h1 h0 => by
    show (newD z).secs.getD t.toNat [] = _
    rw [List.getD_eq_getElem?_getD]
    show ((List.replicate (z * 4).toNat (List.replicate 8 (0 : Int)))[t.toNat]?).getD [] = _
    rw [List.getElem?_replicate, if_pos (by omega)]
    rfl
  exact ⟨⟨h, by rw [hl]; show ((z * 4).toNat : Int) = 4 * z; omega, fun p h => (by cases h), Nat.zero_le _⟩, rfl, rfl, rfl, fun t t0 t1 => by rw [rd t t1 t0]; rfl, Nat.le_refl 0⟩
theorem rd_new {z t : Int} (h0 : 0 ≤ t) (h1 : t < 4 * z) : rdS (newD z) t = List.replicate 8 0 := by
  show (newD z).secs.getD t.toNat [] = _
  rw [List.getD_eq_getElem?_getD]
  show ((List.replicate (z * 4).toNat (List.replicate 8 (0 : Int)))[t.toNat]?).getD [] = _
  rw [List.getElem?_replicate, if_pos (by omega)]
  rfl
theorem DiskAt.fresh {C : Ex} {H : Hp} {d a w n p : Addr} {D : DiskS} (x : DiskAt C H d a w n D) (h : H p = none) : p ∉ dkF d a w n := by
  obtain ⟨⟨_, x1⟩, ⟨_, x2, _⟩, ⟨_, x3, _⟩, ⟨_, x4, _⟩, _⟩ := x
  intro hb
  simp only [dkF, List.mem_cons, List.not_mem_nil, or_false] at hb
  rcases hb with rfl | rfl | rfl | rfl
  · rw [x1] at h; cases h
  · rw [x2] at h; cases h
  · rw [x3] at h; cases h
  · rw [x4] at h; cases h
theorem Stp.wide {S T : List Addr} {H H' : Hp} (x : Stp S H S H') (s : ∀ b ∈ S, b ∈ T) : Stp T H T H' := ⟨fun b o h n => x.1 b o h fun q => n (s b q), fun _ h => .inl h⟩
theorem DiskAt.rowNot {C : Ex} {H : Hp} {d a w n p : Addr} {D : DiskS} {r : List Int} (x : DiskAt C H d a w n D) (h : RowAt H (.ref p) r) : p ∉ dkF d a w n := by
  obtain ⟨⟨_, x1⟩, ⟨_, x2, r2⟩, ⟨_, x3, r3⟩, ⟨_, x4, _⟩, _⟩ := x
  obtain ⟨l8, p', e, hp⟩ := h
  cases e
  intro hb
  simp only [dkF, List.mem_cons, List.not_mem_nil, or_false] at hb
  rcases hb with rfl | rfl | rfl | rfl
  · rw [x1] at hp; cases hp
  · rw [x2] at hp; exact row_ne l8 r2.ref (Option.some.inj hp).symm
  · rw [x3] at hp; exact row_ne l8 r3.ref (Option.some.inj hp).symm
  · rw [x4] at hp; cases hp
theorem DiskAt.tupNot {C : Ex} {H : Hp} {d a w n t : Addr} {D : DiskS} {xs : List V} (x : DiskAt C H d a w n D) (h : H t = some (.tup xs)) : t ∉ dkF d a w n := by
  obtain ⟨⟨_, x1⟩, ⟨_, x2, r2⟩, ⟨_, x3, r3⟩, ⟨_, x4, _⟩, _⟩ := x
  intro hb
  simp only [dkF, List.mem_cons, List.not_mem_nil, or_false] at hb
  rcases hb with rfl | rfl | rfl | rfl
  · rw [x1] at h; cases h
  · rw [x2] at h; cases h
  · rw [x3] at h; cases h
  · rw [x4] at h; cases h
theorem RowAt.stp {C : Ex} {H H' : Hp} {d a w n : Addr} {D : DiskS} {v : V} {r : List Int} {S' : List Addr} (x : RowAt H v r) (hD : DiskAt C H d a w n D) (st : Stp (dkF d a w n) H S' H') : RowAt H' v r := by
  have x0 := x
  obtain ⟨l8, p, rfl, hp⟩ := x
  exact ⟨l8, p, rfl, (st.keep hp (hD.rowNot x0)).1⟩
theorem WrsAt.stp {C : Ex} {H H' : Hp} {d a w n : Addr} {D : DiskS} {vs : List V} {ws : List (Int × List Int)} {S' : List Addr} (x : WrsAt H vs ws) (hD : DiskAt C H d a w n D) (st : Stp (dkF d a w n) H S' H') : WrsAt H' vs ws :=
  x.map (fun _ _ y => y.stp hD st) fun _ _ e => (st.keep e (hD.tupNot e)).1
theorem WrsAt.same {H H' : Hp} {vs : List V} {ws : List (Int × List Int)} (x : WrsAt H vs ws) (s : Same H H') : WrsAt H' vs ws := x.map (fun _ _ y => y.same s) fun _ _ e => s _ _ e
theorem NwAt.same {H H' : Hp} {kvs : List (Key × V)} {ws : List (Int × List Int)} (x : NwAt H kvs ws) (s : Same H H') : NwAt H' kvs ws := x.map fun _ _ y => y.same s
def hdO (C : Ex) (dx : Addr) (g t b : V) : HO := .ins C.Head dx [("generation", g), ("table", t), ("blocks", b)]
def sp_Head___init__ (K : PySem.W.Frag) (C : Ex) : Sp := S4 fun x g t b H Q _ => ∃ p dx, x = .ref p ∧ H p = some (.ins C.Head dx []) ∧ ∀ H', H' p = some (hdO C dx g t b) → (∀ c o, H c = some o → c ≠ p → H' c = some o) → Q .non H'
def t_Head___init__ (K : PySem.W.Frag) (C : Ex) (E : XK) : TS :=
  tSeq (uSetF C.Head "generation" (tVar 0) (tVar 1))
  (tSeq (uSetF C.Head "table" (tVar 0) (tVar 2))
  (uSetF C.Head "blocks" (tVar 0) (tVar 3)))
theorem pure_Head___init__ {K : PySem.W.Frag} {C : Ex} {vs : List V} {H : Hp} {Q : VK} {E : XK} (F : Fa K C) (h : sp_Head___init__ K C vs H Q E) : t_Head___init__ K C E { nx := fun _ H' => Q .non H', rt := Q } (start ["self", "generation", "table", "blocks"] vs) H := by
  obtain ⟨x, g, t, b, rfl, p, dx, rfl, i, k⟩ := h
  unfold t_Head___init__
  walk_at "run1"
  refine k _ upd_same fun c o h n => ?_
  rw [upd_ne n, upd_ne n, upd_ne n]
  exact h
/-- a word of a row -/
abbrev rw8 (r : List Int) (i : Nat) : Int := r.getD i 0
/-- a sector of an image: its words, if it is one -/
def SecAt (K : PySem.W.Frag) (H : Hp) (v : V) (o : Option (List Int)) : Prop :=
  (∃ p xs, v = .ref p ∧ SqL K H p xs ∧ (∀ x ∈ xs, Known K H x) ∧ ((∃ r : List Int, o = some r ∧ xs = r.map V.int ∧ r.length = 8 ∧ ∀ z ∈ r, 0 ≤ z) ∨ (o = none ∧ (decide ((xs.length : Int) = 8) && xs.all isWord) = false))) ∨ (NoList K H v ∧ o = none)
/-- what disk_from takes -/
def imgLen (n : Int) : Prop := n % 4 = 0 ∧ 96 ≤ n / 4 ∧ n / 4 ≤ 256
def imgCase (K : PySem.W.Frag) (H : Hp) (x : V) (bad : Prop) (good : List (List Int) → Prop) : Prop := (NoList K H x ∧ bad) ∨
  ∃ q vs, x = .ref q ∧ SqL K H q vs ∧ ((¬ imgLen vs.length ∧ bad) ∨ (imgLen vs.length ∧ ∃ os : List (Option (List Int)), os.length = vs.length ∧ (∀ (i : Nat) v, vs[i]? = some v → ∃ o, os[i]? = some o ∧ SecAt K H v o) ∧
    ((none ∈ os ∧ bad) ∨ ∃ rs : List (List Int), os = rs.map some ∧ good rs)))
theorem imgCase.mono {K : PySem.W.Frag} {H : Hp} {x : V} {b b' : Prop} {g g' : List (List Int) → Prop} (h : imgCase K H x b g) (hb : b → b') (hg : ∀ rs, g rs → g' rs) : imgCase K H x b' g' := by
  rcases h with ⟨a, k⟩ | ⟨q, vs, e, hq, ⟨a, k⟩ | ⟨a, os, l, s, ⟨m, k⟩ | ⟨rs, e2, k⟩⟩⟩
  · exact .inl ⟨a, hb k⟩
  · exact .inr ⟨q, vs, e, hq, .inl ⟨a, hb k⟩⟩
  · exact .inr ⟨q, vs, e, hq, .inr ⟨a, os, l, s, .inl ⟨m, hb k⟩⟩⟩
  · exact .inr ⟨q, vs, e, hq, .inr ⟨a, os, l, s, .inr ⟨rs, e2, hg rs k⟩⟩⟩
def imgD (D : DiskS) : List (List Int) := (List.range D.secs.length).map fun i => rdS D (i : Nat)
theorem lastW_mem {s : Int} {r : List Int} : ∀ {w : List (Int × List Int)}, lastW w s = some r → ∃ p ∈ w, p.1 = s
  | [], h => by cases h
  | (t, q) :: w, h => by
    have e : (match lastW w s with | some q => some q | none => if s = t then some q else none) = some r := h
    cases e2 : lastW w s with
    | some q2 =>
      obtain ⟨p, hp, hs⟩ := lastW_mem e2
      exact ⟨p, List.mem_cons_of_mem _ hp, hs⟩
    | none =>
      rw [e2] at e
      dsimp only at e
      by_cases q3 : s = t
      · exact ⟨(t, q), List.mem_cons_self .., q3.symm⟩
      · rw [if_neg q3] at e; cases e
def sp_Disk_image (K : PySem.W.Frag) (C : Ex) : Sp := S1 fun x H Q _ => ∃ d a w n D, x = .ref d ∧ DiskAt C H d a w n D ∧ DiskOk D ∧
  ∀ p, H p = none → ∀ H' vs, Same H H' → H' p = some (.lst vs) → RowsAt H' vs (imgD D) → Q (.ref p) H'
def t_Disk_image (K : PySem.W.Frag) (C : Ex) (E : XK) : TS :=
  tSeq (tAsg (uMeth C.Disk "lasting" (sp_Disk_lasting K C) (WB E) (tVar 0) (tNil)) (gName 1))
  (tSeq (tLock (tFor (iKeys (uFld C.Disk "newest" (tVar 0))) (gName 2)
  (tAsg (tCB (uList K) (tCons (tDGet (uFld C.Disk "newest" (tVar 0)) (tVar 2)) (tNil))) (gSub (tVar 1) (tVar 2) uSet))))
  (tRet (tVar 1)))
theorem pure_Disk_image {K : PySem.W.Frag} {C : Ex} {vs : List V} {H : Hp} {Q : VK} {E : XK} (F : Fa K C) (h : sp_Disk_image K C vs H Q E) : t_Disk_image K C E { nx := fun _ H' => Q .non H', rt := Q } (start ["self", "rows", "sector"] vs) H := by
  obtain ⟨x, rfl, d, a, w, n, D, rfl, hD, ok, k⟩ := h
  have hD' := hD
  obtain ⟨⟨dx, i⟩, ⟨vs, e1, r1⟩, ⟨ws, e2, r2⟩, ⟨kvs, e3, r3⟩, ne⟩ := hD
  unfold dkO at i
  have hsz := ok.sz
  have hbl := ok.bl
  unfold t_Disk_image
  walk_at "run1"
  refine w_S1 ⟨d, a, w, n, D, rfl, hD', by omega, fun p hp H1 us s1 ep rp => ?_⟩
  have e31 := s1 _ _ e3
  have i1 := s1 _ _ i
  have r31 := r3.map fun _ _ y => y.same s1
  have pnn : p ≠ n := (ne_of_none e3 hp).symm
  have pnd : p ≠ d := (ne_of_none i hp).symm
  walk_at "run1"
  refine ⟨n, _, e31, trivial, fun od => ?_⟩
  have i2 : upd H1 n (.frz od (.dK kvs)) d = _ := upd_oth i1 (ne_of i1 e31 fun z => nomatch z)
  have p2 : upd H1 n (.frz od (.dK kvs)) p = _ := upd_oth ep pnn
  have fr2 : ∀ b o, H b = some o → b ≠ n → upd H1 n (.frz od (.dK kvs)) b = some o := fun b o h q => upd_oth (s1 _ _ h) q
  have n2 : upd H1 n (.frz od (.dK kvs)) n = some (.frz od (.dK kvs)) := upd_same
  have rw2 := row_upd (o := .frz od (.dK kvs)) e31 plain_dK
  have rp2 := rp.map rw2
  have r32 := r31.map rw2
  generalize upd H1 n (.frz od (.dK kvs)) = H2 at *
  refine w_for ?_
  unfold iKeys
  walk_at "run1"
  refine ⟨n, od, rfl, .inl ⟨kvs, n2, ?_⟩⟩
  refine f_any (n := kvs.length) (item := fun i x => ∃ k v, kvs[i]? = some (k, v) ∧ x = kV k)
    (fun i σ H3 => ∃ v2, σ = [some (.ref d), some (.ref p), v2] ∧ H3 n = some (.frz od (.dK kvs)) ∧ (∃ dx, H3 d = some (dkO C dx a w n D)) ∧ (∀ b o, H b = some o → b ≠ n → H3 b = some o) ∧ NwAt H3 kvs D.wr ∧ ∃ us rs, H3 p = some (.lst us) ∧ RowsAt H3 us rs ∧ rs.length = D.secs.length ∧
      ∀ j : Nat, j < D.secs.length → ((∃ i' v, i' < i ∧ kvs[i']? = some (Sum.inl (j : Int), v)) → rs.getD j [] = rdS D (j : Nat)) ∧ ((¬ ∃ i' v, i' < i ∧ kvs[i']? = some (Sum.inl (j : Int), v)) → rs.getD j [] = D.secs.getD j []))
    ⟨none, rfl, n2, ⟨dx, i2⟩, fr2, r32, us, D.secs, p2, rp2, rfl, fun j hj => ⟨fun ⟨_, _, h, _⟩ => absurd h (by omega), fun _ => rfl⟩⟩ ?_ ?_ ?_ ?_
  · rintro i σ H3 hi ⟨v2, rfl, h3n, _⟩
    exact ⟨⟨h3n, hi⟩, fun x H' y => y⟩
  · rintro σ H3 ⟨v2, rfl, h3n, _⟩
    exact ⟨h3n, Nat.le_refl _⟩
  · rintro i x σ H3 hi ⟨kk, v, hkv, rfl⟩ ⟨v2, rfl, h3n, ⟨dx3, h3d⟩, fr3, r33, us, rs, h3p, rp3, lr, hj⟩
    obtain ⟨s, hs⟩ := r33.2.1 _ (List.mem_of_getElem? hkv)
    have hs : kk = Sum.inl s := hs
    subst hs
    rcases r33.2.2 s with ⟨y, _⟩ | ⟨v', r, hv', hlw, h8, q, rfl, hq⟩
    · exfalso
      unfold valV at y
      rw [Option.map_eq_none_iff, List.find?_eq_none] at y
      exact y _ (List.mem_of_getElem? hkv) (decide_eq_true rfl)
    · have er : rdS D s = r := by unfold rdS; rw [hlw]; rfl
      obtain ⟨pw, hpw, es⟩ := lastW_mem hlw
      have bs := ok.wk pw hpw
      rw [es] at bs
      unfold dkO at h3d
      rw [show kV (Sum.inl s) = V.int s from rfl]
      walk_at "run1"
      refine ⟨n, _, rfl, .inl ⟨kvs, .inl s, .inr ⟨od, h3n⟩, rfl, hv'.symm⟩, ?_⟩
      walk_at "run1"
      refine w_tlist (SqL.of hq) fun l hl => ?_
      have s4 : Same H3 (upd H3 l (.lst (r.map V.int))) := same_new hl
      have rl : RowAt (upd H3 l (.lst (r.map V.int))) (.ref l) r := .of h8 upd_same
      generalize upd H3 l (.lst (r.map V.int)) = H4 at *
      walk_at "run1"
      refine w_setL (s4 _ _ h3p) ⟨bs.1, by rw [rp3.1, lr]; omega⟩ ?_
      have pl := plain_refs rp3.ref
      have rw5 := row_upd (o := .lst (us.set s.toNat (.ref l))) (s4 _ _ h3p) pl
      refine ⟨_, rfl, upd_oth (s4 _ _ h3n) pnn.symm, ⟨dx3, upd_oth (s4 _ _ h3d) pnd.symm⟩, fun b o h e => upd_oth (s4 _ _ (fr3 b o h e)) (ne_of_none h hp), (r33.map fun _ _ y => y.same s4).map rw5, _, rs.set s.toNat r, upd_same, ((rp3.same s4).map rw5).set (rw5 _ _ rl), by rw [List.length_set]; exact lr, fun j hj2 => ?_⟩
      obtain ⟨g1, g2⟩ := hj j hj2
      by_cases e : (j : Int) = s
      · have ej : s.toNat = j := by omega
        have e5 : (rs.set s.toNat r).getD j [] = rdS D (j : Nat) := by rw [ej, List.getD_eq_getElem?_getD, List.getElem?_set_self (by omega), e, er]; rfl
        exact ⟨fun _ => e5, fun z => absurd ⟨i, v, by omega, by rw [hkv, e]⟩ z⟩
      · have ej : s.toNat ≠ j := by omega
        have e5 : (rs.set s.toNat r).getD j [] = rs.getD j [] := by rw [List.getD_eq_getElem?_getD, List.getElem?_set_ne ej, List.getD_eq_getElem?_getD]
        rw [e5]
        have same : (∃ i' v, i' < i + 1 ∧ kvs[i']? = some (Sum.inl (j : Int), v)) ↔ ∃ i' v, i' < i ∧ kvs[i']? = some (Sum.inl (j : Int), v) := by
          refine ⟨fun ⟨i', v2, h1, h2⟩ => ?_, fun ⟨i', v2, h1, h2⟩ => ⟨i', v2, by omega, h2⟩⟩
          rcases Nat.lt_or_ge i' i with z | z
          · exact ⟨i', v2, z, h2⟩
          · obtain rfl : i' = i := by omega
            rw [hkv] at h2
            exact absurd (Sum.inl.inj (Prod.mk.inj (Option.some.inj h2)).1).symm e
        rw [same]
        exact ⟨g1, g2⟩
  · rintro σ H3 ⟨v2, rfl, h3n, _, fr3, r33, us, rs, h3p, rp3, lr, hj⟩
    refine ⟨h3n, ?_⟩
    have rw4 : ∀ v r, RowAt H3 v r → RowAt (upd H3 n (.dK kvs)) v r := fun _ r x => x.upd h3n fun _ e => nomatch e
    have s4 : Same H (upd H3 n (.dK kvs)) := fun b o h => by
      by_cases e : b = n
      · subst e; rw [upd_same]; rw [e3] at h; exact h
      · rw [upd_ne e]; exact fr3 b o h e
    walk_at "run1"
    refine k p hp _ us s4 (upd_oth h3p pnn) ?_
    have er : rs = imgD D := by
      refine List.ext_getElem (by unfold imgD; rw [lr, List.length_map, List.length_range]) fun j h1 h2 => ?_
      have hl : j < D.secs.length := by omega
      obtain ⟨g1, g2⟩ := hj j hl
      have e0 : rs.getD j [] = rs[j] := by rw [List.getD_eq_getElem?_getD, List.getElem?_eq_getElem h1]; rfl
      have e8 : (imgD D)[j]? = some (rdS D (j : Nat)) := by unfold imgD; rw [List.getElem?_map, List.getElem?_range hl]; rfl
      have e9 : (imgD D)[j] = rdS D (j : Nat) := (List.getElem?_eq_some_iff.mp e8).2
      rw [e9, ← e0]
      by_cases q : ∃ i' v, i' < kvs.length ∧ kvs[i']? = some (Sum.inl (j : Int), v)
      · exact g1 q
      · rw [g2 q]
        rcases r33.2.2 (j : Int) with ⟨_, y⟩ | ⟨v, r, y, _⟩
        · unfold rdS; rw [y]; rfl
        · exfalso
          apply q
          unfold valV at y
          rw [Option.map_eq_some_iff] at y
          obtain ⟨kv, hf, _⟩ := y
          have hm := List.mem_of_find?_eq_some hf
          have hk := List.find?_some hf
          obtain ⟨i', hi'⟩ := List.getElem?_of_mem hm
          refine ⟨i', kv.2, (List.getElem?_eq_some_iff.mp hi').1, ?_⟩
          rw [hi', ← of_decide_eq_true hk]
    rw [← er]
    exact rp3.map rw4
structure SpS where
  nums : List Int
  held : List Bool
  low : Int
def isFr (ns : List Int) (hs : List Bool) (i : Nat) : Bool := decide (ns.getD i 0 = 0) && !hs.getD i false
/-- the free blocks in ascending order -/
def freeL (ns : List Int) (hs : List Bool) : List Nat := (List.range ns.length).filter (isFr ns hs)
structure SpOk (S : SpS) : Prop where
  len : S.nums.length = S.held.length
  nn : ∀ z ∈ S.nums, 0 ≤ z
  lo : 0 ≤ S.low
  fr : ∀ i : Nat, (i : Int) < S.low → isFr S.nums S.held i = false
  sz : S.nums.length ≤ 100000
def spO (C : Ex) (dx a b : Addr) (ns : List Int) (sp low : Int) : HO := .ins C.Space dx [("blocks", .int (ns.length : Nat)), ("numbers", .ref a), ("held", .ref b), ("spare", .int sp), ("low", .int low)]
structure SpAt (C : Ex) (H : Hp) (s a b : Addr) (S : SpS) : Prop where
  ins : ∃ dx, H s = some (spO C dx a b S.nums (freeL S.nums S.held).length S.low)
  nm : H a = some (.lst (S.nums.map V.int))
  hd : H b = some (.lst (S.held.map V.bl))
  ne : a ≠ b
/-- the lists alone; what is counted stands open -/
structure SpR (C : Ex) (H : Hp) (s a b : Addr) (S : SpS) : Prop where
  ins : ∃ dx sp low, H s = some (spO C dx a b S.nums sp low)
  nm : H a = some (.lst (S.nums.map V.int))
  hd : H b = some (.lst (S.held.map V.bl))
  ne : a ≠ b
theorem SpAt.r {C : Ex} {H : Hp} {s a b : Addr} {S : SpS} (x : SpAt C H s a b S) : SpR C H s a b S := by
  obtain ⟨⟨dx, i⟩, h1, h2, ne⟩ := x
  exact ⟨⟨dx, _, _, i⟩, h1, h2, ne⟩
theorem SpAt.same {C : Ex} {H H' : Hp} {s a b : Addr} {S : SpS} (x : SpAt C H s a b S) (e : Same H H') : SpAt C H' s a b S := by
  obtain ⟨⟨dx, i⟩, h1, h2, ne⟩ := x
  exact ⟨⟨dx, e _ _ i⟩, e _ _ h1, e _ _ h2, ne⟩
abbrev spF (s a b : Addr) : List Addr := [s, a, b]
theorem SpAt.fresh {C : Ex} {H : Hp} {s a b p : Addr} {S : SpS} (x : SpAt C H s a b S) (h : H p = none) : p ∉ spF s a b := by
  obtain ⟨⟨_, x1⟩, x2, x3, _⟩ := x
  intro hb
  simp only [spF, List.mem_cons, List.not_mem_nil, or_false] at hb
  rcases hb with rfl | rfl | rfl
  · rw [x1] at h; cases h
  · rw [x2] at h; cases h
  · rw [x3] at h; cases h
theorem isFr_set {ns : List Int} {hs : List Bool} {k i : Nat} {z : Int} (h : k ≠ i) : isFr (ns.set k z) hs i = isFr ns hs i := by
  unfold isFr
  rw [List.getD_eq_getElem?_getD, List.getElem?_set_ne h, ← List.getD_eq_getElem?_getD]
theorem isFr_here {ns : List Int} {hs : List Bool} {k : Nat} {z : Int} (h : k < ns.length) : isFr (ns.set k z) hs k = (decide (z = 0) && !hs.getD k false) := by
  unfold isFr
  rw [List.getD_eq_getElem?_getD, List.getElem?_set_self h]
  rfl
theorem freeL_eq {ns ns' : List Int} {hs hs' : List Bool} (hl : ns'.length = ns.length) (h : ∀ i, i < ns.length → isFr ns' hs' i = isFr ns hs i) : freeL ns' hs' = freeL ns hs := by
  unfold freeL
  rw [hl]
  exact List.filter_congr fun i hi => h i (List.mem_range.mp hi)
theorem freeL_mem {ns : List Int} {hs : List Bool} {i : Nat} : i ∈ freeL ns hs ↔ i < ns.length ∧ isFr ns hs i = true := by
  unfold freeL
  rw [List.mem_filter, List.mem_range]
theorem freeL_sorted (ns : List Int) (hs : List Bool) : (freeL ns hs).Pairwise (· < ·) := List.Pairwise.filter _ List.pairwise_lt_range
/-- the least free block -/
theorem freeL_head {ns : List Int} {hs : List Bool} {k : Nat} {r : List Nat} (e : freeL ns hs = k :: r) : k < ns.length ∧ isFr ns hs k = true ∧ ∀ i, i < k → isFr ns hs i = false := by
  have hk : k ∈ freeL ns hs := by rw [e]; exact List.mem_cons_self ..
  obtain ⟨h1, h2⟩ := freeL_mem.mp hk
  refine ⟨h1, h2, fun i hi => ?_⟩
  cases q : isFr ns hs i with
  | false => rfl
  | true =>
    have hm : i ∈ freeL ns hs := freeL_mem.mpr ⟨by omega, q⟩
    have hs' := freeL_sorted ns hs
    rw [e] at hm hs'
    rcases List.mem_cons.mp hm with h | h
    · omega
    · have := (List.pairwise_cons.mp hs').1 i h
      omega
/-- a free block is taken -/
theorem freeL_take {ns : List Int} {hs : List Bool} {k : Nat} {r : List Nat} {z : Int} (e : freeL ns hs = k :: r) (hz : z ≠ 0) : freeL (ns.set k z) hs = r := by
  obtain ⟨h1, h2, h3⟩ := freeL_head e
  have e2 : freeL (ns.set k z) hs = (freeL ns hs).filter (fun i => decide (i ≠ k)) := by
    unfold freeL
    rw [List.length_set, List.filter_filter]
    refine List.filter_congr fun i hi => ?_
    by_cases q : k = i
    · subst q
      rw [isFr_here h1, decide_eq_false hz]
      simp
    · rw [isFr_set q, decide_eq_true (Ne.symm q)]
      simp
  rw [e2, e]
  have hs' := freeL_sorted ns hs
  rw [e] at hs'
  have hr := (List.pairwise_cons.mp hs').1
  rw [List.filter_cons, if_neg (by simp)]
  exact List.filter_eq_self.mpr fun i hi => decide_eq_true (by have := hr i hi; omega)
/-- a block becomes free -/
theorem freeL_drop {ns : List Int} {hs : List Bool} {k : Nat} (hk : k < ns.length) (h1 : isFr ns hs k = false) (h2 : hs.getD k false = false) : (freeL (ns.set k 0) hs).length = (freeL ns hs).length + 1 := by
  have z0 : ns.getD k 0 ≠ 0 := fun q => by
    unfold isFr at h1
    rw [q, h2] at h1
    simp at h1
  have hn : (freeL (ns.set k 0) hs).Nodup := (freeL_sorted _ _).imp fun h => Nat.ne_of_lt h
  have hm : k ∈ freeL (ns.set k 0) hs := freeL_mem.mpr ⟨by rw [List.length_set]; exact hk, by rw [isFr_here hk, h2]; rfl⟩
  have e2 : freeL ns hs = (freeL (ns.set k 0) hs).filter (fun i => decide (i ≠ k)) := by
    unfold freeL
    rw [List.length_set, List.filter_filter]
    refine List.filter_congr fun i hi => ?_
    by_cases q : k = i
    · subst q
      rw [h1]
      simp
    · rw [isFr_set q, decide_eq_true (Ne.symm q)]
      simp
  have e3 : (freeL (ns.set k 0) hs).filter (fun i => decide (i ≠ k)) = (freeL (ns.set k 0) hs).erase k := by
    rw [hn.erase_eq_filter]
    exact List.filter_congr fun i _ => by simp [bne, Bool.beq_eq_decide_eq]
  rw [e2, e3, List.length_erase_of_mem hm]
  have := List.length_pos_of_mem hm
  omega
def sp_Space_count_spare (K : PySem.W.Frag) (C : Ex) : Sp := S1 fun x H Q _ => ∃ (s a b dx : Addr) (ns : List Int) (hs : List Bool) (sp low : Int), x = .ref s ∧ H s = some (spO C dx a b ns sp low) ∧ H a = some (.lst (ns.map V.int)) ∧ H b = some (.lst (hs.map V.bl)) ∧ ns.length = hs.length ∧ ns.length ≤ 100000 ∧
  ∀ H', H' s = some (spO C dx a b ns (freeL ns hs).length 0) → (∀ c o, H c = some o → c ≠ s → H' c = some o) → Q .non H'
def t_Space_count_spare (K : PySem.W.Frag) (C : Ex) (E : XK) : TS :=
  tSeq (uSetF C.Space "spare" (tVar 0) (tCB (uLen K) (tCons (tLc (iZip K (tCons (uFld C.Space "numbers" (tVar 0)) (tCons (uFld C.Space "held" (tVar 0)) (tNil)))) (gTup K 2 (gCons (gName 1) (gCons (gName 2) (gNil)))) (tAnd (tTest (tOp (uEq K) (tVar 1) (tC (.int 0)))) (tNot (uTru K (tVar 2)))) (tVar 1) [1, 2]) (tNil))))
  (uSetF C.Space "low" (tVar 0) (tC (.int 0)))
theorem pure_Space_count_spare {K : PySem.W.Frag} {C : Ex} {vs : List V} {H : Hp} {Q : VK} {E : XK} (F : Fa K C) (h : sp_Space_count_spare K C vs H Q E) : t_Space_count_spare K C E { nx := fun _ H' => Q .non H', rt := Q } (start ["self", "many", "held"] vs) H := by
  obtain ⟨x, rfl, s, a, b, dx, ns, hs, sp, low, rfl, i, ha, hb, hl, hz, k⟩ := h
  unfold spO at i
  unfold t_Space_count_spare
  walk_at "run1"
  refine l_zip (xs := ns.map V.int) (ys := hs.map V.bl) (by rw [List.length_map, List.length_map, hl]) (fun D i H1 => Same H H1 ∧ ∃ acc, H1 D = some (.lst acc) ∧ acc.length = ((List.range i).filter (isFr ns hs)).length) (fun D hD => ⟨same_new hD, [], upd_same, rfl⟩) (fun D i H1 _ p => ⟨SqL.of (p.1 _ _ ha), SqL.of (p.1 _ _ hb)⟩) ?_ ?_
  · rintro D i x y H1 T hD hx hy ⟨s1, acc, h1, la⟩ hT
    obtain ⟨z, hz1, rfl⟩ := at_int hx
    obtain ⟨w, hw1, rfl⟩ := at_bl hy
    have hi : i < ns.length := (List.getElem?_eq_some_iff.mp hz1).1
    have ef : isFr ns hs i = (decide (z = 0) && !w) := by
      unfold isFr
      rw [List.getD_eq_getElem?_getD, List.getD_eq_getElem?_getD, hz1, hw1]
      rfl
    have la' : acc.length ≤ i := by rw [la]; exact Nat.le_trans (List.length_filter_le _ _) (by rw [List.length_range]; exact Nat.le_refl _)
    have s2 := same_updN (o := .tup [.int z, .bl w]) s1 hT
    have h2 : upd H1 T (.tup [.int z, .bl w]) D = some (.lst acc) := upd_old h1 hT
    have eT : upd H1 T (.tup [.int z, .bl w]) T = some (.tup [.int z, .bl w]) := upd_same
    generalize upd H1 T _ = H2 at *
    have skip : isFr ns hs i = false → Same H H2 ∧ ∃ acc, H2 D = some (.lst acc) ∧ acc.length = ((List.range (i + 1)).filter (isFr ns hs)).length := fun q => by
      refine ⟨s2, acc, h2, ?_⟩
      rw [List.range_succ, List.filter_append, List.length_append, la]
      simp [q]
    cases w with
    | true =>
      walk_at "run1"
      refine ⟨rfl, ?_⟩
      walk_at "run1"
      · exact skip (by rw [ef]; simp)
      · walk_at "run1"
        exact skip (by rw [ef]; simp)
    | false =>
      walk_at "run1"
      refine ⟨rfl, ?_⟩
      walk_at "run1"
      · rename_i q
        refine ⟨acc, h2, lt_line (by omega), same_upd s2 hD, _, upd_same, ?_⟩
        rw [List.range_succ, List.filter_append, List.length_append, List.length_append, la]
        simp [ef, q]
      · walk_at "run1"
        rename_i q
        exact skip (by rw [ef, decide_eq_false q]; rfl)
  · rintro D H1 hD ⟨s1, acc, h1, la⟩
    have i1 := s1 _ _ i
    walk_at "run1"
    rw [List.length_map] at la
    refine k _ ?_ fun c o h n => ?_
    · rw [upd_same, la]
      rfl
    · rw [upd_ne n, upd_ne n]
      exact s1 _ _ h
/-- the sub-steps: the lists and the object anew -/
theorem SpAt.of {C : Ex} {H H' : Hp} {s a b dx : Addr} {ns : List Int} {hs : List Bool} {low : Int} (i : H' s = some (spO C dx a b ns (freeL ns hs).length low)) (ha : H a = some (.lst (ns.map V.int))) (hb : H b = some (.lst (hs.map V.bl))) (na : a ≠ s) (nb : b ≠ s) (fr : ∀ c o, H c = some o → c ≠ s → H' c = some o) (ne : a ≠ b) : SpAt C H' s a b ⟨ns, hs, low⟩ :=
  ⟨⟨dx, i⟩, fr _ _ ha na, fr _ _ hb nb, ne⟩
def posL (ns : List Int) : List Bool := ns.map fun z => decide (0 < z)
/-- [many > 0 for many in ns] -/
theorem l_pos {K : PySem.W.Frag} {H1 : Hp} {Q : VK} {σ : L2.St} {p : Addr} {ns : List Int} {j : Nat} (hp : H1 p = some (.lst (ns.map V.int))) (hz : ns.length ≤ 100000) (hj : j < σ.length)
    (k : ∀ D H, H1 D = none → Same H1 H → H D = some (.lst ((posL ns).map V.bl)) → Q (.ref D) H) : lcQ (gName j) tYes (tOp uGt (tVar j) (tC (.int 0))) [j] σ (Itl K p) H1 Q := by
  refine l_list (xs := ns.map V.int) (fun D i H => Same H1 H ∧ H D = some (.lst ((posL (ns.take i)).map V.bl))) (fun D hD => ⟨same_new hD, upd_same⟩) (fun D i H _ z => SqL.of (z.1 _ _ hp)) ?_ ?_
  · rintro D i x H hD hx ⟨s1, h1⟩
    obtain ⟨z, hz1, rfl⟩ := at_int hx
    have hi : i < ns.length := (List.getElem?_eq_some_iff.mp hz1).1
    have hw : wipe ((wipe σ [j]).set j (some (.int z))) [j] = wipe σ [j] := by
      show ((σ.set j none).set j (some (.int z))).set j none = σ.set j none
      rw [List.set_set, List.set_set]
    refine w_name ⟨hw, ?_⟩
    refine w_yes ?_
    refine iteT ?_
    refine w_op ?_
    refine w_var (v := .int z) (by
      show ((σ.set j none).set j (some (.int z)))[j]? = some (some (.int z))
      rw [List.getElem?_set_self (by rw [List.length_set]; exact hj)]) ?_
    refine w_c ?_
    refine w_gt ?_
    refine ⟨_, h1, by rw [List.length_map]; unfold posL; rw [List.length_map, List.length_take]; exact lt_line (by omega), same_upd s1 hD, ?_⟩
    rw [upd_same, take_snoc hz1]
    unfold posL
    rw [List.map_append, List.map_append]
    rfl
  · rintro D H hD ⟨s1, h1⟩
    rw [List.length_map, List.take_length] at h1
    exact k D H hD s1 h1
def sp_Space___init__ (K : PySem.W.Frag) (C : Ex) : Sp := S2 fun x u H Q _ => ∃ (s dx p : Addr) (ns : List Int), x = .ref s ∧ u = .ref p ∧ H s = some (.ins C.Space dx []) ∧ H p = some (.lst (ns.map V.int)) ∧ ns.length ≤ 100000 ∧
  ∀ H' a b, SpAt C H' s a b ⟨ns, posL ns, 0⟩ → (∀ c o, H c = some o → c ≠ s → H' c = some o) → H a = none → H b = none → Q .non H'
def t_Space___init__ (K : PySem.W.Frag) (C : Ex) (E : XK) : TS :=
  tSeq (uSetF C.Space "blocks" (tVar 0) (tCB (uLen K) (tCons (tVar 1) (tNil))))
  (tSeq (uSetF C.Space "numbers" (tVar 0) (tCB (uList K) (tCons (tVar 1) (tNil))))
  (tSeq (uSetF C.Space "held" (tVar 0) (tLc (iList K (tVar 1)) (gName 2) (tYes) (tOp (uGt) (tVar 2) (tC (.int 0))) [2]))
  (tSeq (uSetF C.Space "spare" (tVar 0) (tC (.int 0)))
  (tSeq (uSetF C.Space "low" (tVar 0) (tC (.int 0)))
  (tDrop (uMeth C.Space "count_spare" (sp_Space_count_spare K C) (WB E) (tVar 0) (tNil)))))))
theorem pure_Space___init__ {K : PySem.W.Frag} {C : Ex} {vs : List V} {H : Hp} {Q : VK} {E : XK} (F : Fa K C) (h : sp_Space___init__ K C vs H Q E) : t_Space___init__ K C E { nx := fun _ H' => Q .non H', rt := Q } (start ["self", "uses", "many"] vs) H := by
  obtain ⟨x, u, rfl, s, dx, p, ns, rfl, rfl, i, hp, hz, k⟩ := h
  have nps : p ≠ s := ne_of hp i fun z => nomatch z
  unfold t_Space___init__
  walk_at "run1"
  have hp1 := upd_oth (o := .ins C.Space dx (putF "blocks" (.int ((ns.map V.int).length : Nat)) [])) hp nps
  refine w_tlist (SqL.of hp1) fun a ha => ?_
  have ha0 : H a = none := (none_of_upd ha).1
  have nas : a ≠ s := (none_of_upd ha).2
  have f1 : ∀ c o, H c = some o → c ≠ s → upd (upd H s (.ins C.Space dx (putF "blocks" (.int ((ns.map V.int).length : Nat)) []))) a (.lst (ns.map V.int)) c = some o := fun c o h n => upd_old (upd_oth h n) ha
  have i1 : upd (upd H s (.ins C.Space dx (putF "blocks" (.int ((ns.map V.int).length : Nat)) []))) a (.lst (ns.map V.int)) s = some (.ins C.Space dx [("blocks", .int ((ns.map V.int).length : Nat))]) := upd_old upd_same ha
  have ha1 : upd (upd H s (.ins C.Space dx (putF "blocks" (.int ((ns.map V.int).length : Nat)) []))) a (.lst (ns.map V.int)) a = some (.lst (ns.map V.int)) := upd_same
  generalize upd (upd H s _) a _ = H1 at *
  walk_at "run1"
  generalize hH2 : upd H1 s _ = H2 at *
  have f2 : ∀ c o, H c = some o → c ≠ s → H2 c = some o := fun c o h n => by rw [← hH2]; exact upd_oth (f1 c o h n) n
  have i2 : H2 s = some (.ins C.Space dx [("blocks", .int ((ns.map V.int).length : Nat)), ("numbers", .ref a)]) := by rw [← hH2]; exact upd_same
  have ha2 : H2 a = some (.lst (ns.map V.int)) := by rw [← hH2]; exact upd_oth ha1 nas
  clear hH2
  have hp2 := f2 _ _ hp nps
  refine w_iListv (SqL.of hp2) ?_
  refine l_pos hp2 hz (by show 2 < 3; decide) fun b H3 hb s3 h3 => ?_
  have i3 := s3 _ _ i2
  have nbs : b ≠ s := (ne_of_none i2 hb).symm
  have nab : a ≠ b := ne_of_none ha2 hb
  walk_at "run1"
  refine w_S1 ⟨s, a, b, dx, ns, posL ns, 0, 0, rfl, ?_, upd_oth (upd_oth (upd_oth (s3 _ _ ha2) nas) nas) nas, upd_oth (upd_oth (upd_oth h3 nbs) nbs) nbs, by unfold posL; rw [List.length_map], hz, fun H4 i4 f4 => ?_⟩
  · rw [upd_same, List.length_map]
    rfl
  · walk_at "run1"
    have g : ∀ c o, H3 c = some o → c ≠ s → H4 c = some o := fun c o h n => f4 c o (upd_oth (upd_oth (upd_oth h n) n) n) n
    refine k H4 a b (SpAt.of i4 (s3 _ _ ha2) h3 nas nbs g nab) (fun c o h n => g c o (s3 _ _ (f2 c o h n)) n) ha0 ?_
    cases e : H b with
    | none => rfl
    | some o => rw [f2 b o e nbs] at hb; cases hb
def sp_Space_check_block (K : PySem.W.Frag) (C : Ex) : Sp := S2 fun x c H Q E => ∃ s a b S, x = .ref s ∧ SpR C H s a b S ∧ Known K H c ∧ (btw 0 ((S.nums.length : Int) - 1) c = true → Q .non H) ∧ (btw 0 ((S.nums.length : Int) - 1) c = false → E (.ref C.NotValid) none H)
def t_Space_check_block (K : PySem.W.Frag) (C : Ex) (E : XK) : TS :=
  tIfS (tNot (uTru K (uCall (sp_is_between K C) (WB E) (tCons (tVar 1) (tCons (tC (.int 0)) (tCons (tOp (uSub) (uFld C.Space "blocks" (tVar 0)) (tC (.int 1))) (tNil))))))) (uRaise C.NotValid (WB E)) (tNext)
theorem pure_Space_check_block {K : PySem.W.Frag} {C : Ex} {vs : List V} {H : Hp} {Q : VK} {E : XK} (F : Fa K C) (h : sp_Space_check_block K C vs H Q E) : t_Space_check_block K C E { nx := fun _ H' => Q .non H', rt := Q } (start ["self", "block"] vs) H := by
  obtain ⟨x, c, rfl, s, a, b, S, rfl, hS, hk, k1, k2⟩ := h
  obtain ⟨dx, sp, low, i⟩ := hS.ins
  unfold spO at i
  unfold t_Space_check_block
  walk_at "run1"
  refine w_S3 ⟨_, _, rfl, rfl, hk, ?_⟩
  walk_at "run1"
  refine ifBN (fun h => ?_) (fun h => ?_)
  · walk_at "run1"
    exact k2 h
  · walk_at "run1"
    exact k1 h
def lowOf (H : Hp) (s : Addr) : Int := match H s with
  | some (.ins _ _ fs) => (match fs.lookup ("low" : Str) with
    | some (V.int l) => l
    | _ => 0)
  | _ => 0
theorem lowOf_at {C : Ex} {H : Hp} {s dx a b : Addr} {ns : List Int} {sp low : Int} (i : H s = some (spO C dx a b ns sp low)) : lowOf H s = low := by
  unfold lowOf
  rw [i]
  rfl
def sp_Space_least_free (K : PySem.W.Frag) (C : Ex) : Sp := S1 fun x H Q _ => ∃ s a b S, x = .ref s ∧ SpAt C H s a b S ∧ SpOk S ∧ (freeL S.nums S.held = [] → Q .non H) ∧
  ∀ k r, freeL S.nums S.held = k :: r → ∀ H', SpAt C H' s a b { S with low := (k : Int) } → Stp (spF s a b) H (spF s a b) H' → Q (.int (k : Nat)) H'
def t_Space_least_free (K : PySem.W.Frag) (C : Ex) (E : XK) : TS :=
  tSeq (tIfS (tTest (tOp (uEq K) (uFld C.Space "spare" (tVar 0)) (tC (.int 0)))) (tRet (tC .non)) (tNext))
  (tSeq (tWhile (tOr (tTest (tOp (uGt) (tOp (uIx K) (uFld C.Space "numbers" (tVar 0)) (uFld C.Space "low" (tVar 0))) (tC (.int 0)))) (uTru K (tOp (uIx K) (uFld C.Space "held" (tVar 0)) (uFld C.Space "low" (tVar 0)))))
  (uAugF C.Space "low" rAdd (tVar 0) (tC (.int 1))))
  (tRet (uFld C.Space "low" (tVar 0))))
theorem pure_Space_least_free {K : PySem.W.Frag} {C : Ex} {vs : List V} {H : Hp} {Q : VK} {E : XK} (F : Fa K C) (h : sp_Space_least_free K C vs H Q E) : t_Space_least_free K C E { nx := fun _ H' => Q .non H', rt := Q } (start ["self"] vs) H := by
  obtain ⟨x, rfl, s, a, b, S, rfl, hS, ok, k1, k2⟩ := h
  obtain ⟨dx, i⟩ := hS.ins
  have len := ok.len
  unfold spO at i
  unfold t_Space_least_free
  walk_at "run1"
  · rename_i h
    exact k1 (List.eq_nil_of_length_eq_zero (by omega))
  walk_at "run1"
  rename_i hne
  cases e : freeL S.nums S.held with
  | nil => rw [e] at hne; exact absurd rfl hne
  | cons k r =>
    obtain ⟨h1, h2, h3⟩ := freeL_head e
    have lk : S.low ≤ k := by
      rcases (show (k : Int) < S.low ∨ S.low ≤ k by omega) with q | q
      · have := ok.fr k q
        rw [h2] at this
        cases this
      · exact q
    refine f_while (fun σ H' => σ = [some (.ref s)] ∧ ∃ l : Int, 0 ≤ l ∧ l ≤ k ∧ SpAt C H' s a b { S with low := l } ∧ Stp (spF s a b) H (spF s a b) H') (fun _ H' => ((k : Int) - lowOf H' s).toNat) ⟨rfl, S.low, ok.lo, lk, hS, .refl⟩ ?_
    rintro σ H1 ⟨rfl, l, l0, l1, hS1, st1⟩
    obtain ⟨⟨dx1, i1⟩, ha, hb, nab⟩ := hS1
    have i0 : H1 s = some (spO C dx1 a b S.nums ((freeL S.nums S.held).length : Nat) l) := i1
    clear i1
    have i1 := i0
    unfold spO at i1
    have ha : H1 a = some (.lst (S.nums.map V.int)) := ha
    have hb : H1 b = some (.lst (S.held.map V.bl)) := hb
    have hn := getD_nn ok.nn l.toNat
    have more : l < k → (([some (V.ref s)] = [some (V.ref s)] ∧ ∃ l' : Int, 0 ≤ l' ∧ l' ≤ k ∧ SpAt C (upd H1 s (.ins C.Space dx1 [("blocks", .int (S.nums.length : Nat)), ("numbers", .ref a), ("held", .ref b), ("spare", .int ((freeL S.nums S.held).length : Nat)), ("low", .int (l + 1))])) s a b { S with low := l' } ∧
        Stp (spF s a b) H (spF s a b) (upd H1 s (.ins C.Space dx1 [("blocks", .int (S.nums.length : Nat)), ("numbers", .ref a), ("held", .ref b), ("spare", .int ((freeL S.nums S.held).length : Nat)), ("low", .int (l + 1))]))) ∧
        ((k : Int) - lowOf (upd H1 s (.ins C.Space dx1 [("blocks", .int (S.nums.length : Nat)), ("numbers", .ref a), ("held", .ref b), ("spare", .int ((freeL S.nums S.held).length : Nat)), ("low", .int (l + 1))])) s).toNat < ((k : Int) - lowOf H1 s).toNat) := fun hlt => by
      refine ⟨⟨rfl, l + 1, by omega, by omega, ⟨⟨dx1, upd_same⟩, upd_oth ha (ne_of ha i1 fun z => nomatch z), upd_oth hb (ne_of hb i1 fun z => nomatch z), nab⟩, st1.upd (by simp [spF])⟩, ?_⟩
      exact (show ∀ x y : Int, x = l + 1 → y = l → ((k : Int) - x).toNat < (k - y).toNat from fun x y hx hy => by omega) _ _ (lowOf_at (C := C) (dx := dx1) (a := a) (b := b) (ns := S.nums) (sp := ((freeL S.nums S.held).length : Nat)) upd_same) (lowOf_at i0)
    have hfr : l < k → isFr S.nums S.held l.toNat = false := fun hlt => h3 _ (by omega)
    walk_at "run1"
    · refine more ?_
      rename_i h
      rcases (show l < k ∨ (k : Int) ≤ l by omega) with q | q
      · exact q
      · have : l.toNat = k := by omega
        rw [this] at h
        unfold isFr at h2
        have := of_decide_eq_true (Bool.and_eq_true_iff.mp h2).1
        omega
    · walk_at "run1"
      rename_i h
      refine ifB (fun q => ?_) (fun q => ?_)
      · walk_at "run1"
        refine more ?_
        rcases (show l < k ∨ (k : Int) ≤ l by omega) with q2 | q2
        · exact q2
        · have : l.toNat = k := by omega
          rw [this] at q
          unfold isFr at h2
          rw [q] at h2
          simp at h2
      · have elk : l = k := by
          rcases (show l < k ∨ (k : Int) ≤ l by omega) with q2 | q2
          · have z := hfr q2
            unfold isFr at z
            rw [q, decide_eq_true (show S.nums.getD l.toNat 0 = 0 by omega)] at z
            cases z
          · omega
        subst elk
        walk_at "run1"
        exact k2 k r e H1 ⟨⟨dx1, i1⟩, ha, hb, nab⟩ st1
/-- one block's number changes -/
theorem SpOk.set {S : SpS} {k : Nat} {z low : Int} (x : SpOk S) (hz : 0 ≤ z) (l0 : 0 ≤ low) (hf : ∀ i : Nat, (i : Int) < low → isFr (S.nums.set k z) S.held i = false) : SpOk ⟨S.nums.set k z, S.held, low⟩ := by
  refine ⟨?_, fun y hy => ?_, l0, hf, ?_⟩
  · show (S.nums.set k z).length = _
    rw [List.length_set]
    exact x.len
  · rcases List.mem_or_eq_of_mem_set hy with q | q
    · exact x.nn y q
    · rw [q]; exact hz
  · show (S.nums.set k z).length ≤ _
    rw [List.length_set]
    exact x.sz
def takeS (S : SpS) (k : Nat) : SpS := ⟨S.nums.set k 1, S.held, (k : Int)⟩
def sp_Space_take (K : PySem.W.Frag) (C : Ex) : Sp := S2 fun x c H Q E => ∃ s a b S, ∃ r : Int, x = .ref s ∧ c = .int r ∧ 0 ≤ r ∧ SpAt C H s a b S ∧ SpOk S ∧ (((freeL S.nums S.held).length : Int) ≤ r → E (.ref C.NoSpace) none H) ∧
  ∀ k t, freeL S.nums S.held = k :: t → r < (freeL S.nums S.held).length → ∀ H', SpAt C H' s a b (takeS S k) → Stp (spF s a b) H (spF s a b) H' → Q (.int (k : Nat)) H'
def t_Space_take (K : PySem.W.Frag) (C : Ex) (E : XK) : TS :=
  tSeq (tIfS (tTest (tOp (uLe K) (uFld C.Space "spare" (tVar 0)) (tVar 1))) (uRaise C.NoSpace (WB E)) (tNext))
  (tSeq (tAsg (uMeth C.Space "least_free" (sp_Space_least_free K C) (WB E) (tVar 0) (tNil)) (gName 2))
  (tSeq (tAsg (tC (.int 1)) (gSub (uFld C.Space "numbers" (tVar 0)) (tVar 2) uSet))
  (tSeq (uAugF C.Space "spare" rSub (tVar 0) (tC (.int 1)))
  (tRet (tVar 2)))))
theorem pure_Space_take {K : PySem.W.Frag} {C : Ex} {vs : List V} {H : Hp} {Q : VK} {E : XK} (F : Fa K C) (h : sp_Space_take K C vs H Q E) : t_Space_take K C E { nx := fun _ H' => Q .non H', rt := Q } (start ["self", "reserve", "block"] vs) H := by
  obtain ⟨x, c, rfl, s, a, b, S, r, rfl, rfl, hr, hS, ok, k1, k2⟩ := h
  obtain ⟨dx, i⟩ := hS.ins
  have len := ok.len
  unfold spO at i
  unfold t_Space_take
  walk_at "run1"
  · rename_i h
    exact k1 h
  walk_at "run1"
  rename_i hlt
  refine w_S1 ⟨s, a, b, S, rfl, hS, ok, fun e => ?_, fun k t e H1 hS1 st1 => ?_⟩
  · rw [e] at hlt
    exact absurd hr hlt
  obtain ⟨h1, h2, h3⟩ := freeL_head e
  obtain ⟨⟨dx1, i1⟩, ha, hb, nab⟩ := hS1
  have i0 := i1
  unfold spO at i1
  have ha : H1 a = some (.lst (S.nums.map V.int)) := ha
  have hb : H1 b = some (.lst (S.held.map V.bl)) := hb
  have nsa : s ≠ a := (ne_of ha i1 fun z => nomatch z).symm
  have nsb : s ≠ b := (ne_of hb i1 fun z => nomatch z).symm
  walk_at "run1"
  refine w_setL ha ⟨by omega, by rw [List.length_map]; omega⟩ ?_
  have i2 := upd_oth (o := .lst ((S.nums.map V.int).set ((k : Nat) : Int).toNat (.int 1))) i1 nsa
  walk_at "run1"
  have ft := freeL_take (z := 1) e (by decide)
  have hl : ((freeL S.nums S.held).length : Int) - 1 = (freeL (S.nums.set k 1) S.held).length := by rw [ft, e, List.length_cons]; omega
  refine k2 k t e (by omega) _ ⟨⟨dx1, ?_⟩, ?_, ?_, nab⟩ ((st1.upd (by simp [spF])).upd (by simp [spF]))
  · rw [upd_same]
    unfold spO takeS
    dsimp only
    rw [← hl, List.length_set]
    rfl
  · rw [upd_ne nsa.symm, upd_same]
    unfold takeS
    rw [List.map_set]
    rfl
  · exact upd_oth (upd_oth hb nab.symm) nsb.symm
theorem takeS_ok {S : SpS} {k : Nat} {t : List Nat} (x : SpOk S) (e : freeL S.nums S.held = k :: t) : SpOk (takeS S k) := by
  obtain ⟨h1, h2, h3⟩ := freeL_head e
  exact x.set (by decide) (by omega) fun i hi => by rw [isFr_set (by omega)]; exact h3 i (by omega)
def shareS (S : SpS) (k : Nat) : SpS := ⟨S.nums.set k (S.nums.getD k 0 + 1), S.held, S.low⟩
/-- what share, drop refuse -/
def badB (S : SpS) (c : V) : Prop := btw 0 ((S.nums.length : Int) - 1) c = false ∨ ∃ z : Int, c = .int z ∧ (z < 5 ∨ S.nums.getD z.toNat 0 = 0)
def sp_Space_share (K : PySem.W.Frag) (C : Ex) : Sp := S2 fun x c H Q E => ∃ s a b S, x = .ref s ∧ Known K H c ∧ SpAt C H s a b S ∧ SpOk S ∧ (badB S c → E (.ref C.NotValid) none H) ∧
  ∀ k : Nat, c = .int (k : Nat) → 5 ≤ k → k < S.nums.length → S.nums.getD k 0 ≠ 0 → ∀ H', SpAt C H' s a b (shareS S k) → Stp (spF s a b) H (spF s a b) H' → Q .non H'
theorem share_fr {S : SpS} {k : Nat} (hk : k < S.nums.length) (ok : SpOk S) (hn : S.nums.getD k 0 ≠ 0) : ∀ i, isFr (S.nums.set k (S.nums.getD k 0 + 1)) S.held i = isFr S.nums S.held i := fun i => by
  by_cases q : k = i
  · subst q
    have := getD_nn ok.nn k
    rw [isFr_here hk, decide_eq_false (by omega)]
    unfold isFr
    rw [decide_eq_false hn]
  · exact isFr_set q
def t_Space_share (K : PySem.W.Frag) (C : Ex) (E : XK) : TS :=
  tSeq (tDrop (uMeth C.Space "check_block" (sp_Space_check_block K C) (WB E) (tVar 0) (tCons (tVar 1) (tNil))))
  (tSeq (tIfS (tOr (tTest (tOp (uLt K) (tVar 1) (tC (.int 5)))) (tTest (tOp (uEq K) (tOp (uIx K) (uFld C.Space "numbers" (tVar 0)) (tVar 1)) (tC (.int 0))))) (uRaise C.NotValid (WB E)) (tNext))
  (tAugS (uFld C.Space "numbers" (tVar 0)) (tVar 1) (tC (.int 1)) (uGet K) (ipI fun i j => i + j) uSet))
theorem pure_Space_share {K : PySem.W.Frag} {C : Ex} {vs : List V} {H : Hp} {Q : VK} {E : XK} (F : Fa K C) (h : sp_Space_share K C vs H Q E) : t_Space_share K C E { nx := fun _ H' => Q .non H', rt := Q } (start ["self", "block"] vs) H := by
  obtain ⟨x, c, rfl, s, a, b, S, rfl, hk, hS, ok, k1, k2⟩ := h
  have hS0 := hS
  obtain ⟨⟨dx, i⟩, ha, hb, nab⟩ := hS
  have len := ok.len
  unfold spO at i
  have nsa : s ≠ a := (ne_of ha i fun z => nomatch z).symm
  have nsb : s ≠ b := (ne_of hb i fun z => nomatch z).symm
  unfold t_Space_share
  walk_at "run1"
  refine w_S2 ⟨s, a, b, S, rfl, hS0.r, hk, fun h => ?_, fun h => k1 (.inl h)⟩
  obtain ⟨z, rfl, z0, z1⟩ := btw_inv h
  walk_at "run1"
  · rename_i q
    exact k1 (.inr ⟨z, rfl, .inl q⟩)
  walk_at "run1"
  · rename_i q
    exact k1 (.inr ⟨z, rfl, .inr q⟩)
  walk_at "run1"
  rename_i q5 q0
  refine w_setL ha ⟨by omega, by rw [List.length_map]; omega⟩ ?_
  have hz : z.toNat < S.nums.length := by omega
  have ef := freeL_eq (ns := S.nums) (ns' := S.nums.set z.toNat (S.nums.getD z.toNat 0 + 1)) (hs := S.held) (hs' := S.held) (List.length_set ..) fun i _ => share_fr hz ok q0 i
  refine k2 z.toNat (by rw [show ((z.toNat : Nat) : Int) = z by omega]) (by omega) hz q0 _ ⟨⟨dx, ?_⟩, ?_, upd_oth hb nab.symm, nab⟩ (Stp.refl.upd (by simp [spF]))
  · rw [upd_ne nsa, i]
    unfold spO shareS
    dsimp only
    rw [ef, List.length_set]
  · rw [upd_same]
    unfold shareS
    rw [List.map_set]
theorem shareS_ok {S : SpS} {k : Nat} (x : SpOk S) (hk : k < S.nums.length) (hn : S.nums.getD k 0 ≠ 0) : SpOk (shareS S k) :=
  x.set (by have := getD_nn x.nn k; omega) x.lo fun i hi => by rw [share_fr hk x hn]; exact x.fr i hi
def dropS (S : SpS) (k : Nat) : SpS := ⟨S.nums.set k (S.nums.getD k 0 - 1), S.held, if isFr (S.nums.set k (S.nums.getD k 0 - 1)) S.held k = true then (if (k : Int) < S.low then (k : Int) else S.low) else S.low⟩
theorem drop_fr {S : SpS} {k : Nat} (hn : S.nums.getD k 0 ≠ 0) : isFr S.nums S.held k = false := by
  unfold isFr
  rw [decide_eq_false hn]
  rfl
theorem dropS_ok {S : SpS} {k : Nat} (x : SpOk S) (hk : k < S.nums.length) (hn : S.nums.getD k 0 ≠ 0) : SpOk (dropS S k) := by
  have := getD_nn x.nn k
  have := x.lo
  refine x.set (by omega) (by split; · split <;> omega
                              · omega) fun i hi => ?_
  by_cases q : k = i
  · subst q
    cases e : isFr (S.nums.set k (S.nums.getD k 0 - 1)) S.held k with
    | false => rfl
    | true =>
      rw [if_pos e] at hi
      split at hi <;> omega
  · rw [isFr_set q]
    refine x.fr i ?_
    split at hi
    · split at hi <;> omega
    · exact hi
theorem drop_len {S : SpS} {k : Nat} (hk : k < S.nums.length) (hn : S.nums.getD k 0 ≠ 0) : (freeL (S.nums.set k (S.nums.getD k 0 - 1)) S.held).length = (freeL S.nums S.held).length + (if isFr (S.nums.set k (S.nums.getD k 0 - 1)) S.held k = true then 1 else 0) := by
  cases e : isFr (S.nums.set k (S.nums.getD k 0 - 1)) S.held k with
  | true =>
    rw [if_pos rfl]
    rw [isFr_here hk] at e
    obtain ⟨e1, e2⟩ := Bool.and_eq_true_iff.mp e
    rw [of_decide_eq_true e1]
    exact freeL_drop hk (drop_fr hn) (by simpa using e2)
  | false =>
    rw [if_neg (by decide)]
    rw [freeL_eq (ns := S.nums) (hs := S.held) (List.length_set ..) fun i _ => by
      by_cases q : k = i
      · subst q; rw [e, drop_fr hn]
      · exact isFr_set q]
    rfl
abbrev rdB (K : PySem.W.Frag) (C : Ex) (f : SpS → Nat → V) : V → V → Hp → VK → XK → Prop := fun x c H Q E => ∃ s a b S, x = .ref s ∧ Known K H c ∧ SpR C H s a b S ∧ SpOk S ∧ (btw 0 ((S.nums.length : Int) - 1) c = false → E (.ref C.NotValid) none H) ∧ ∀ k : Nat, c = .int (k : Nat) → k < S.nums.length → Q (f S k) H
def sp_Space_uses (K : PySem.W.Frag) (C : Ex) : Sp := S2 (rdB K C fun S k => .int (S.nums.getD k 0))
def sp_Space_is_new (K : PySem.W.Frag) (C : Ex) : Sp := S2 (rdB K C fun S k => .bl (decide (0 < S.nums.getD k 0) && !S.held.getD k false))
def sp_Space_is_free (K : PySem.W.Frag) (C : Ex) : Sp := S2 (rdB K C fun S k => .bl (isFr S.nums S.held k))
def t_Space_uses (K : PySem.W.Frag) (C : Ex) (E : XK) : TS :=
  tSeq (tDrop (uMeth C.Space "check_block" (sp_Space_check_block K C) (WB E) (tVar 0) (tCons (tVar 1) (tNil))))
  (tRet (tOp (uIx K) (uFld C.Space "numbers" (tVar 0)) (tVar 1)))
theorem pure_Space_uses {K : PySem.W.Frag} {C : Ex} {vs : List V} {H : Hp} {Q : VK} {E : XK} (F : Fa K C) (h : sp_Space_uses K C vs H Q E) : t_Space_uses K C E { nx := fun _ H' => Q .non H', rt := Q } (start ["self", "block"] vs) H := by
  obtain ⟨x, c, rfl, s, a, b, S, rfl, hk, hS, ok, k1, k2⟩ := h
  have hS0 := hS
  obtain ⟨⟨dx, sp, low, i⟩, ha, hb, nab⟩ := hS
  unfold spO at i
  unfold t_Space_uses
  walk_at "run1"
  refine w_S2 ⟨s, a, b, S, rfl, hS0, hk, fun h => ?_, k1⟩
  obtain ⟨z, rfl, z0, z1⟩ := btw_inv h
  have k2 := k2 z.toNat (by rw [show ((z.toNat : Nat) : Int) = z by omega]) (by omega)
  dsimp only at k2
  walk_at "run1"
  exact k2
def t_Space_is_new (K : PySem.W.Frag) (C : Ex) (E : XK) : TS :=
  tSeq (tDrop (uMeth C.Space "check_block" (sp_Space_check_block K C) (WB E) (tVar 0) (tCons (tVar 1) (tNil))))
  (tRet (tAndV (tOp (uGt) (tOp (uIx K) (uFld C.Space "numbers" (tVar 0)) (tVar 1)) (tC (.int 0))) (tNotV (tOp (uIx K) (uFld C.Space "held" (tVar 0)) (tVar 1)))))
theorem pure_Space_is_new {K : PySem.W.Frag} {C : Ex} {vs : List V} {H : Hp} {Q : VK} {E : XK} (F : Fa K C) (h : sp_Space_is_new K C vs H Q E) : t_Space_is_new K C E { nx := fun _ H' => Q .non H', rt := Q } (start ["self", "block"] vs) H := by
  obtain ⟨x, c, rfl, s, a, b, S, rfl, hk, hS, ok, k1, k2⟩ := h
  have hS0 := hS
  obtain ⟨⟨dx, sp, low, i⟩, ha, hb, nab⟩ := hS
  have len := ok.len
  unfold spO at i
  unfold t_Space_is_new
  walk_at "run1"
  refine w_S2 ⟨s, a, b, S, rfl, hS0, hk, fun h => ?_, k1⟩
  obtain ⟨z, rfl, z0, z1⟩ := btw_inv h
  have k2 := k2 z.toNat (by rw [show ((z.toNat : Nat) : Int) = z by omega]) (by omega)
  dsimp only at k2
  walk_at "run1"
  · rename_i q
    rw [decide_eq_true q, Bool.true_and] at k2
    exact k2
  · walk_at "run1"
    rename_i q
    rw [decide_eq_false q, Bool.false_and] at k2
    exact k2
def t_Space_is_free (K : PySem.W.Frag) (C : Ex) (E : XK) : TS :=
  tSeq (tDrop (uMeth C.Space "check_block" (sp_Space_check_block K C) (WB E) (tVar 0) (tCons (tVar 1) (tNil))))
  (tRet (tAndV (tOp (uEq K) (tOp (uIx K) (uFld C.Space "numbers" (tVar 0)) (tVar 1)) (tC (.int 0))) (tNotV (tOp (uIx K) (uFld C.Space "held" (tVar 0)) (tVar 1)))))
theorem pure_Space_is_free {K : PySem.W.Frag} {C : Ex} {vs : List V} {H : Hp} {Q : VK} {E : XK} (F : Fa K C) (h : sp_Space_is_free K C vs H Q E) : t_Space_is_free K C E { nx := fun _ H' => Q .non H', rt := Q } (start ["self", "block"] vs) H := by
  obtain ⟨x, c, rfl, s, a, b, S, rfl, hk, hS, ok, k1, k2⟩ := h
  have hS0 := hS
  obtain ⟨⟨dx, sp, low, i⟩, ha, hb, nab⟩ := hS
  have len := ok.len
  unfold spO at i
  unfold t_Space_is_free
  walk_at "run1"
  refine w_S2 ⟨s, a, b, S, rfl, hS0, hk, fun h => ?_, k1⟩
  obtain ⟨z, rfl, z0, z1⟩ := btw_inv h
  have k2 := k2 z.toNat (by rw [show ((z.toNat : Nat) : Int) = z by omega]) (by omega)
  dsimp only at k2
  unfold isFr at k2
  walk_at "run1"
  · rename_i q
    rw [decide_eq_true q, Bool.true_and] at k2
    exact k2
  · walk_at "run1"
    rename_i q
    rw [decide_eq_false q, Bool.false_and] at k2
    exact k2
def sp_Space_drop (K : PySem.W.Frag) (C : Ex) : Sp := S2 fun x c H Q E => ∃ s a b S, x = .ref s ∧ Known K H c ∧ SpAt C H s a b S ∧ SpOk S ∧ (badB S c → E (.ref C.NotValid) none H) ∧
  ∀ k : Nat, c = .int (k : Nat) → 5 ≤ k → k < S.nums.length → S.nums.getD k 0 ≠ 0 → ∀ H', SpAt C H' s a b (dropS S k) → Stp (spF s a b) H (spF s a b) H' → Q (.int (S.nums.getD k 0 - 1)) H'
def t_Space_drop (K : PySem.W.Frag) (C : Ex) (E : XK) : TS :=
  tSeq (tDrop (uMeth C.Space "check_block" (sp_Space_check_block K C) (WB E) (tVar 0) (tCons (tVar 1) (tNil))))
  (tSeq (tIfS (tOr (tTest (tOp (uLt K) (tVar 1) (tC (.int 5)))) (tTest (tOp (uEq K) (tOp (uIx K) (uFld C.Space "numbers" (tVar 0)) (tVar 1)) (tC (.int 0))))) (uRaise C.NotValid (WB E)) (tNext))
  (tSeq (tAugS (uFld C.Space "numbers" (tVar 0)) (tVar 1) (tC (.int 1)) (uGet K) (ipI fun i j => i - j) uSet)
  (tCut (tIfS (uTru K (uMeth C.Space "is_free" (sp_Space_is_free K C) (WB E) (tVar 0) (tCons (tVar 1) (tNil)))) (tSeq (uAugF C.Space "spare" rAdd (tVar 0) (tC (.int 1)))
  (uSetF C.Space "low" (tVar 0) (tCB (uMin K) (tCons (uFld C.Space "low" (tVar 0)) (tCons (tVar 1) (tNil)))))) (tNext))
  (tRet (tOp (uIx K) (uFld C.Space "numbers" (tVar 0)) (tVar 1))))))
theorem pure_Space_drop {K : PySem.W.Frag} {C : Ex} {vs : List V} {H : Hp} {Q : VK} {E : XK} (F : Fa K C) (h : sp_Space_drop K C vs H Q E) : t_Space_drop K C E { nx := fun _ H' => Q .non H', rt := Q } (start ["self", "block"] vs) H := by
  obtain ⟨x, c, rfl, s, a, b, S, rfl, hk, hS, ok, k1, k2⟩ := h
  have hS0 := hS
  obtain ⟨⟨dx, i⟩, ha, hb, nab⟩ := hS
  have len := ok.len
  unfold spO at i
  have nsa : s ≠ a := (ne_of ha i fun z => nomatch z).symm
  have nsb : s ≠ b := (ne_of hb i fun z => nomatch z).symm
  unfold t_Space_drop
  walk_at "run1"
  refine w_S2 ⟨s, a, b, S, rfl, hS0.r, hk, fun h => ?_, fun h => k1 (.inl h)⟩
  obtain ⟨z, rfl, z0, z1⟩ := btw_inv h
  walk_at "run1"
  · rename_i q
    exact k1 (.inr ⟨z, rfl, .inl q⟩)
  walk_at "run1"
  · rename_i q
    exact k1 (.inr ⟨z, rfl, .inr q⟩)
  walk_at "run1"
  rename_i q5 q0
  obtain ⟨n, rfl⟩ := Int.eq_ofNat_of_zero_le z0
  have hz : n < S.nums.length := by omega
  rw [show ((n : Nat) : Int).toNat = n from Int.toNat_natCast n] at *
  have k2 := k2 n rfl (by omega) hz q0
  have hl := drop_len hz q0
  have nn := getD_nn ok.nn n
  have ok2 := dropS_ok ok hz q0
  refine w_setL ha ⟨by omega, by rw [List.length_map]; omega⟩ ?_
  rw [show ((n : Nat) : Int).toNat = n from Int.toNat_natCast n, ← List.map_set]
  have i2 := upd_oth (o := .lst ((S.nums.set n (S.nums.getD n 0 - 1)).map V.int)) i nsa
  have ha2 : upd H a (.lst ((S.nums.set n (S.nums.getD n 0 - 1)).map V.int)) a = some (.lst ((S.nums.set n (S.nums.getD n 0 - 1)).map V.int)) := upd_same
  have hb2 := upd_oth (o := .lst ((S.nums.set n (S.nums.getD n 0 - 1)).map V.int)) hb nab.symm
  have st2 : Stp (spF s a b) H (spF s a b) (upd H a (.lst ((S.nums.set n (S.nums.getD n 0 - 1)).map V.int))) := Stp.refl.upd (by simp [spF])
  generalize upd H a _ = H2 at *
  walk_at "run1"
  refine w_cut (fun σ H3 => σ = [some (.ref s), some (.int (n : Nat))] ∧ SpAt C H3 s a b (dropS S n) ∧ Stp (spF s a b) H (spF s a b) H3) ?_ ?_
  · walk_at "run1"
    unfold sp_Space_is_free rdB
    refine w_S2 ⟨s, a, b, dropS S n, rfl, trivial, ⟨⟨dx, _, _, by rw [i2]; unfold spO dropS; dsimp only; rw [List.length_set]⟩, ha2, hb2, nab⟩, ok2, fun q => ?_, fun m em _ => ?_⟩
    · have : (dropS S n).nums.length = S.nums.length := List.length_set ..
      rw [this, btw_int (by omega) (by omega)] at q
      cases q
    · have em : n = m := by cases em; rfl
      subst em
      have hfr : isFr (dropS S n).nums (dropS S n).held n = isFr (S.nums.set n (S.nums.getD n 0 - 1)) S.held n := rfl
      dsimp only
      rw [hfr]
      walk_at "run1"
      refine ifB (fun q => ?_) (fun q => ?_)
      · rw [if_pos q] at hl
        walk_at "run1"
        refine ⟨rfl, ⟨⟨dx, ?_⟩, upd_oth (upd_oth ha2 nsa.symm) nsa.symm, upd_oth (upd_oth hb2 nsb.symm) nsb.symm, nab⟩, (st2.upd (by simp [spF])).upd (by simp [spF])⟩
        rw [upd_same]
        unfold spO dropS
        dsimp only
        rw [if_pos q, hl, List.length_set]
        rfl
      · rw [if_neg (by rw [q]; decide)] at hl
        walk_at "run1"
        refine ⟨rfl, ⟨⟨dx, ?_⟩, ha2, hb2, nab⟩, st2⟩
        rw [i2]
        unfold spO dropS
        dsimp only
        rw [if_neg (by rw [q]; decide), hl, List.length_set]
        rfl
  · rintro σ H3 ⟨rfl, hS3, st3⟩
    obtain ⟨⟨dx3, i3⟩, ha3, hb3, _⟩ := id hS3
    unfold spO at i3
    have ha3 : H3 a = some (.lst ((S.nums.set n (S.nums.getD n 0 - 1)).map V.int)) := ha3
    have hz2 : n < (S.nums.set n (S.nums.getD n 0 - 1)).length := by rw [List.length_set]; exact hz
    walk_at "run1"
    rw [show (S.nums.set n (S.nums.getD n 0 - 1)).getD ((n : Nat) : Int).toNat 0 = S.nums.getD n 0 - 1 by rw [Int.toNat_natCast, List.getD_eq_getElem?_getD, List.getElem?_set_self hz]; rfl]
    exact k2 H3 hS3 st3
structure Sep (F : List Addr) (H : Hp) (L : List (Addr × HO)) : Prop where
  own : ∀ x ∈ L, H x.1 = some x.2
  out : ∀ x ∈ L, x.1 ∉ F
  nd : (L.map (·.1)).Nodup
section sep
variable {F F' : List Addr} {H H' : Hp} {L L2 : List (Addr × HO)} {p : Addr} {o : HO}
theorem Sep.get (x : Sep F H L) (i : Nat) (e : L[i]? = some (p, o)) : H p = some o := x.own (p, o) (List.mem_of_getElem? e)
theorem Sep.far (x : Sep F H L) (i : Nat) (e : L[i]? = some (p, o)) : p ∉ F := x.out (p, o) (List.mem_of_getElem? e)
theorem Sep.stp (x : Sep F H L) (st : Stp F H F' H') : Sep F' H' L :=
  ⟨fun y hy => (st.keep (x.own y hy) (x.out y hy)).1, fun y hy => (st.keep (x.own y hy) (x.out y hy)).2, x.nd⟩
theorem Sep.same (x : Sep F H L) (s : Same H H') : Sep F H' L := ⟨fun y hy => s _ _ (x.own y hy), x.out, x.nd⟩
theorem Sep.set (x : Sep F H L) (i : Nat) (e : L[i]? = some (p, o)) (o' : HO) : Sep F (upd H p o') (L.set i (p, o')) := by
  have hm : (L.set i (p, o')).map (·.1) = L.map (·.1) := by
    rw [List.map_set]
    refine List.ext_getElem? fun j => ?_
    by_cases q : i = j
    · subst q
      have hi : i < L.length := (List.getElem?_eq_some_iff.mp e).1
      rw [List.getElem?_set_self (by rw [List.length_map]; exact hi), List.getElem?_map, e]
      rfl
    · rw [List.getElem?_set_ne q]
  have nd' : ((L.set i (p, o')).map (·.1)).Nodup := by rw [hm]; exact x.nd
  have hi : i < L.length := (List.getElem?_eq_some_iff.mp e).1
  have key : ∀ j y, (L.set i (p, o'))[j]? = some y → (j = i ∧ y = (p, o')) ∨ (j ≠ i ∧ L[j]? = some y ∧ y.1 ≠ p) := fun j y h => by
    by_cases q : i = j
    · subst q
      rw [List.getElem?_set_self hi] at h
      exact .inl ⟨rfl, (Option.some.inj h).symm⟩
    · rw [List.getElem?_set_ne q] at h
      refine .inr ⟨Ne.symm q, h, fun r => q ?_⟩
      have h1 : (L.map (·.1))[i]? = some p := by rw [List.getElem?_map, e]; rfl
      have h2 : (L.map (·.1))[j]? = some p := by rw [List.getElem?_map, h, ← r]; rfl
      obtain ⟨w1, e1⟩ := List.getElem?_eq_some_iff.mp h1
      obtain ⟨w2, e2⟩ := List.getElem?_eq_some_iff.mp h2
      exact (List.getElem?_inj w1 x.nd).mp (h1.trans h2.symm)
  refine ⟨fun y hy => ?_, fun y hy => ?_, nd'⟩
  · obtain ⟨j, hj⟩ := List.getElem?_of_mem hy
    rcases key j y hj with ⟨_, rfl⟩ | ⟨_, h, n⟩
    · exact upd_same
    · rw [upd_ne n]; exact x.own y (List.mem_of_getElem? h)
  · obtain ⟨j, hj⟩ := List.getElem?_of_mem hy
    rcases key j y hj with ⟨_, rfl⟩ | ⟨_, h, n⟩
    · exact x.far i e
    · exact x.out y (List.mem_of_getElem? h)
theorem Sep.more (x : Sep F H L) (s : Same H H') (h1 : ∀ y ∈ L2, H' y.1 = some y.2) (h2 : ∀ y ∈ L2, H y.1 = none) (h3 : ∀ y ∈ L2, y.1 ∉ F) (h4 : (L2.map (·.1)).Nodup) : Sep F H' (L2 ++ L) := by
  refine ⟨fun y hy => ?_, fun y hy => ?_, ?_⟩
  · rcases List.mem_append.mp hy with h | h
    · exact h1 y h
    · exact s _ _ (x.own y h)
  · rcases List.mem_append.mp hy with h | h
    · exact h3 y h
    · exact x.out y h
  · rw [List.map_append]
    refine List.nodup_append.mpr ⟨h4, x.nd, fun a ha b hb q => ?_⟩
    subst q
    obtain ⟨y, hy, rfl⟩ := List.mem_map.mp ha
    obtain ⟨z, hz, e⟩ := List.mem_map.mp hb
    have := h2 y hy
    rw [← e, x.own z hz] at this
    cases this
theorem Sep.add (x : Sep F H L) (s : Same H H') (hn : H p = none) (hf : p ∉ F) (e : H' p = some o) : Sep F H' ((p, o) :: L) :=
  x.more (L2 := [(p, o)]) s (by simp [e]) (by simp [hn]) (by simp [hf]) (by simp)
theorem Sep.new (x : Sep F H L) (hn : H p = none) (hf : p ∉ F) : Sep F (upd H p o) ((p, o) :: L) := x.add (same_new hn) hn hf upd_same
theorem Sep.nil : Sep F H [] := ⟨by simp, by simp, List.nodup_nil⟩
theorem Sep.pick (x : Sep F H L) (is : List Nat) (hd : is.Nodup) : Sep F H (is.filterMap (L[·]?)) := by
  have hm : ∀ y ∈ is.filterMap (L[·]?), y ∈ L := fun y hy => by
    obtain ⟨i, _, e⟩ := List.mem_filterMap.mp hy
    exact List.mem_of_getElem? e
  refine ⟨fun y hy => x.own y (hm y hy), fun y hy => x.out y (hm y hy), ?_⟩
  induction is with
  | nil => exact List.nodup_nil
  | cons i is ih =>
    have hd := List.nodup_cons.mp hd
    have z := ih hd.2 fun y hy => hm y (by
      obtain ⟨j, hj, e⟩ := List.mem_filterMap.mp hy
      exact List.mem_filterMap.mpr ⟨j, List.mem_cons_of_mem _ hj, e⟩)
    rw [List.filterMap_cons]
    cases e : L[i]? with
    | none => exact z
    | some y =>
      show ((y :: is.filterMap (L[·]?)).map (·.1)).Nodup
      rw [List.map_cons]
      refine List.nodup_cons.mpr ⟨fun q => ?_, z⟩
      obtain ⟨w, hw, ew⟩ := List.mem_map.mp q
      obtain ⟨j, hj, e2⟩ := List.mem_filterMap.mp hw
      have h1 : (L.map (·.1))[i]? = some y.1 := by rw [List.getElem?_map, e]; rfl
      have h2 : (L.map (·.1))[j]? = some y.1 := by rw [List.getElem?_map, e2, ← ew]; rfl
      obtain ⟨w1, e1⟩ := List.getElem?_eq_some_iff.mp h1
      obtain ⟨w2, e2⟩ := List.getElem?_eq_some_iff.mp h2
      have : i = j := (List.getElem?_inj w1 x.nd).mp (h1.trans h2.symm)
      subst this
      exact hd.1 hj
end sep
theorem SpAt.oth {C : Ex} {H : Hp} {s a b p : Addr} {o : HO} {S : SpS} (x : SpAt C H s a b S) (h : p ∉ spF s a b) : SpAt C (upd H p o) s a b S := by
  obtain ⟨⟨dx, i⟩, h1, h2, ne⟩ := x
  simp only [spF, List.mem_cons, List.not_mem_nil, or_false, not_or] at h
  exact ⟨⟨dx, upd_oth i (Ne.symm h.1)⟩, upd_oth h1 (Ne.symm h.2.1), upd_oth h2 (Ne.symm h.2.2), ne⟩
def sp_Space_free (K : PySem.W.Frag) (C : Ex) : Sp := S1 fun x H Q _ => ∃ s a b S, x = .ref s ∧ SpAt C H s a b S ∧ Q (.int ((freeL S.nums S.held).length : Nat)) H
def t_Space_free (K : PySem.W.Frag) (C : Ex) (E : XK) : TS :=
  tRet (uFld C.Space "spare" (tVar 0))
theorem pure_Space_free {K : PySem.W.Frag} {C : Ex} {vs : List V} {H : Hp} {Q : VK} {E : XK} (F : Fa K C) (h : sp_Space_free K C vs H Q E) : t_Space_free K C E { nx := fun _ H' => Q .non H', rt := Q } (start ["self"] vs) H := by
  obtain ⟨x, rfl, s, a, b, S, rfl, hS, k⟩ := h
  obtain ⟨dx, i⟩ := hS.ins
  unfold spO at i
  unfold t_Space_free
  walk_at "run1"
  exact k
theorem posL_len (ns : List Int) : (posL ns).length = ns.length := by unfold posL; rw [List.length_map]
theorem SpOk.zero {ns : List Int} {hs : List Bool} (h1 : ns.length = hs.length) (h2 : ∀ z ∈ ns, 0 ≤ z) (h3 : ns.length ≤ 100000) : SpOk ⟨ns, hs, 0⟩ := ⟨h1, h2, Int.le_refl 0, fun i hi => by have hi : (i : Int) < 0 := hi; omega, h3⟩
structure SA where
  (st m hd d a w n s sa sb : Addr)
abbrev SA.all (A : SA) : List Addr := [A.st, A.m, A.hd, A.d, A.a, A.w, A.n, A.s, A.sa, A.sb]
structure StS where
  sp : SpS
  dk : DiskS
  kvs : List (Key × V)
  cont : Int → Option (List Int)
  gen : Int
  ht : V
  hb : V
  tab : V
  res : Int
def stO (C : Ex) (dx : Addr) (A : SA) (tab : V) (res : Int) : HO := .ins C.Store dx [("disk", .ref A.d), ("head", .ref A.hd), ("space", .ref A.s), ("table", tab), ("reserve", .int res), ("memory", .ref A.m)]
/-- 32 words -/
def Blk (r : List Int) : Prop := r.length = 32 ∧ ∀ z ∈ r, 0 ≤ z
def memA (kvs : List (Key × V)) : List Addr := kvs.filterMap fun kv => match kv.2 with
  | .ref p => some p
  | _ => none
structure MemAt (H : Hp) (B : List Addr) (kvs : List (Key × V)) (cont : Int → Option (List Int)) : Prop where
  ks : ∀ kv ∈ kvs, ∃ k : Int, kv.1 = .inl k
  nd : (kvs.map (·.1)).Nodup
  v : ∀ k : Int, (valV kvs (.inl k) = none ∧ cont k = none) ∨ ∃ p ws, valV kvs (.inl k) = some (.ref p) ∧ cont k = some ws ∧ H p = some (.lst (ws.map V.int)) ∧ Blk ws ∧ p ∉ B
structure StAt (C : Ex) (H : Hp) (A : SA) (S : StS) : Prop where
  ins : ∃ dx, H A.st = some (stO C dx A S.tab S.res)
  mem : H A.m = some (.dK S.kvs)
  hd : ∃ dh, H A.hd = some (hdO C dh (.int S.gen) S.ht S.hb)
  dk : DiskAt C H A.d A.a A.w A.n S.dk
  sp : SpAt C H A.s A.sa A.sb S.sp
  nd : A.all.Nodup
  mr : MemAt H A.all S.kvs S.cont
abbrev stF (A : SA) (S : StS) : List Addr := A.all ++ memA S.kvs
structure StOk (S : StS) : Prop where
  spo : SpOk S.sp
  sz : 96 ≤ S.sp.nums.length
  rs : 0 ≤ S.res
  new : ∀ k : Nat, (S.cont k).isSome = true ↔ k < S.sp.nums.length ∧ 0 < S.sp.nums.getD k 0 ∧ S.sp.held.getD k false = false
  neg : ∀ k : Int, k < 5 → S.cont k = none
  lo5 : ∀ i : Nat, i < 5 → 0 < S.sp.nums.getD i 0 ∧ S.sp.held.getD i false = true
theorem memA_of {kvs : List (Key × V)} {k : Int} {p : Addr} (h : valV kvs (.inl k) = some (.ref p)) : p ∈ memA kvs := by
  unfold valV at h
  cases e : kvs.find? (fun kv => decide (kv.1 = .inl k)) with
  | none => rw [e] at h; cases h
  | some kv =>
    rw [e] at h
    have h : kv.2 = .ref p := Option.some.inj h
    unfold memA
    exact List.mem_filterMap.mpr ⟨kv, List.mem_of_find?_eq_some e, by rw [h]⟩
theorem MemAt.at_ {H : Hp} {B : List Addr} {kvs : List (Key × V)} {cont : Int → Option (List Int)} (x : MemAt H B kvs cont) {p : Addr} (h : p ∈ memA kvs) : ∃ ws : List Int, H p = some (.lst (ws.map V.int)) ∧ Blk ws ∧ p ∉ B := by
  unfold memA at h
  obtain ⟨kv, hm, e⟩ := List.mem_filterMap.mp h
  obtain ⟨k, ek⟩ := x.ks kv hm
  have hv : valV kvs (.inl k) = some kv.2 := by
    have nd := x.nd
    clear x h
    induction kvs with
    | nil => cases hm
    | cons a t ih =>
      have nd := List.nodup_cons.mp nd
      rcases List.mem_cons.mp hm with rfl | hm
      · exact valV_pos ek
      · rw [valV_neg (fun q => nd.1 (List.mem_map.mpr ⟨kv, hm, ek.trans q.symm⟩))]
        exact ih hm nd.2
  have hp : kv.2 = .ref p := by
    split at e
    · rename_i q
      rw [q, Option.some.inj e]
    · cases e
  rcases x.v k with ⟨a, _⟩ | ⟨p', ws, a, _, b, c, d⟩
  · rw [hv] at a; cases a
  · rw [hv, hp] at a
    cases a
    exact ⟨ws, b, c, d⟩
theorem MemAt.stp {H H' : Hp} {B B' : List Addr} {kvs : List (Key × V)} {cont : Int → Option (List Int)} (x : MemAt H B kvs cont) (st : Stp B H B' H') : MemAt H' B' kvs cont :=
  ⟨x.ks, x.nd, fun k => by
    rcases x.v k with y | ⟨p, ws, a, b, c, d, e⟩
    · exact .inl y
    · exact .inr ⟨p, ws, a, b, (st.keep c e).1, d, (st.keep c e).2⟩⟩
theorem plain_len {ns : List Int} (h : ns.length ≠ 8) : Plain (.lst (ns.map V.int)) :=
  ⟨fun r h8 e => h (by have := congrArg List.length (HO.lst.inj e); rw [List.length_map, List.length_map] at this; omega), fun _ e => nomatch e⟩
theorem plain_bl {bs : List Bool} : Plain (.lst (bs.map V.bl)) :=
  ⟨fun r h8 e => by
    have e := HO.lst.inj e
    cases r with
    | nil => cases h8
    | cons z r => cases bs <;> simp at e, fun _ e => nomatch e⟩
/-- what is written is not the disk's -/
theorem DiskAt.frame {C : Ex} {H H' : Hp} {X : List Addr} {d a w n : Addr} {D : DiskS} (x : DiskAt C H d a w n D) (fr : ∀ b o, H b = some o → b ∉ X → H' b = some o) (dj : ∀ b ∈ X, b ∉ dkF d a w n) (pl : ∀ b ∈ X, ∃ o, H b = some o ∧ Plain o) : DiskAt C H' d a w n D := by
  have hr : ∀ v r, RowAt H v r → RowAt H' v r := fun v r y => by
    obtain ⟨l8, p, rfl, e⟩ := y
    refine ⟨l8, p, rfl, fr _ _ e fun hp => ?_⟩
    obtain ⟨o, ho, po⟩ := pl p hp
    rw [e] at ho
    exact po.1 r l8 (Option.some.inj ho)
  have ht : ∀ t xs, H t = some (.tup xs) → H' t = some (.tup xs) := fun t xs e => fr _ _ e fun hp => by
    obtain ⟨o, ho, po⟩ := pl t hp
    rw [e] at ho
    exact po.2 xs (Option.some.inj ho).symm
  obtain ⟨⟨dx, i⟩, ⟨vs, e1, r1⟩, ⟨ws, e2, r2⟩, ⟨kvs, e3, r3⟩, ne⟩ := x
  have nX : ∀ b, b ∈ dkF d a w n → b ∉ X := fun b h q => dj b q h
  exact ⟨⟨dx, fr _ _ i (nX _ (by simp [dkF]))⟩, ⟨vs, fr _ _ e1 (nX _ (by simp [dkF])), r1.map hr⟩, ⟨ws, fr _ _ e2 (nX _ (by simp [dkF])), r2.map hr ht⟩, ⟨kvs, fr _ _ e3 (nX _ (by simp [dkF])), r3.map hr⟩, ne⟩
section store
variable {C : Ex} {H H' : Hp} {A : SA} {S : StS}
theorem StAt.held (x : StAt C H A S) : ∀ b ∈ stF A S, H b ≠ none := by
  intro b hb
  obtain ⟨⟨_, x1⟩, x2, ⟨_, x3⟩, ⟨⟨_, y1⟩, ⟨_, y2, _⟩, ⟨_, y3, _⟩, ⟨_, y4, _⟩, _⟩, ⟨⟨_, z1⟩, z2, z3, _⟩, _, mr⟩ := x
  rcases List.mem_append.mp hb with hb | hb
  · simp only [SA.all, List.mem_cons, List.not_mem_nil, or_false] at hb
    rcases hb with rfl | rfl | rfl | rfl | rfl | rfl | rfl | rfl | rfl | rfl <;> simp [*]
  · obtain ⟨ws, e, _⟩ := mr.at_ hb
    rw [e]
    simp
theorem StAt.fresh (x : StAt C H A S) {p : Addr} (h : H p = none) : p ∉ stF A S := fun q => x.held p q h
theorem StAt.same (x : StAt C H A S) (s : Same H H') : StAt C H' A S := by
  obtain ⟨⟨dx, x1⟩, x2, ⟨dh, x3⟩, x4, x5, nd, mr⟩ := x
  exact ⟨⟨dx, s _ _ x1⟩, s _ _ x2, ⟨dh, s _ _ x3⟩, x4.same s, x5.same s, nd, mr.stp (.same s)⟩
/-- the space has changed -/
theorem StAt.setSp {P : SpS} (x : StAt C H A S) (l : S.sp.nums.length ≠ 8) (h : SpAt C H' A.s A.sa A.sb P) (st : Stp (spF A.s A.sa A.sb) H (spF A.s A.sa A.sb) H') : StAt C H' A { S with sp := P } ∧ Stp (stF A S) H (stF A { S with sp := P }) H' := by
  obtain ⟨⟨dx, x1⟩, x2, ⟨dh, x3⟩, x4, x5, nd, mr⟩ := x
  have sub : ∀ b ∈ spF A.s A.sa A.sb, b ∈ A.all := fun b hb => by
    simp only [spF, List.mem_cons, List.not_mem_nil, or_false] at hb
    rcases hb with rfl | rfl | rfl <;> simp [SA.all]
  have st' : Stp A.all H A.all H' := st.wide sub
  have dj : ∀ b ∈ spF A.s A.sa A.sb, b ∉ dkF A.d A.a A.w A.n ∧ b ≠ A.st ∧ b ≠ A.m ∧ b ≠ A.hd := fun b hb => by
    have nd := nd
    simp only [SA.all, List.nodup_cons, List.mem_cons, List.not_mem_nil, or_false, not_or] at nd
    simp only [spF, List.mem_cons, List.not_mem_nil, or_false] at hb
    simp only [dkF, List.mem_cons, List.not_mem_nil, or_false, not_or]
    rcases hb with rfl | rfl | rfl <;> simp_all [eq_comm]
  have nst : A.st ∉ spF A.s A.sa A.sb := fun q => (dj _ q).2.1 rfl
  have nm : A.m ∉ spF A.s A.sa A.sb := fun q => (dj _ q).2.2.1 rfl
  have nh : A.hd ∉ spF A.s A.sa A.sb := fun q => (dj _ q).2.2.2 rfl
  refine ⟨⟨⟨dx, st.1 _ _ x1 nst⟩, st.1 _ _ x2 nm, ⟨dh, st.1 _ _ x3 nh⟩, x4.frame st.1 (fun b hb => (dj b hb).1) (fun b hb => ?_), h, nd, mr.stp st'⟩, st'.wide fun b hb => List.mem_append_left _ hb⟩
  obtain ⟨⟨_, z1⟩, z2, z3, _⟩ := x5
  simp only [spF, List.mem_cons, List.not_mem_nil, or_false] at hb
  rcases hb with rfl | rfl | rfl
  · exact ⟨_, z1, plain_ins⟩
  · exact ⟨_, z2, plain_len l⟩
  · exact ⟨_, z3, plain_bl⟩
/-- a plain object outside is written -/
theorem StAt.oth {p : Addr} {o u : HO} (x : StAt C H A S) (h : H p = some u) (pu : Plain u) (n : p ∉ stF A S) : StAt C (upd H p o) A S := by
  obtain ⟨⟨dx, x1⟩, x2, ⟨dh, x3⟩, x4, x5, nd, mr⟩ := x
  have n1 : p ∉ A.all := fun q => n (List.mem_append_left _ q)
  have n2 : p ∉ memA S.kvs := fun q => n (List.mem_append_right _ q)
  have fr : ∀ b o', H b = some o' → b ∉ [p] → upd H p o b = some o' := fun b o' e q => upd_oth e fun z => q (by rw [z]; simp)
  have na : ∀ b ∈ A.all, b ≠ p := fun b hb q => n1 (q ▸ hb)
  refine ⟨⟨dx, upd_oth x1 (na _ (by simp [SA.all]))⟩, upd_oth x2 (na _ (by simp [SA.all])), ⟨dh, upd_oth x3 (na _ (by simp [SA.all]))⟩, x4.frame fr (fun b hb => ?_) (fun b hb => ?_), x5.oth fun hb => ?_, nd, ⟨mr.ks, mr.nd, fun k => ?_⟩⟩
  · rw [List.mem_singleton.mp hb]
    intro q
    simp only [dkF, List.mem_cons, List.not_mem_nil, or_false] at q
    rcases q with q | q | q | q <;> exact na _ (by simp [SA.all]) q.symm
  · rw [List.mem_singleton.mp hb]
    exact ⟨u, h, pu⟩
  · simp only [spF, List.mem_cons, List.not_mem_nil, or_false] at hb
    rcases hb with q | q | q <;> exact na _ (by simp [SA.all]) q.symm
  · rcases mr.v k with y | ⟨p', ws, a, b, c, d, e⟩
    · exact .inl y
    · exact .inr ⟨p', ws, a, b, upd_oth c fun q => n2 (q ▸ memA_of a), d, e⟩
/-- the memory has changed -/
theorem StAt.setMem {kvs : List (Key × V)} {cont : Int → Option (List Int)} (x : StAt C H A S) (s : Same H H') (mr : MemAt H' A.all kvs cont) (hn : ∀ b ∈ memA kvs, b ∈ stF A S ∨ H b = none) : StAt C (upd H' A.m (.dK kvs)) A { S with kvs := kvs, cont := cont } ∧ Stp (stF A S) H (stF A { S with kvs := kvs, cont := cont }) (upd H' A.m (.dK kvs)) := by
  have x0 := x.same s
  obtain ⟨⟨dx, x1⟩, x2, ⟨dh, x3⟩, x4, x5, nd, _⟩ := x0
  have nd' := nd
  simp only [SA.all, List.nodup_cons, List.mem_cons, List.not_mem_nil, or_false, not_or] at nd'
  obtain ⟨⟨m1, m2, m3, m4, m5, m6, m7, m8, m9⟩, ⟨h2, h3, h4, h5, h6, h7, h8, h9⟩, _⟩ := nd'
  have fr : ∀ b o', H' b = some o' → b ∉ [A.m] → upd H' A.m (.dK kvs) b = some o' := fun b o' e q => upd_oth e fun z => q (by rw [z]; simp)
  refine ⟨⟨⟨dx, upd_oth x1 m1⟩, upd_same, ⟨dh, upd_oth x3 (Ne.symm h2)⟩, x4.frame fr (fun b hb => ?_) (fun b hb => ?_), x5.oth (by simp only [spF, List.mem_cons, List.not_mem_nil, or_false, not_or]; exact ⟨h7, h8, h9⟩), nd, ⟨mr.ks, mr.nd, fun k => ?_⟩⟩, ⟨fun b o h q => ?_, fun b hb => ?_⟩⟩
  · rw [List.mem_singleton.mp hb]
    simp only [dkF, List.mem_cons, List.not_mem_nil, or_false, not_or]
    exact ⟨h3, h4, h5, h6⟩
  · rw [List.mem_singleton.mp hb]
    exact ⟨_, x2, plain_dK⟩
  · rcases mr.v k with y | ⟨p', ws, a, b, c, d, e⟩
    · exact .inl y
    · exact .inr ⟨p', ws, a, b, upd_oth c fun q => e (by rw [q]; simp [SA.all]), d, e⟩
  · exact upd_oth (s _ _ h) fun z => q (by rw [z]; simp [SA.all])
  · rcases List.mem_append.mp hb with hb | hb
    · exact .inl (List.mem_append_left _ hb)
    · exact hn b hb
theorem memA_put {kvs : List (Key × V)} {k : Key} {p b : Addr} (h : b ∈ memA (putK kvs k (.ref p))) : b = p ∨ b ∈ memA kvs := by
  unfold memA at h
  obtain ⟨kv, hm, e⟩ := List.mem_filterMap.mp h
  have hp : kv.2 = .ref b := by
    split at e
    · rename_i q
      rw [q, Option.some.inj e]
    · cases e
  unfold putK at hm
  split at hm
  · obtain ⟨kv', hm', e'⟩ := List.mem_map.mp hm
    split at e'
    · rw [← e'] at hp
      exact .inl (by cases hp; rfl)
    · rw [← e'] at hp
      exact .inr (List.mem_filterMap.mpr ⟨kv', hm', by rw [hp]⟩)
  · rcases List.mem_append.mp hm with hm | hm
    · exact .inr (List.mem_filterMap.mpr ⟨kv, hm, by rw [hp]⟩)
    · rw [List.mem_singleton.mp hm] at hp
      exact .inl (by cases hp; rfl)
end store
def PtrAt (K : PySem.W.Frag) (H : Hp) (v : V) (z : Int) : Prop := ∃ t y, v = .ref t ∧ SqT K H t [.int z, y]
def outB (S : StS) (z : Int) : Prop := z < 0 ∨ (S.sp.nums.length : Int) ≤ z
theorem btw_out {S : StS} {z : Int} (h : btw 0 ((S.sp.nums.length : Int) - 1) (.int z) = false) : outB S z := by
  rcases (show (z < 0 ∨ (S.sp.nums.length : Int) ≤ z) ∨ (0 ≤ z ∧ z ≤ (S.sp.nums.length : Int) - 1) by omega) with q | q
  · exact q
  · rw [btw_int q.1 q.2] at h; cases h
/-- words for a block: good ones, or none -/
def WordsV (K : PySem.W.Frag) (H : Hp) (c : V) (g : Option (List Int)) : Prop :=
  (∃ p xs, c = .ref p ∧ SqL K H p xs ∧ (∀ x ∈ xs, Known K H x) ∧ ((∃ ws : List Int, g = some ws ∧ xs = ws.map V.int ∧ Blk ws) ∨ (g = none ∧ (decide ((xs.length : Int) = 32) && xs.all isWord) = false))) ∨ (NoList K H c ∧ g = none)
theorem w_words {K : PySem.W.Frag} {C : Ex} {H : Hp} {Q : VK} {E : XK} {c : V} {g : Option (List Int)} (h : WordsV K H c g) (k : Q (.bl g.isSome) H) : sp_are_words K C [c, .int 32] H Q E := by
  rcases h with ⟨p, xs, rfl, hp, hk, ⟨ws, rfl, rfl, l, nn⟩ | ⟨rfl, b⟩⟩ | ⟨hn, rfl⟩
  · refine w_S2 ⟨32, rfl, .inl ⟨p, _, rfl, hp, hk, ?_⟩⟩
    have e : (ws.map V.int).all isWord = true := List.all_eq_true.mpr fun y hy => by
      obtain ⟨i, hi, rfl⟩ := List.mem_map.mp hy
      exact decide_eq_true (nn i hi)
    rw [e, decide_eq_true (by rw [List.length_map, l]; rfl)]
    exact k
  · refine w_S2 ⟨32, rfl, .inl ⟨p, _, rfl, hp, hk, ?_⟩⟩
    rw [b]
    exact k
  · exact w_S2 ⟨32, rfl, .inr ⟨hn, k⟩⟩
theorem WordsV.list {K : PySem.W.Frag} {H : Hp} {c : V} {ws : List Int} (h : WordsV K H c (some ws)) : Blk ws ∧ ∃ p, c = .ref p ∧ SqL K H p (ws.map V.int) := by
  rcases h with ⟨p, xs, rfl, hp, _, ⟨ws', e, rfl, b⟩ | ⟨e, _⟩⟩ | ⟨_, e⟩
  · cases e
    exact ⟨b, p, rfl, hp⟩
  · cases e
  · cases e
theorem WordsV.good {K : PySem.W.Frag} {H : Hp} {p : Addr} {ws : List Int} (h : SqL K H p (ws.map V.int)) (b : Blk ws) : WordsV K H (.ref p) (some ws) :=
  .inl ⟨p, _, rfl, h, fun x hx => by
    obtain ⟨i, _, rfl⟩ := List.mem_map.mp hx
    trivial, .inl ⟨ws, rfl, rfl, b⟩⟩
theorem valV_drop {kvs : List (Key × V)} {k j : Key} : valV (dropK kvs k) j = if j = k then none else valV kvs j := by
  induction kvs with
  | nil => split <;> rfl
  | cons p r ih =>
    by_cases q : p.1 = k
    · rw [show dropK (p :: r) k = dropK r k by unfold dropK; rw [List.filter_cons, if_neg (by simp [q])], ih]
      by_cases e : j = k
      · rw [if_pos e, if_pos e]
      · rw [if_neg e, if_neg e, valV_neg fun z => e (z.symm.trans q)]
    · rw [show dropK (p :: r) k = p :: dropK r k by unfold dropK; rw [List.filter_cons, if_pos (by simp [q])]]
      by_cases e : p.1 = j
      · rw [valV_pos e, valV_pos e, if_neg fun z => q (e.trans z)]
      · rw [valV_neg e, ih, valV_neg e]
theorem putK_keys {kvs : List (Key × V)} {k : Key} {v : V} (h : (kvs.map (·.1)).Nodup) : ((putK kvs k v).map (·.1)).Nodup := by
  unfold putK
  split
  · rw [show (kvs.map fun kv => if kv.1 = k then (kv.1, v) else kv).map (·.1) = kvs.map (·.1) by
      rw [List.map_map]
      exact List.map_congr_left fun kv _ => by
        show (if kv.1 = k then (kv.1, v) else kv).1 = kv.1
        split <;> rfl]
    exact h
  · rename_i q
    rw [List.map_append]
    refine List.nodup_append.mpr ⟨h, by simp, fun a ha b hb e => ?_⟩
    have hb : b = k := by simpa using hb
    subst e
    obtain ⟨kv, hm, e2⟩ := List.mem_map.mp ha
    exact q (List.any_eq_true.mpr ⟨kv, hm, decide_eq_true (e2.trans hb)⟩)
theorem MemAt.put {H H' : Hp} {B : List Addr} {kvs : List (Key × V)} {cont : Int → Option (List Int)} {k : Int} {l : Addr} {ws : List Int} (x : MemAt H B kvs cont) (s : Same H H') (e : H' l = some (.lst (ws.map V.int))) (b : Blk ws) (n : l ∉ B) : MemAt H' B (putK kvs (.inl k) (.ref l)) fun j => if j = k then some ws else cont j := by
  refine ⟨fun kv hm => ?_, putK_keys x.nd, fun j => ?_⟩
  · rcases mem_putK hm with q | q
    · exact ⟨k, q⟩
    · exact x.ks kv q
  · rw [valV_put]
    by_cases q : j = k
    · rw [if_pos (by rw [q]), if_pos q]
      exact .inr ⟨l, ws, rfl, rfl, e, b, n⟩
    · rw [if_neg (fun z => q (Sum.inl.inj z)), if_neg q]
      rcases x.v j with y | ⟨p, ws, a, b, c, d, e⟩
      · exact .inl y
      · exact .inr ⟨p, ws, a, b, s _ _ c, d, e⟩
theorem MemAt.drop {H : Hp} {B : List Addr} {kvs : List (Key × V)} {cont : Int → Option (List Int)} {k : Int} (x : MemAt H B kvs cont) : MemAt H B (dropK kvs (.inl k)) fun j => if j = k then none else cont j := by
  refine ⟨fun kv hm => x.ks kv (List.mem_filter.mp hm).1, ?_, fun j => ?_⟩
  · exact List.Nodup.sublist (List.Sublist.map _ List.filter_sublist) x.nd
  · rw [valV_drop]
    by_cases q : j = k
    · rw [if_pos (by rw [q]), if_pos q]
      exact .inl ⟨rfl, rfl⟩
    · rw [if_neg (fun z => q (Sum.inl.inj z)), if_neg q]
      exact x.v j
theorem memA_drop {kvs : List (Key × V)} {k : Key} {b : Addr} (h : b ∈ memA (dropK kvs k)) : b ∈ memA kvs := by
  unfold memA at h
  obtain ⟨kv, hm, e⟩ := List.mem_filterMap.mp h
  exact List.mem_filterMap.mpr ⟨kv, (List.mem_filter.mp hm).1, e⟩
def putM (S : StS) (k : Int) (l : Addr) (ws : List Int) : StS := { S with kvs := putK S.kvs (.inl k) (.ref l), cont := fun j => if j = k then some ws else S.cont j }
def dropM (S : StS) (k : Int) : StS := { S with kvs := dropK S.kvs (.inl k), cont := fun j => if j = k then none else S.cont j }
theorem StAt.putM {C : Ex} {H H' : Hp} {A : SA} {S : StS} {k : Int} {l : Addr} {ws : List Int} (x : StAt C H A S) (s : Same H H') (n : H l = none) (e : H' l = some (.lst (ws.map V.int))) (b : Blk ws) : StAt C (upd H' A.m (.dK (putK S.kvs (.inl k) (.ref l)))) A (putM S k l ws) ∧ Stp (stF A S) H (stF A (putM S k l ws)) (upd H' A.m (.dK (putK S.kvs (.inl k) (.ref l)))) :=
  x.setMem s (x.mr.put s e b fun q => x.fresh n (List.mem_append_left _ q)) fun b hb => by
    rcases memA_put hb with rfl | q
    · exact .inr n
    · exact .inl (List.mem_append_right _ q)
theorem StAt.dropM {C : Ex} {H : Hp} {A : SA} {S : StS} {k : Int} (x : StAt C H A S) : StAt C (upd H A.m (.dK (dropK S.kvs (.inl k)))) A (dropM S k) ∧ Stp (stF A S) H (stF A (dropM S k)) (upd H A.m (.dK (dropK S.kvs (.inl k)))) :=
  x.setMem (L2.Same.refl _) x.mr.drop fun _ hb => .inl (List.mem_append_right _ (memA_drop hb))
theorem StAt.tupNot {C : Ex} {H : Hp} {A : SA} {S : StS} {t : Addr} {xs : List V} (x : StAt C H A S) (h : H t = some (.tup xs)) : t ∉ stF A S := by
  obtain ⟨⟨_, x1⟩, x2, ⟨_, x3⟩, ⟨⟨_, y1⟩, ⟨_, y2, _⟩, ⟨_, y3, _⟩, ⟨_, y4, _⟩, _⟩, ⟨⟨_, z1⟩, z2, z3, _⟩, _, mr⟩ := x
  intro hb
  rcases List.mem_append.mp hb with hb | hb
  · simp only [SA.all, List.mem_cons, List.not_mem_nil, or_false] at hb
    rcases hb with rfl | rfl | rfl | rfl | rfl | rfl | rfl | rfl | rfl | rfl
    · rw [x1] at h; cases h
    · rw [x2] at h; cases h
    · rw [x3] at h; cases h
    · rw [y1] at h; cases h
    · rw [y2] at h; cases h
    · rw [y3] at h; cases h
    · rw [y4] at h; cases h
    · rw [z1] at h; cases h
    · rw [z2] at h; cases h
    · rw [z3] at h; cases h
  · obtain ⟨ws, e, _⟩ := mr.at_ hb
    rw [e] at h; cases h
def sp_Store_generation (K : PySem.W.Frag) (C : Ex) : Sp := S1 fun x H Q _ => ∃ A S, x = .ref A.st ∧ StAt C H A S ∧ Q (.int (S.gen + 1)) H
def t_Store_generation (K : PySem.W.Frag) (C : Ex) (E : XK) : TS :=
  tRet (tOp (uAdd K) (uFld C.Head "generation" (uFld C.Store "head" (tVar 0))) (tC (.int 1)))
theorem pure_Store_generation {K : PySem.W.Frag} {C : Ex} {vs : List V} {H : Hp} {Q : VK} {E : XK} (F : Fa K C) (h : sp_Store_generation K C vs H Q E) : t_Store_generation K C E { nx := fun _ H' => Q .non H', rt := Q } (start ["self"] vs) H := by
  obtain ⟨x, rfl, A, S, rfl, hS, k⟩ := h
  obtain ⟨dx, i⟩ := hS.ins
  obtain ⟨dh, ih⟩ := hS.hd
  unfold stO at i
  unfold hdO at ih
  unfold t_Store_generation
  walk_at "run1"
  exact k
def sp_Store_free (K : PySem.W.Frag) (C : Ex) : Sp := S1 fun x H Q _ => ∃ A S, x = .ref A.st ∧ StAt C H A S ∧ Q (.int ((freeL S.sp.nums S.sp.held).length : Nat)) H
def t_Store_free (K : PySem.W.Frag) (C : Ex) (E : XK) : TS :=
  tRet (uMeth C.Space "free" (sp_Space_free K C) (WB E) (uFld C.Store "space" (tVar 0)) (tNil))
theorem pure_Store_free {K : PySem.W.Frag} {C : Ex} {vs : List V} {H : Hp} {Q : VK} {E : XK} (F : Fa K C) (h : sp_Store_free K C vs H Q E) : t_Store_free K C E { nx := fun _ H' => Q .non H', rt := Q } (start ["self"] vs) H := by
  obtain ⟨x, rfl, A, S, rfl, hS, k⟩ := h
  obtain ⟨dx, i⟩ := hS.ins
  obtain ⟨ds, is⟩ := hS.sp.ins
  unfold stO at i
  unfold spO at is
  unfold t_Store_free
  walk_at "run1"
  refine w_S1 ⟨A.s, A.sa, A.sb, S.sp, rfl, hS.sp, ?_⟩
  exact k
def sp_Store_require (K : PySem.W.Frag) (C : Ex) : Sp := S2 fun x c H Q E => ∃ A S, ∃ z : Int, x = .ref A.st ∧ c = .int z ∧ StAt C H A S ∧ (((freeL S.sp.nums S.sp.held).length : Int) < z + S.res → E (.ref C.NoSpace) none H) ∧ (z + S.res ≤ ((freeL S.sp.nums S.sp.held).length : Int) → Q .non H)
def t_Store_require (K : PySem.W.Frag) (C : Ex) (E : XK) : TS :=
  tIfS (tTest (tOp (uLt K) (uMeth C.Space "free" (sp_Space_free K C) (WB E) (uFld C.Store "space" (tVar 0)) (tNil)) (tOp (uAdd K) (tVar 1) (uFld C.Store "reserve" (tVar 0))))) (uRaise C.NoSpace (WB E)) (tNext)
theorem pure_Store_require {K : PySem.W.Frag} {C : Ex} {vs : List V} {H : Hp} {Q : VK} {E : XK} (F : Fa K C) (h : sp_Store_require K C vs H Q E) : t_Store_require K C E { nx := fun _ H' => Q .non H', rt := Q } (start ["self", "many"] vs) H := by
  obtain ⟨x, c, rfl, A, S, z, rfl, rfl, hS, k1, k2⟩ := h
  obtain ⟨dx, i⟩ := hS.ins
  obtain ⟨ds, is⟩ := hS.sp.ins
  unfold stO at i
  unfold spO at is
  unfold t_Store_require
  walk_at "run1"
  refine w_S1 ⟨A.s, A.sa, A.sb, S.sp, rfl, hS.sp, ?_⟩
  walk_at "run1"
  · rename_i h
    exact k1 h
  · walk_at "run1"
    rename_i h
    exact k2 (by omega)
def sp_Store_use_reserve (K : PySem.W.Frag) (C : Ex) : Sp := S2 fun x c H Q _ => ∃ A S, ∃ z : Int, x = .ref A.st ∧ c = .int z ∧ StAt C H A S ∧ ∀ H', StAt C H' A { S with res := z } → Stp (stF A S) H (stF A S) H' → Q .non H'
theorem StAt.self {C : Ex} {H : Hp} {A : SA} {S : StS} {dx : Addr} {tab : V} {res : Int} (x : StAt C H A S) : StAt C (upd H A.st (stO C dx A tab res)) A { S with tab := tab, res := res } := by
  obtain ⟨⟨dx0, x1⟩, x2, ⟨dh, x3⟩, x4, x5, nd, mr⟩ := x
  have nd' := nd
  simp only [SA.all, List.nodup_cons, List.mem_cons, List.not_mem_nil, or_false, not_or] at nd'
  obtain ⟨⟨m1, m2, m3, m4, m5, m6, m7, m8, m9⟩, _⟩ := nd'
  have fr : ∀ b o', H b = some o' → b ∉ [A.st] → upd H A.st (stO C dx A tab res) b = some o' := fun b o' e q => upd_oth e fun z => q (by rw [z]; simp)
  refine ⟨⟨dx, upd_same⟩, upd_oth x2 (Ne.symm m1), ⟨dh, upd_oth x3 (Ne.symm m2)⟩, x4.frame fr (fun b hb => ?_) (fun b hb => ?_), x5.oth (by simp only [spF, List.mem_cons, List.not_mem_nil, or_false, not_or]; exact ⟨m7, m8, m9⟩), nd, mr.stp (Stp.refl.upd (by simp [SA.all]))⟩
  · rw [List.mem_singleton.mp hb]
    simp only [dkF, List.mem_cons, List.not_mem_nil, or_false, not_or]
    exact ⟨m3, m4, m5, m6⟩
  · rw [List.mem_singleton.mp hb]
    exact ⟨_, x1, plain_ins⟩
def t_Store_use_reserve (K : PySem.W.Frag) (C : Ex) (E : XK) : TS :=
  uSetF C.Store "reserve" (tVar 0) (tVar 1)
theorem pure_Store_use_reserve {K : PySem.W.Frag} {C : Ex} {vs : List V} {H : Hp} {Q : VK} {E : XK} (F : Fa K C) (h : sp_Store_use_reserve K C vs H Q E) : t_Store_use_reserve K C E { nx := fun _ H' => Q .non H', rt := Q } (start ["self", "reserve"] vs) H := by
  obtain ⟨x, c, rfl, A, S, z, rfl, rfl, hS, k⟩ := h
  obtain ⟨dx, i⟩ := hS.ins
  have i0 := i
  unfold stO at i
  unfold t_Store_use_reserve
  walk_at "run1"
  exact k _ (hS.self (dx := dx) (tab := S.tab) (res := z)) (Stp.refl.upd (List.mem_append_left _ (by simp [SA.all])))
def sp_Store_uses (K : PySem.W.Frag) (C : Ex) : Sp := S2 fun x c H Q E => ∃ A S z, x = .ref A.st ∧ PtrAt K H c z ∧ StAt C H A S ∧ StOk S ∧ (outB S z → E (.ref C.NotValid) none H) ∧ ∀ k : Nat, z = (k : Nat) → k < S.sp.nums.length → Q (.int (S.sp.nums.getD k 0)) H
def t_Store_uses (K : PySem.W.Frag) (C : Ex) (E : XK) : TS :=
  tRet (uMeth C.Space "uses" (sp_Space_uses K C) (WB E) (uFld C.Store "space" (tVar 0)) (tCons (tOp (uIx K) (tVar 1) (tC (.int 0))) (tNil)))
theorem pure_Store_uses {K : PySem.W.Frag} {C : Ex} {vs : List V} {H : Hp} {Q : VK} {E : XK} (F : Fa K C) (h : sp_Store_uses K C vs H Q E) : t_Store_uses K C E { nx := fun _ H' => Q .non H', rt := Q } (start ["self", "pointer"] vs) H := by
  obtain ⟨x, c, rfl, A, S, z, rfl, ⟨t, y, rfl, ht⟩, hS, ok, k1, k2⟩ := h
  obtain ⟨dx, i⟩ := hS.ins
  obtain ⟨ds, is⟩ := hS.sp.ins
  unfold stO at i
  unfold spO at is
  unfold t_Store_uses
  walk_at "run1"
  unfold sp_Space_uses rdB
  refine w_S2 ⟨A.s, A.sa, A.sb, S.sp, rfl, trivial, hS.sp.r, ok.spo, fun h => k1 (btw_out h), fun k e hk => ?_⟩
  cases e
  exact k2 k rfl hk
def newB (S : StS) (k : Nat) : Bool := decide (0 < S.sp.nums.getD k 0) && !S.sp.held.getD k false && decide (S.sp.nums.getD k 0 = 1)
def sp_Store_is_new (K : PySem.W.Frag) (C : Ex) : Sp := S2 fun x c H Q E => ∃ A S z, x = .ref A.st ∧ PtrAt K H c z ∧ StAt C H A S ∧ StOk S ∧ (outB S z → E (.ref C.NotValid) none H) ∧ ∀ k : Nat, z = (k : Nat) → k < S.sp.nums.length → Q (.bl (newB S k)) H
def t_Store_is_new (K : PySem.W.Frag) (C : Ex) (E : XK) : TS :=
  tSeq (tAsg (tOp (uIx K) (tVar 1) (tC (.int 0))) (gName 2))
  (tRet (tAndV (uMeth C.Space "is_new" (sp_Space_is_new K C) (WB E) (uFld C.Store "space" (tVar 0)) (tCons (tVar 2) (tNil))) (tOp (uEq K) (uMeth C.Space "uses" (sp_Space_uses K C) (WB E) (uFld C.Store "space" (tVar 0)) (tCons (tVar 2) (tNil))) (tC (.int 1)))))
theorem pure_Store_is_new {K : PySem.W.Frag} {C : Ex} {vs : List V} {H : Hp} {Q : VK} {E : XK} (F : Fa K C) (h : sp_Store_is_new K C vs H Q E) : t_Store_is_new K C E { nx := fun _ H' => Q .non H', rt := Q } (start ["self", "pointer", "number"] vs) H := by
  obtain ⟨x, c, rfl, A, S, z, rfl, ⟨t, y, rfl, ht⟩, hS, ok, k1, k2⟩ := h
  obtain ⟨dx, i⟩ := hS.ins
  obtain ⟨ds, is⟩ := hS.sp.ins
  unfold stO at i
  unfold spO at is
  unfold t_Store_is_new
  walk_at "run1"
  unfold sp_Space_is_new rdB
  refine w_S2 ⟨A.s, A.sa, A.sb, S.sp, rfl, trivial, hS.sp.r, ok.spo, fun h => k1 (btw_out h), fun k e hk => ?_⟩
  cases e
  have k2 := k2 k rfl hk
  unfold newB at k2
  dsimp only
  cases q : (decide (0 < S.sp.nums.getD k 0) && !S.sp.held.getD k false) with
  | false =>
    rw [q, Bool.false_and] at k2
    walk_at "run1"
    exact k2
  | true =>
    rw [q, Bool.true_and] at k2
    walk_at "run1"
    unfold sp_Space_uses rdB
    refine w_S2 ⟨A.s, A.sa, A.sb, S.sp, rfl, trivial, hS.sp.r, ok.spo, fun h => k1 (btw_out h), fun k' e' hk' => ?_⟩
    cases e'
    walk_at "run1"
    exact k2
def sp_Store_share (K : PySem.W.Frag) (C : Ex) : Sp := S2 fun x c H Q E => ∃ A S z, x = .ref A.st ∧ PtrAt K H c z ∧ StAt C H A S ∧ StOk S ∧ (badB S.sp (.int z) → E (.ref C.NotValid) none H) ∧
  ∀ k : Nat, z = (k : Nat) → 5 ≤ k → k < S.sp.nums.length → S.sp.nums.getD k 0 ≠ 0 → ∀ H', StAt C H' A { S with sp := shareS S.sp k } → Stp (stF A S) H (stF A S) H' → Q .non H'
def t_Store_share (K : PySem.W.Frag) (C : Ex) (E : XK) : TS :=
  tDrop (uMeth C.Space "share" (sp_Space_share K C) (WB E) (uFld C.Store "space" (tVar 0)) (tCons (tOp (uIx K) (tVar 1) (tC (.int 0))) (tNil)))
theorem pure_Store_share {K : PySem.W.Frag} {C : Ex} {vs : List V} {H : Hp} {Q : VK} {E : XK} (F : Fa K C) (h : sp_Store_share K C vs H Q E) : t_Store_share K C E { nx := fun _ H' => Q .non H', rt := Q } (start ["self", "pointer"] vs) H := by
  obtain ⟨x, c, rfl, A, S, z, rfl, ⟨t, y, rfl, ht⟩, hS, ok, k1, k2⟩ := h
  obtain ⟨dx, i⟩ := hS.ins
  obtain ⟨ds, is⟩ := hS.sp.ins
  have sz := ok.sz
  unfold stO at i
  unfold spO at is
  unfold t_Store_share
  walk_at "run1"
  refine w_S2 ⟨A.s, A.sa, A.sb, S.sp, rfl, trivial, hS.sp, ok.spo, fun h => k1 h, fun k e h5 hk h0 H' hS' st' => ?_⟩
  cases e
  obtain ⟨g1, g2⟩ := hS.setSp (by omega) hS' st'
  walk_at "run1"
  exact k2 k rfl h5 hk h0 H' g1 g2
def dropSt (S : StS) (k : Nat) : StS := if S.sp.nums.getD k 0 - 1 = 0 then dropM { S with sp := dropS S.sp k } k else { S with sp := dropS S.sp k }
def sp_Store_drop (K : PySem.W.Frag) (C : Ex) : Sp := S2 fun x c H Q E => ∃ A S z, x = .ref A.st ∧ PtrAt K H c z ∧ StAt C H A S ∧ StOk S ∧ (badB S.sp (.int z) → E (.ref C.NotValid) none H) ∧
  ∀ k : Nat, z = (k : Nat) → 5 ≤ k → k < S.sp.nums.length → S.sp.nums.getD k 0 ≠ 0 → ∀ H', StAt C H' A (dropSt S k) → Stp (stF A S) H (stF A (dropSt S k)) H' → Q (.int (S.sp.nums.getD k 0 - 1)) H'
def t_Store_drop (K : PySem.W.Frag) (C : Ex) (E : XK) : TS :=
  tSeq (tAsg (tOp (uIx K) (tVar 1) (tC (.int 0))) (gName 2))
  (tSeq (tAsg (uMeth C.Space "drop" (sp_Space_drop K C) (WB E) (uFld C.Store "space" (tVar 0)) (tCons (tVar 2) (tNil))) (gName 3))
  (tCut (tIfS (tAnd (tTest (tOp (uEq K) (tVar 3) (tC (.int 0)))) (tTest (tOp (uIn K) (tVar 2) (uFld C.Store "memory" (tVar 0))))) (sDDel (uFld C.Store "memory" (tVar 0)) (tVar 2)) (tNext))
  (tRet (tVar 3))))
theorem pure_Store_drop {K : PySem.W.Frag} {C : Ex} {vs : List V} {H : Hp} {Q : VK} {E : XK} (F : Fa K C) (h : sp_Store_drop K C vs H Q E) : t_Store_drop K C E { nx := fun _ H' => Q .non H', rt := Q } (start ["self", "pointer", "number", "left"] vs) H := by
  obtain ⟨x, c, rfl, A, S, z, rfl, ⟨t, y, rfl, ht⟩, hS, ok, k1, k2⟩ := h
  obtain ⟨dx, i⟩ := hS.ins
  obtain ⟨ds, is⟩ := hS.sp.ins
  have sz := ok.sz
  unfold stO at i
  unfold spO at is
  unfold t_Store_drop
  walk_at "run1"
  refine w_S2 ⟨A.s, A.sa, A.sb, S.sp, rfl, trivial, hS.sp, ok.spo, fun h => k1 h, fun k e h5 hk h0 H1 hS1 st1 => ?_⟩
  cases e
  obtain ⟨g1, g2⟩ := hS.setSp (by omega) hS1 st1
  have k2 := k2 k rfl h5 hk h0
  obtain ⟨dx1, i1⟩ := g1.ins
  have m1 := g1.mem
  have m1 : H1 A.m = some (.dK S.kvs) := m1
  unfold stO at i1
  walk_at "run1"
  refine w_cut (fun σ H' => σ = [some (.ref A.st), some (.ref t), some (.int (k : Nat)), some (.int (S.sp.nums.getD k 0 - 1))] ∧ StAt C H' A (dropSt S k) ∧ Stp (stF A S) H (stF A (dropSt S k)) H') ?_ ?_
  · unfold dropSt
    walk_at "run1"
    · rename_i q
      rw [if_pos q]
      cases hv : (valV S.kvs (.inl (k : Nat))).isSome with
      | true =>
        walk_at "run1"
        obtain ⟨g3, g4⟩ := g1.dropM (k := (k : Nat))
        refine w_delI m1 hv ?_
        exact ⟨rfl, g3, g2.trans g4⟩
      | false =>
        walk_at "run1"
        have hv0 : valV S.kvs (.inl (k : Nat)) = none := by simpa using hv
        have e1 : dropK S.kvs (.inl (k : Nat)) = S.kvs := List.filter_eq_self.mpr fun kv hm => decide_eq_true fun e => by
          obtain ⟨kv1, kv2⟩ := kv
          have e : kv1 = _ := e
          have z := hv0
          unfold valV at z
          have z := List.find?_eq_none.mp (Option.map_eq_none_iff.mp z) _ hm
          exact z (decide_eq_true e)
        have e2 : (fun j : Int => if j = (k : Nat) then none else S.cont j) = S.cont := funext fun j => by
          split
          · rename_i e
            rw [e]
            rcases g1.mr.v (k : Nat) with ⟨_, b⟩ | ⟨_, _, a, _⟩
            · exact b.symm
            · have a : valV S.kvs (.inl (k : Nat)) = _ := a
              rw [hv0] at a; cases a
          · rfl
        have e3 : dropM { S with sp := dropS S.sp k } (k : Nat) = { S with sp := dropS S.sp k } := by
          unfold dropM
          dsimp only
          rw [e1, e2]
        rw [e3]
        exact ⟨rfl, g1, g2⟩
    · walk_at "run1"
      rename_i q
      rw [if_neg q]
      exact ⟨rfl, g1, g2⟩
  · rintro σ H2 ⟨rfl, g3, g4⟩
    walk_at "run1"
    exact k2 H2 g3 g4
theorem nodup_le : ∀ (n : Nat) (l : List Int), l.Nodup → (∀ x ∈ l, 0 ≤ x ∧ x < n) → l.length ≤ n
  | 0, l, _, h => by
    cases l with
    | nil => exact Nat.le_refl 0
    | cons a t =>
      have z := h a (List.mem_cons_self ..)
      omega
  | n + 1, l, nd, h => by
    by_cases q : (n : Int) ∈ l
    · have z := nodup_le n (l.erase (n : Int)) (nd.erase _) fun x hx => by
        have hx := (List.Nodup.mem_erase_iff nd).mp hx
        have y := h x hx.2
        have := hx.1
        omega
      rw [List.length_erase_of_mem q] at z
      omega
    · have z := nodup_le n l nd fun x hx => by
        have y := h x hx
        have : x ≠ (n : Int) := fun e => q (e ▸ hx)
        omega
      omega
theorem kvs_len {H : Hp} {B : List Addr} {S : StS} (x : MemAt H B S.kvs S.cont) (ok : StOk S) : S.kvs.length ≤ S.sp.nums.length := by
  have e : ∃ ks : List Int, S.kvs.map (·.1) = ks.map Sum.inl := by
    have z := x.ks
    clear x
    generalize S.kvs = kvs at z
    induction kvs with
    | nil => exact ⟨[], rfl⟩
    | cons a t ih =>
      obtain ⟨ks, e⟩ := ih fun kv hk => z kv (List.mem_cons_of_mem _ hk)
      obtain ⟨k, ek⟩ := z a (List.mem_cons_self ..)
      exact ⟨k :: ks, by rw [List.map_cons, List.map_cons, e, ek]⟩
  obtain ⟨ks, e⟩ := e
  have nd : ks.Nodup := by
    have z := x.nd
    rw [e] at z
    exact (List.pairwise_map.mp z).imp fun h e => h (by rw [e])
  have hl : S.kvs.length = ks.length := by
    have z := congrArg List.length e
    rw [List.length_map, List.length_map] at z
    exact z
  rw [hl]
  refine nodup_le _ ks nd fun k hk => ?_
  have hm : (Sum.inl k : Key) ∈ S.kvs.map (·.1) := by rw [e]; exact List.mem_map.mpr ⟨k, hk, rfl⟩
  have hs : (S.cont k).isSome = true := by
    rcases x.v k with ⟨a, _⟩ | ⟨_, _, _, b, _⟩
    · exfalso
      obtain ⟨kv, hkv, ekv⟩ := List.mem_map.mp hm
      unfold valV at a
      have z := List.find?_eq_none.mp (Option.map_eq_none_iff.mp a) _ hkv
      exact z (decide_eq_true ekv)
    · rw [b]; rfl
  have h5 : ¬ k < 5 := fun q => by rw [ok.neg k q] at hs; cases hs
  obtain ⟨m, rfl⟩ := Int.eq_ofNat_of_zero_le (show 0 ≤ k by omega)
  have := (ok.new m).mp hs
  omega
def rdB4 (D : DiskS) (z : Int) (i : Nat) : List Int := (List.range i).flatMap fun j : Nat => rdS D (4 * z + (j : Int))
def blkS (S : StS) (z : Int) : List Int := (S.cont z).getD (rdB4 S.dk z 4)
structure Dsk (S : StS) : Prop where
  ok : DiskOk S.dk
  r8 : Rd8 S.dk
  pw : S.dk.pw = true
  bl : S.dk.blocks = S.sp.nums.length
theorem rdB4_len {S : StS} (x : Dsk S) {z : Int} (h0 : 0 ≤ z) (h1 : z < S.sp.nums.length) : ∀ i, i ≤ 4 → (rdB4 S.dk z i).length = 8 * i
  | 0, _ => rfl
  | i + 1, h => by
    have := x.ok.sz
    have := x.bl
    unfold rdB4
    rw [List.range_succ, List.flatMap_append, List.length_append]
    have e := rdB4_len x h0 h1 i (by omega)
    unfold rdB4 at e
    rw [e, List.flatMap_cons, List.flatMap_nil, List.append_nil, x.r8 _ (by omega) (by omega)]
    omega
def sp_Store_read (K : PySem.W.Frag) (C : Ex) : Sp := S2 fun x c H Q E => ∃ A S z, x = .ref A.st ∧ PtrAt K H c z ∧ StAt C H A S ∧ StOk S ∧ Dsk S ∧ (z < 5 ∨ (S.sp.nums.length : Int) ≤ z → E (.ref C.NotValid) none H) ∧
  (5 ≤ z → z < S.sp.nums.length → ∀ l H', Same H H' → H l = none → H' l = some (.lst ((blkS S z).map V.int)) → Q (.ref l) H')
def t_Store_read (K : PySem.W.Frag) (C : Ex) (E : XK) : TS :=
  tSeq (tAsg (tOp (uIx K) (tVar 1) (tC (.int 0))) (gName 2))
  (tSeq (tIfS (tNot (uTru K (uCall (sp_is_between K C) (WB E) (tCons (tVar 2) (tCons (tC (.int 5)) (tCons (tOp (uSub) (uFld C.Space "blocks" (uFld C.Store "space" (tVar 0))) (tC (.int 1))) (tNil))))))) (uRaise C.NotValid (WB E)) (tNext))
  (tSeq (tIfS (tTest (tOp (uIn K) (tVar 2) (uFld C.Store "memory" (tVar 0)))) (tRet (tCB (uList K) (tCons (tDGet (uFld C.Store "memory" (tVar 0)) (tVar 2)) (tNil)))) (tNext))
  (tSeq (tAsg (tLst (tNil)) (gName 3))
  (tSeq (tFor (iRng1 (tCons (tC (.int 4)) (tNil))) (gName 4)
  (tAsg (tOp (uAdd K) (tVar 3) (uMeth C.Disk "read" (sp_Disk_read K C) (WB E) (uFld C.Store "disk" (tVar 0)) (tCons (tOp (uAdd K) (tOp (uMul) (tC (.int 4)) (tVar 2)) (tVar 4)) (tNil)))) (gName 3)))
  (tRet (tVar 3))))))
theorem pure_Store_read {K : PySem.W.Frag} {C : Ex} {vs : List V} {H : Hp} {Q : VK} {E : XK} (F : Fa K C) (h : sp_Store_read K C vs H Q E) : t_Store_read K C E { nx := fun _ H' => Q .non H', rt := Q } (start ["self", "pointer", "number", "words", "part"] vs) H := by
  obtain ⟨x, c, rfl, A, S, z, rfl, ⟨t, y, rfl, ht⟩, hS, ok, dk, k1, k2⟩ := h
  obtain ⟨dx, i⟩ := hS.ins
  obtain ⟨ds, is⟩ := hS.sp.ins
  have hm := hS.mem
  have sz := ok.sz
  have bsz := dk.ok.sz
  have bbl := dk.bl
  unfold stO at i
  unfold spO at is
  unfold t_Store_read
  walk_at "run1"
  refine w_S3 ⟨_, _, rfl, rfl, trivial, ?_⟩
  walk_at "run1"
  refine ifBN (fun h => ?_) (fun h => ?_)
  · walk_at "run1"
    refine k1 ?_
    rcases (show (z < 5 ∨ (S.sp.nums.length : Int) ≤ z) ∨ (5 ≤ z ∧ z ≤ (S.sp.nums.length : Int) - 1) by omega) with q | q
    · exact q
    · rw [btw_int q.1 q.2] at h; cases h
  obtain ⟨z', ez, z0, z1⟩ := btw_inv h
  cases ez
  have k2 := k2 z0 (by omega)
  unfold blkS at k2
  rcases hS.mr.v z with ⟨v1, v2⟩ | ⟨p, ws, v1, v2, v3, v4, v5⟩
  · rw [v2] at k2
    have hv : (valV S.kvs (.inl z)).isSome = false := by rw [v1]; rfl
    walk_at "run1"
    rw [hv]
    walk_at "run1"
    rename_i l hl
    refine f_range (fun j σ H' => ∃ (l : Addr) (v4 : Option V), σ = [some (.ref A.st), some (.ref t), some (.int z), some (.ref l), v4] ∧ Same H H' ∧ H l = none ∧ H' l = some (.lst ((rdB4 S.dk z j).map V.int)))
      ⟨l, none, rfl, same_new hl, hl, upd_same⟩ ?_ ?_
    · rintro j σ H1 hj ⟨l, v4, rfl, s1, hl, e1⟩
      have hj : j < 4 := hj
      have i1 := s1 _ _ i
      obtain ⟨dk1, ik1⟩ := (hS.same s1).dk.ins
      unfold dkO at ik1
      walk_at "run1"
      refine w_read (hS.same s1).dk dk.ok dk.r8 dk.pw (by omega) (by omega) fun p hp H2 s2 e2 => ?_
      have e12 := s2 _ _ e1
      have ll := rdB4_len dk (show 0 ≤ z by omega) (show z < S.sp.nums.length by omega) j (by omega)
      have l8 := dk.r8 (4 * z + (0 + (j : Int))) (by omega) (by omega)
      refine w_cat e12 e2 (by rw [List.length_map, List.length_map]; omega) fun l2 hl2 => ?_
      walk_at "run1"
      have s12 := s1.trans s2
      refine ⟨l2, _, rfl, same_updN s12 hl2, s12.free hl2, ?_⟩
      rw [upd_same]
      unfold rdB4
      rw [List.range_succ, List.flatMap_append, List.map_append, List.flatMap_cons, List.flatMap_nil, List.append_nil, Int.zero_add]
    · rintro σ H1 ⟨l, v4, rfl, s1, hl, e1⟩
      walk_at "run1"
      exact k2 l H1 s1 hl e1
  · rw [v2] at k2
    have hv : (valV S.kvs (.inl z)).isSome = true := by rw [v1]; rfl
    walk_at "run1"
    rw [hv]
    walk_at "run1"
    refine w_dgetI hm v1 ?_
    walk_at "run1"
    refine w_tlist (SqL.of v3) fun l hl => ?_
    exact k2 l _ (same_new hl) hl upd_same
def sp_Store_write (K : PySem.W.Frag) (C : Ex) : Sp := S3 fun x c u H Q E => ∃ A S z g, x = .ref A.st ∧ PtrAt K H c z ∧ WordsV K H u g ∧ StAt C H A S ∧ StOk S ∧ (outB S z ∨ (∃ k : Nat, z = (k : Nat) ∧ newB S k = false) ∨ g = none → E (.ref C.NotValid) none H) ∧
  ∀ (k : Nat) ws, z = (k : Nat) → k < S.sp.nums.length → newB S k = true → g = some ws → ∀ H' l, StAt C H' A (putM S k l ws) → Stp (stF A S) H (stF A (putM S k l ws)) H' → Q .non H'
def t_Store_write (K : PySem.W.Frag) (C : Ex) (E : XK) : TS :=
  tSeq (tIfS (tOr (tNot (uTru K (uMeth C.Store "is_new" (sp_Store_is_new K C) (WB E) (tVar 0) (tCons (tVar 1) (tNil))))) (tNot (uTru K (uCall (sp_are_words K C) (WB E) (tCons (tVar 2) (tCons (tC (.int 32)) (tNil))))))) (uRaise C.NotValid (WB E)) (tNext))
  (sDPut (uFld C.Store "memory" (tVar 0)) (tOp (uIx K) (tVar 1) (tC (.int 0))) (tCB (uList K) (tCons (tVar 2) (tNil))))
theorem pure_Store_write {K : PySem.W.Frag} {C : Ex} {vs : List V} {H : Hp} {Q : VK} {E : XK} (F : Fa K C) (h : sp_Store_write K C vs H Q E) : t_Store_write K C E { nx := fun _ H' => Q .non H', rt := Q } (start ["self", "pointer", "words"] vs) H := by
  obtain ⟨x, c, u, rfl, A, S, z, g, rfl, hc, hw, hS, ok, k1, k2⟩ := h
  obtain ⟨dx, i⟩ := hS.ins
  have hm := hS.mem
  have sz := ok.sz
  have ssz := ok.spo.sz
  unfold stO at i
  unfold t_Store_write
  walk_at "run1"
  refine w_S2 ⟨A, S, z, rfl, hc, hS, ok, fun h => k1 (.inl h), fun k e hk => ?_⟩
  cases e
  cases nb : newB S k with
  | false =>
    walk_at "run1"
    exact k1 (.inr (.inl ⟨k, rfl, nb⟩))
  | true =>
    walk_at "run1"
    refine w_words hw ?_
    cases g with
    | none =>
      walk_at "run1"
      exact k1 (.inr (.inr rfl))
    | some ws =>
      obtain ⟨b, p, rfl, hp⟩ := hw.list
      obtain ⟨t, y, rfl, ht⟩ := hc
      rw [show (some ws).isSome = true from rfl]
      walk_at "run1"
      refine w_tlist hp fun l hl => ?_
      have s1 := same_new (o := .lst (ws.map V.int)) hl
      have e1 : upd H l (.lst (ws.map V.int)) l = some (.lst (ws.map V.int)) := upd_same
      generalize upd H l _ = H1 at *
      have i1 := s1 _ _ i
      have hm1 := s1 _ _ hm
      have ht1 := U.Same.sqt s1 ht
      have kl := kvs_len hS.mr ok
      obtain ⟨g1, g2⟩ := hS.putM (k := (k : Nat)) s1 hl e1 b
      walk_at "run1"
      refine w_dputI hm1 (by omega) ?_
      exact k2 k ws rfl hk nb rfl _ l g1 g2
/-- a block's words stand while the space changes -/
theorem sql_sp {K : PySem.W.Frag} {C : Ex} {H H' : Hp} {p s a b : Addr} {P : SpS} {ws : List Int} {F' : List Addr} (h : SqL K H p (ws.map V.int)) (l : ws.length = 32) (x : SpAt C H s a b P) (n : P.nums.length ≠ 32) (st : Stp (spF s a b) H F' H') : SqL K H' p (ws.map V.int) := by
  obtain ⟨⟨dx, i⟩, ha, hb, _⟩ := x
  rcases h with (h | ⟨o, h⟩) | h
  · refine .inl (.inl (st.1 _ _ h fun hm => ?_))
    simp only [spF, List.mem_cons, List.not_mem_nil, or_false] at hm
    rcases hm with rfl | rfl | rfl
    · rw [i] at h; cases h
    · rw [ha] at h
      have z := congrArg List.length (HO.lst.inj (Option.some.inj h))
      rw [List.length_map, List.length_map] at z
      omega
    · rw [hb] at h
      have z := HO.lst.inj (Option.some.inj h)
      cases ws with
      | nil => cases l
      | cons w ws => cases e : P.held with
        | nil => rw [e] at z; cases z
        | cons q t => rw [e] at z; cases z
  · refine .inl (.inr ⟨o, st.1 _ _ h fun hm => ?_⟩)
    simp only [spF, List.mem_cons, List.not_mem_nil, or_false] at hm
    rcases hm with rfl | rfl | rfl
    · rw [i] at h; cases h
    · rw [ha] at h; cases h
    · rw [hb] at h; cases h
  · exact .inr h
def takeSt (S : StS) (k : Nat) : StS := { S with sp := takeS S.sp k }
def sp_Store_make (K : PySem.W.Frag) (C : Ex) : Sp := S2 fun x u H Q E => ∃ A S g, x = .ref A.st ∧ WordsV K H u g ∧ StAt C H A S ∧ StOk S ∧ (g = none → E (.ref C.NotValid) none H) ∧
  ∀ ws, g = some ws → (((freeL S.sp.nums S.sp.held).length : Int) ≤ S.res → E (.ref C.NoSpace) none H) ∧
    ∀ (k : Nat) t, freeL S.sp.nums S.sp.held = k :: t → S.res < (freeL S.sp.nums S.sp.held).length → ∀ H' l tp, StAt C H' A (putM (takeSt S k) k l ws) → Stp (stF A S) H (stF A (putM (takeSt S k) k l ws)) H' → H tp = none → H' tp = some (.tup [.int (k : Nat), .int (S.gen + 1)]) → Q (.ref tp) H'
def t_Store_make (K : PySem.W.Frag) (C : Ex) (E : XK) : TS :=
  tSeq (tIfS (tNot (uTru K (uCall (sp_are_words K C) (WB E) (tCons (tVar 1) (tCons (tC (.int 32)) (tNil)))))) (uRaise C.NotValid (WB E)) (tNext))
  (tSeq (tAsg (uMeth C.Space "take" (sp_Space_take K C) (WB E) (uFld C.Store "space" (tVar 0)) (tCons (uFld C.Store "reserve" (tVar 0)) (tNil))) (gName 2))
  (tSeq (sDPut (uFld C.Store "memory" (tVar 0)) (tVar 2) (tCB (uList K) (tCons (tVar 1) (tNil))))
  (tRet (tTup (tCons (tVar 2) (tCons (uMeth C.Store "generation" (sp_Store_generation K C) (WB E) (tVar 0) (tNil)) (tNil)))))))
theorem pure_Store_make {K : PySem.W.Frag} {C : Ex} {vs : List V} {H : Hp} {Q : VK} {E : XK} (F : Fa K C) (h : sp_Store_make K C vs H Q E) : t_Store_make K C E { nx := fun _ H' => Q .non H', rt := Q } (start ["self", "words", "number"] vs) H := by
  obtain ⟨x, u, rfl, A, S, g, rfl, hw, hS, ok, k1, k2⟩ := h
  obtain ⟨dx, i⟩ := hS.ins
  obtain ⟨ds, is⟩ := hS.sp.ins
  have sz := ok.sz
  have ssz := ok.spo.sz
  unfold stO at i
  unfold spO at is
  unfold t_Store_make
  walk_at "run1"
  refine w_words hw ?_
  cases g with
  | none =>
    walk_at "run1"
    exact k1 rfl
  | some ws =>
    obtain ⟨k2, k3⟩ := k2 ws rfl
    obtain ⟨b, p, rfl, hp⟩ := hw.list
    rw [show (some ws).isSome = true from rfl]
    walk_at "run1"
    refine w_S2 ⟨A.s, A.sa, A.sb, S.sp, S.res, rfl, rfl, ok.rs, hS.sp, ok.spo, k2, fun k t e hr H1 hS1 st1 => ?_⟩
    obtain ⟨g1, g2⟩ := hS.setSp (by omega) hS1 st1
    have k3 := k3 k t e hr
    obtain ⟨dx1, i1⟩ := g1.ins
    obtain ⟨dh1, ih1⟩ := g1.hd
    have m1 : H1 A.m = some (.dK S.kvs) := g1.mem
    unfold stO at i1
    unfold hdO at ih1
    have kl := kvs_len hS.mr ok
    have hp1 : SqL K H1 p (ws.map V.int) := sql_sp hp b.1 hS.sp (by omega) st1
    walk_at "run1"
    refine w_tlist hp1 fun l hl => ?_
    have s2 := same_new (o := .lst (ws.map V.int)) hl
    have e2 : upd H1 l (.lst (ws.map V.int)) l = some (.lst (ws.map V.int)) := upd_same
    obtain ⟨g3, g4⟩ := g1.putM (k := (k : Nat)) s2 hl e2 b
    generalize upd H1 l _ = H2 at *
    have i2 := s2 _ _ i1
    have m2 := s2 _ _ m1
    walk_at "run1"
    refine w_dputI m2 (by omega) ?_
    have fr : ∀ tp, upd H2 A.m (.dK (putK S.kvs (.inl (k : Nat)) (.ref l))) tp = none → H tp = none := fun tp h => by
      have z := s2.free (none_of_upd h).1
      rcases st1.fresh z with q | q
      · exact absurd q (hS1.fresh z)
      · exact q
    have g3 : StAt C (upd H2 A.m (.dK (putK S.kvs (.inl (k : Nat)) (.ref l)))) A (putM (takeSt S k) k l ws) := g3
    have g5 : Stp (stF A S) H (stF A (putM (takeSt S k) k l ws)) (upd H2 A.m (.dK (putK S.kvs (.inl (k : Nat)) (.ref l)))) := g2.trans g4
    clear g4
    generalize upd H2 A.m _ = H3 at *
    obtain ⟨dx3, i3⟩ := g3.ins
    unfold stO at i3
    walk_at "run1"
    refine w_S1 ⟨A, _, rfl, g3, ?_⟩
    walk_at "run1"
    rename_i tp htp
    exact k3 _ l tp (g3.same (same_new htp)) (g5.trans (.same (same_new htp))) (fr _ htp) upd_same
def sp_Store_next_pointer (K : PySem.W.Frag) (C : Ex) : Sp := S1 fun x H Q E => ∃ A S, x = .ref A.st ∧ StAt C H A S ∧ StOk S ∧ (((freeL S.sp.nums S.sp.held).length : Int) < 1 + S.res → E (.ref C.NoSpace) none H) ∧
  ∀ (k : Nat) t, freeL S.sp.nums S.sp.held = k :: t → 1 + S.res ≤ (freeL S.sp.nums S.sp.held).length → ∀ H' tp, StAt C H' A { S with sp := { S.sp with low := (k : Int) } } → Stp (stF A S) H (stF A S) H' → H tp = none → H' tp = some (.tup [.int (k : Nat), .int (S.gen + 1)]) → Q (.ref tp) H'
def t_Store_next_pointer (K : PySem.W.Frag) (C : Ex) (E : XK) : TS :=
  tSeq (tDrop (uMeth C.Store "require" (sp_Store_require K C) (WB E) (tVar 0) (tCons (tC (.int 1)) (tNil))))
  (tRet (tTup (tCons (uMeth C.Space "least_free" (sp_Space_least_free K C) (WB E) (uFld C.Store "space" (tVar 0)) (tNil)) (tCons (uMeth C.Store "generation" (sp_Store_generation K C) (WB E) (tVar 0) (tNil)) (tNil)))))
theorem pure_Store_next_pointer {K : PySem.W.Frag} {C : Ex} {vs : List V} {H : Hp} {Q : VK} {E : XK} (F : Fa K C) (h : sp_Store_next_pointer K C vs H Q E) : t_Store_next_pointer K C E { nx := fun _ H' => Q .non H', rt := Q } (start ["self"] vs) H := by
  obtain ⟨x, rfl, A, S, rfl, hS, ok, k1, k2⟩ := h
  obtain ⟨dx, i⟩ := hS.ins
  obtain ⟨ds, is⟩ := hS.sp.ins
  have sz := ok.sz
  unfold stO at i
  unfold spO at is
  unfold t_Store_next_pointer
  walk_at "run1"
  refine w_S2 ⟨A, S, 1, rfl, rfl, hS, fun h => k1 h, fun hr => ?_⟩
  walk_at "run1"
  have rs := ok.rs
  refine w_S1 ⟨A.s, A.sa, A.sb, S.sp, rfl, hS.sp, ok.spo, fun e => ?_, fun k t e H1 hS1 st1 => ?_⟩
  · rw [e] at hr
    simp only [List.length_nil] at hr
    omega
  · obtain ⟨g1, g2⟩ := hS.setSp (by omega) hS1 st1
    obtain ⟨dx1, i1⟩ := g1.ins
    unfold stO at i1
    walk_at "run1"
    refine w_S1 ⟨A, _, rfl, g1, ?_⟩
    walk_at "run1"
    rename_i tp htp
    refine k2 k t e hr _ tp (g1.same (same_new htp)) (g2.trans (.same (same_new htp))) ?_ upd_same
    rcases st1.fresh htp with q | q
    · exact absurd q (hS1.fresh htp)
    · exact q
def sp_Store___init__ (K : PySem.W.Frag) (C : Ex) : Sp := S4 fun x d h s H Q _ => ∃ (st dx hd dd a w n ss sa sb : Addr) (D : DiskS) (P : SpS) (g : Int) (ht hb : V), x = .ref st ∧ d = .ref dd ∧ h = .ref hd ∧ s = .ref ss ∧ H st = some (.ins C.Store dx []) ∧ (∃ dh, H hd = some (hdO C dh (.int g) ht hb)) ∧ DiskAt C H dd a w n D ∧ SpAt C H ss sa sb P ∧
  [st, hd, dd, a, w, n, ss, sa, sb].Nodup ∧ ∀ H' m, StAt C H' ⟨st, m, hd, dd, a, w, n, ss, sa, sb⟩ ⟨P, D, [], fun _ => none, g, ht, hb, ht, 60⟩ → (∀ c o, H c = some o → c ≠ st → H' c = some o) → H m = none → Q .non H'
def t_Store___init__ (K : PySem.W.Frag) (C : Ex) (E : XK) : TS :=
  tSeq (uSetF C.Store "disk" (tVar 0) (tVar 1))
  (tSeq (uSetF C.Store "head" (tVar 0) (tVar 2))
  (tSeq (uSetF C.Store "space" (tVar 0) (tVar 3))
  (tSeq (uSetF C.Store "table" (tVar 0) (uFld C.Head "table" (tVar 2)))
  (tSeq (uSetF C.Store "reserve" (tVar 0) (tC (.int 60)))
  (uSetF C.Store "memory" (tVar 0) (tDNewK))))))
theorem pure_Store___init__ {K : PySem.W.Frag} {C : Ex} {vs : List V} {H : Hp} {Q : VK} {E : XK} (F : Fa K C) (h : sp_Store___init__ K C vs H Q E) : t_Store___init__ K C E { nx := fun _ H' => Q .non H', rt := Q } (start ["self", "disk", "head", "space"] vs) H := by
  obtain ⟨x, d, h, s, rfl, st, dx, hd, dd, a, w, n, ss, sa, sb, D, P, g, ht, hb, rfl, rfl, rfl, rfl, i, ⟨dh, ih⟩, hD, hP, nd, k⟩ := h
  have nds := nd
  simp only [List.nodup_cons, List.mem_cons, List.not_mem_nil, or_false, not_or] at nds
  have nh : hd ≠ st := Ne.symm nds.1.1
  have ih0 := ih
  unfold hdO at ih
  unfold t_Store___init__
  walk_at "run1"
  generalize hH1 : upd (upd (upd H st _) st _) st _ = H1 at *
  have f1 : ∀ c o, H c = some o → c ≠ st → H1 c = some o := fun c o h n => by rw [← hH1]; exact upd_oth (upd_oth (upd_oth h n) n) n
  have i1 : H1 st = some (.ins C.Store dx [("disk", .ref dd), ("head", .ref hd), ("space", .ref ss)]) := by rw [← hH1]; exact upd_same
  have ih1 := f1 _ _ ih nh
  clear hH1
  walk_at "run1"
  rename_i m hm
  generalize hH2 : upd (upd (upd (upd H1 st _) st _) m _) st _ = H2 at *
  have hm0 : H m = none := by
    have z := (none_of_upd (none_of_upd hm).1)
    cases e : H m with
    | none => rfl
    | some o => rw [f1 m o e z.2] at z; cases z.1
  have f2 : ∀ c o, H c = some o → c ≠ st → H2 c = some o := fun c o h n => by
    rw [← hH2]
    exact upd_oth (upd_old (upd_oth (upd_oth (f1 c o h n) n) n) hm) n
  have nm : m ≠ st := (none_of_upd hm).2
  have sf : ∀ c o, H c = some o → c ≠ m := fun c o h q => by rw [q, hm0] at h; cases h
  refine k H2 m ⟨⟨dx, by rw [← hH2]; exact upd_same⟩, by rw [← hH2]; exact upd_oth upd_same nm, ⟨dh, f2 _ _ ih0 nh⟩, ?_, ?_, ?_, ⟨(fun kv hk => by cases hk), List.nodup_nil, fun k => .inl ⟨rfl, rfl⟩⟩⟩ f2 hm0
  · refine hD.frame (X := [st]) (fun b o h q => f2 b o h fun z => q (by rw [z]; simp)) (fun b hb => ?_) (fun b hb => ?_)
    · rw [List.mem_singleton.mp hb]
      simp only [dkF, List.mem_cons, List.not_mem_nil, or_false, not_or]
      exact ⟨nds.1.2.1, nds.1.2.2.1, nds.1.2.2.2.1, nds.1.2.2.2.2.1⟩
    · rw [List.mem_singleton.mp hb]
      exact ⟨_, i, plain_ins⟩
  · obtain ⟨⟨dp, x1⟩, x2, x3, x4⟩ := hP
    exact ⟨⟨dp, f2 _ _ x1 (Ne.symm nds.1.2.2.2.2.2.1)⟩, f2 _ _ x2 (Ne.symm nds.1.2.2.2.2.2.2.1), f2 _ _ x3 (Ne.symm nds.1.2.2.2.2.2.2.2), x4⟩
  · obtain ⟨⟨_, y1⟩, ⟨_, y2, _⟩, ⟨_, y3, _⟩, ⟨_, y4, _⟩, _⟩ := hD
    obtain ⟨⟨_, z1⟩, z2, z3, _⟩ := hP
    have e : ([st, m, hd, dd, a, w, n, ss, sa, sb] : List Addr).Nodup := by
      have nd' := nd
      rw [List.nodup_cons] at nd' ⊢
      rw [List.nodup_cons]
      refine ⟨?_, ?_, nd'.2⟩
      · intro q
        rcases List.mem_cons.mp q with q | q
        · exact nm q.symm
        · exact nd'.1 q
      · intro q
        simp only [List.mem_cons, List.not_mem_nil, or_false] at q
        rcases q with q | q | q | q | q | q | q | q
        · exact sf _ _ ih0 q.symm
        · exact sf _ _ y1 q.symm
        · exact sf _ _ y2 q.symm
        · exact sf _ _ y3 q.symm
        · exact sf _ _ y4 q.symm
        · exact sf _ _ z1 q.symm
        · exact sf _ _ z2 q.symm
        · exact sf _ _ z3 q.symm
    exact e
def sp_Store_new_blocks (K : PySem.W.Frag) (C : Ex) : Sp := S1 fun x H Q _ => ∃ A S, x = .ref A.st ∧ StAt C H A S ∧ StOk S ∧ S.kvs.length < 64 ∧ ∀ l H', Same H H' → H l = none → H' l = some (.lst (((List.range S.sp.nums.length).filter fun i => (S.cont (i : Nat)).isSome).map fun i => V.int (i : Nat))) → Q (.ref l) H'
theorem filt_sorted (n : Nat) (f : Nat → Bool) : ((List.range n).filter f).Pairwise (· < ·) := List.Pairwise.filter _ List.pairwise_lt_range
/-- two ascending lists with the same members -/
theorem sorted_eq : ∀ (l m : List Int), l.Pairwise (· < ·) → m.Pairwise (· < ·) → (∀ x, x ∈ l ↔ x ∈ m) → l = m
  | [], [], _, _, _ => rfl
  | [], b :: m, _, _, h => by have := (h b).mpr (List.mem_cons_self ..); cases this
  | a :: l, [], _, _, h => by have := (h a).mp (List.mem_cons_self ..); cases this
  | a :: l, b :: m, hl, hm, h => by
    have hl := List.pairwise_cons.mp hl
    have hm := List.pairwise_cons.mp hm
    have e : a = b := by
      rcases List.mem_cons.mp ((h a).mp (List.mem_cons_self ..)) with q | q
      · exact q
      · rcases List.mem_cons.mp ((h b).mpr (List.mem_cons_self ..)) with r | r
        · exact r.symm
        · have := hm.1 a q
          have := hl.1 b r
          omega
    subst e
    rw [sorted_eq l m hl.2 hm.2 fun x => ?_]
    refine ⟨fun q => ?_, fun q => ?_⟩
    · rcases List.mem_cons.mp ((h x).mp (List.mem_cons_of_mem _ q)) with r | r
      · have := hl.1 x q
        omega
      · exact r
    · rcases List.mem_cons.mp ((h x).mpr (List.mem_cons_of_mem _ q)) with r | r
      · have := hm.1 x q
        omega
      · exact r
theorem mem_keys {H : Hp} {B : List Addr} {kvs : List (Key × V)} {cont : Int → Option (List Int)} (x : MemAt H B kvs cont) {ks : List Int} (e : kvs.map (·.1) = ks.map Sum.inl) (k : Int) : k ∈ ks ↔ (cont k).isSome = true := by
  refine ⟨fun h => ?_, fun h => ?_⟩
  · rcases x.v k with ⟨a, _⟩ | ⟨_, _, _, b, _⟩
    · exfalso
      have hm : (Sum.inl k : Key) ∈ kvs.map (·.1) := by rw [e]; exact List.mem_map.mpr ⟨k, h, rfl⟩
      obtain ⟨kv, hkv, ekv⟩ := List.mem_map.mp hm
      unfold valV at a
      have z := List.find?_eq_none.mp (Option.map_eq_none_iff.mp a) _ hkv
      exact z (decide_eq_true ekv)
    · rw [b]; rfl
  · rcases x.v k with ⟨_, b⟩ | ⟨p, _, a, _⟩
    · rw [b] at h; cases h
    · unfold valV at a
      obtain ⟨kv, hf, _⟩ := Option.map_eq_some_iff.mp a
      have h1 := List.mem_of_find?_eq_some hf
      have h2 : kv.1 = Sum.inl k := by simpa using List.find?_some hf
      have : (Sum.inl k : Key) ∈ ks.map Sum.inl := by rw [← e, ← h2]; exact List.mem_map.mpr ⟨kv, h1, rfl⟩
      obtain ⟨k', hk', ek⟩ := List.mem_map.mp this
      cases ek
      exact hk'
theorem int_keys {H : Hp} {B : List Addr} {kvs : List (Key × V)} {cont : Int → Option (List Int)} (x : MemAt H B kvs cont) : ∃ ks : List Int, kvs.map (·.1) = ks.map Sum.inl ∧ ks.Nodup := by
  have e : ∃ ks : List Int, kvs.map (·.1) = ks.map Sum.inl := by
    have z := x.ks
    clear x
    induction kvs with
    | nil => exact ⟨[], rfl⟩
    | cons a t ih =>
      obtain ⟨ks, e⟩ := ih fun kv hk => z kv (List.mem_cons_of_mem _ hk)
      obtain ⟨k, ek⟩ := z a (List.mem_cons_self ..)
      exact ⟨k :: ks, by rw [List.map_cons, List.map_cons, e, ek]⟩
  obtain ⟨ks, e⟩ := e
  refine ⟨ks, e, ?_⟩
  have z := x.nd
  rw [e] at z
  exact (List.pairwise_map.mp z).imp fun h e => h (by rw [e])
def t_Store_new_blocks (K : PySem.W.Frag) (C : Ex) (E : XK) : TS :=
  tRet (tCB uSortD (tCons (uFld C.Store "memory" (tVar 0)) (tNil)))
theorem pure_Store_new_blocks {K : PySem.W.Frag} {C : Ex} {vs : List V} {H : Hp} {Q : VK} {E : XK} (F : Fa K C) (h : sp_Store_new_blocks K C vs H Q E) : t_Store_new_blocks K C E { nx := fun _ H' => Q .non H', rt := Q } (start ["self"] vs) H := by
  obtain ⟨x, rfl, A, S, rfl, hS, ok, hl, k⟩ := h
  obtain ⟨dx, i⟩ := hS.ins
  have hm := hS.mem
  unfold stO at i
  obtain ⟨ks, ek, nd⟩ := int_keys hS.mr
  unfold t_Store_new_blocks
  walk_at "run1"
  refine ⟨A.m, S.kvs, ks, rfl, .inl hm, ek, ?_, fun ys p py sy hp => ?_⟩
  · have z := congrArg List.length ek
    rw [List.length_map, List.length_map] at z
    omega
  · have e : ys = ((List.range S.sp.nums.length).filter fun i => (S.cont (i : Nat)).isSome).map fun i => ((i : Nat) : Int) := by
      refine sorted_eq _ _ ?_ ?_ fun z => ?_
      · have ny : ys.Nodup := py.nodup_iff.mpr nd
        exact (sy.and ny).imp fun h => by have := h.1; have := h.2; omega
      · exact List.pairwise_map.mpr ((filt_sorted _ _).imp fun h => by omega)
      · rw [py.mem_iff, mem_keys hS.mr ek]
        refine ⟨fun h => ?_, fun h => ?_⟩
        · have h5 : ¬ z < 5 := fun q => by rw [ok.neg z q] at h; cases h
          obtain ⟨m, rfl⟩ := Int.eq_ofNat_of_zero_le (show 0 ≤ z by omega)
          exact List.mem_map.mpr ⟨m, List.mem_filter.mpr ⟨List.mem_range.mpr ((ok.new m).mp h).1, h⟩, rfl⟩
        · obtain ⟨m, hm, rfl⟩ := List.mem_map.mp h
          exact (List.mem_filter.mp hm).2
    refine k p _ (same_new hp) hp ?_
    rw [upd_same, e, List.map_map]
    rfl
theorem getD_set {l : List Int} {k i : Nat} {z : Int} (hk : k < l.length) : (l.set k z).getD i 0 = if i = k then z else l.getD i 0 := by
  by_cases q : k = i
  · subst q
    rw [if_pos rfl, List.getD_eq_getElem?_getD, List.getElem?_set_self hk]
    rfl
  · rw [if_neg (Ne.symm q), List.getD_eq_getElem?_getD, List.getElem?_set_ne q, ← List.getD_eq_getElem?_getD]
theorem share_st {S : StS} {k : Nat} (ok : StOk S) (h5 : 5 ≤ k) (hk : k < S.sp.nums.length) (h0 : S.sp.nums.getD k 0 ≠ 0) : StOk { S with sp := shareS S.sp k } := by
  have nn := getD_nn ok.spo.nn k
  have hl : (S.sp.nums.set k (S.sp.nums.getD k 0 + 1)).length = S.sp.nums.length := List.length_set ..
  refine ⟨shareS_ok ok.spo hk h0, hl.symm ▸ ok.sz, ok.rs, fun i => ?_, ok.neg, fun i hi => ?_⟩
  · show (S.cont i).isSome = true ↔ i < (S.sp.nums.set k (S.sp.nums.getD k 0 + 1)).length ∧ 0 < (S.sp.nums.set k (S.sp.nums.getD k 0 + 1)).getD i 0 ∧ S.sp.held.getD i false = false
    rw [hl, getD_set hk, ok.new i]
    by_cases q : i = k
    · subst q
      rw [if_pos rfl]
      exact ⟨fun h => ⟨h.1, by omega, h.2.2⟩, fun h => ⟨h.1, by omega, h.2.2⟩⟩
    · rw [if_neg q]
  · show 0 < (S.sp.nums.set k (S.sp.nums.getD k 0 + 1)).getD i 0 ∧ _
    rw [getD_set hk, if_neg (by omega)]
    exact ok.lo5 i hi
theorem drop_st {S : StS} {k : Nat} (ok : StOk S) (h5 : 5 ≤ k) (hk : k < S.sp.nums.length) (h0 : S.sp.nums.getD k 0 ≠ 0) : StOk (dropSt S k) := by
  have nn := getD_nn ok.spo.nn k
  have hl : (S.sp.nums.set k (S.sp.nums.getD k 0 - 1)).length = S.sp.nums.length := List.length_set ..
  have lo : ∀ i : Nat, i < 5 → 0 < (S.sp.nums.set k (S.sp.nums.getD k 0 - 1)).getD i 0 ∧ S.sp.held.getD i false = true := fun i hi => by
    rw [getD_set hk, if_neg (by omega)]
    exact ok.lo5 i hi
  unfold dropSt
  split
  · rename_i q0
    refine ⟨dropS_ok ok.spo hk h0, hl.symm ▸ ok.sz, ok.rs, fun i => ?_, fun j hj => ?_, lo⟩
    · show (if (i : Int) = (k : Nat) then none else S.cont i).isSome = true ↔ i < (S.sp.nums.set k (S.sp.nums.getD k 0 - 1)).length ∧ 0 < (S.sp.nums.set k (S.sp.nums.getD k 0 - 1)).getD i 0 ∧ S.sp.held.getD i false = false
      rw [hl, getD_set hk]
      by_cases q : i = k
      · subst q
        rw [if_pos rfl, if_pos rfl]
        exact ⟨fun h => (by cases h), fun h => by have := h.2.1; omega⟩
      · rw [if_neg (by omega), if_neg q, ok.new i]
    · show (if j = (k : Nat) then none else S.cont j) = none
      split
      · rfl
      · exact ok.neg j hj
  · rename_i q0
    refine ⟨dropS_ok ok.spo hk h0, hl.symm ▸ ok.sz, ok.rs, fun i => ?_, ok.neg, lo⟩
    show (S.cont i).isSome = true ↔ i < (S.sp.nums.set k (S.sp.nums.getD k 0 - 1)).length ∧ 0 < (S.sp.nums.set k (S.sp.nums.getD k 0 - 1)).getD i 0 ∧ S.sp.held.getD i false = false
    rw [hl, getD_set hk, ok.new i]
    by_cases q : i = k
    · subst q
      rw [if_pos rfl]
      exact ⟨fun h => ⟨h.1, by omega, h.2.2⟩, fun h => ⟨h.1, by omega, h.2.2⟩⟩
    · rw [if_neg q]
theorem make_st {S : StS} {k : Nat} {t : List Nat} {l : Addr} {ws : List Int} (ok : StOk S) (e : freeL S.sp.nums S.sp.held = k :: t) : StOk (putM (takeSt S k) k l ws) := by
  obtain ⟨hk, hf, _⟩ := freeL_head e
  have hl : (S.sp.nums.set k 1).length = S.sp.nums.length := List.length_set ..
  unfold isFr at hf
  obtain ⟨f1, f2⟩ := Bool.and_eq_true_iff.mp hf
  have f1 := of_decide_eq_true f1
  have f2 : S.sp.held.getD k false = false := by simpa using f2
  have h5 : 5 ≤ k := by
    rcases Nat.lt_or_ge k 5 with q | q
    · have := (ok.lo5 k q).1
      omega
    · exact q
  refine ⟨takeS_ok ok.spo e, hl.symm ▸ ok.sz, ok.rs, fun i => ?_, fun j hj => ?_, fun i hi => ?_⟩
  · show (if (i : Int) = (k : Nat) then some ws else S.cont i).isSome = true ↔ i < (S.sp.nums.set k 1).length ∧ 0 < (S.sp.nums.set k 1).getD i 0 ∧ S.sp.held.getD i false = false
    rw [hl, getD_set hk]
    by_cases q : i = k
    · subst q
      rw [if_pos rfl, if_pos rfl]
      exact ⟨fun _ => ⟨hk, by decide, f2⟩, fun _ => rfl⟩
    · rw [if_neg (by omega), if_neg q, ok.new i]
  · show (if j = (k : Nat) then some ws else S.cont j) = none
    rw [if_neg (by omega)]
    exact ok.neg j hj
  · show 0 < (S.sp.nums.set k 1).getD i 0 ∧ _
    rw [getD_set hk, if_neg (by omega)]
    exact ok.lo5 i hi
theorem write_st {S : StS} {k : Nat} {l : Addr} {ws : List Int} (ok : StOk S) (hk : k < S.sp.nums.length) (nb : newB S k = true) : StOk (putM S k l ws) := by
  unfold newB at nb
  obtain ⟨n1, n2⟩ := Bool.and_eq_true_iff.mp nb
  obtain ⟨n1, n3⟩ := Bool.and_eq_true_iff.mp n1
  have n1 := of_decide_eq_true n1
  have n3 : S.sp.held.getD k false = false := by simpa using n3
  have h5 : 5 ≤ k := by
    rcases Nat.lt_or_ge k 5 with q | q
    · have := (ok.lo5 k q).2
      rw [n3] at this
      cases this
    · exact q
  refine ⟨ok.spo, ok.sz, ok.rs, fun i => ?_, fun j hj => ?_, ok.lo5⟩
  · show (if (i : Int) = (k : Nat) then some ws else S.cont i).isSome = true ↔ _
    by_cases q : i = k
    · subst q
      rw [if_pos rfl]
      exact ⟨fun _ => ⟨hk, n1, n3⟩, fun _ => rfl⟩
    · rw [if_neg (by omega)]
      exact ok.new i
  · show (if j = (k : Nat) then some ws else S.cont j) = none
    rw [if_neg (by omega)]
    exact ok.neg j hj
theorem low_st {S : StS} {k : Nat} {t : List Nat} (ok : StOk S) (e : freeL S.sp.nums S.sp.held = k :: t) : StOk { S with sp := { S.sp with low := (k : Int) } } := by
  refine ⟨⟨ok.spo.len, ok.spo.nn, by show 0 ≤ (k : Int); omega, fun i hi => (freeL_head e).2.2 i (by have hi : (i : Int) < k := hi; omega), ok.spo.sz⟩, ok.sz, ok.rs, ok.new, ok.neg, ok.lo5⟩
theorem res_st {S : StS} {z : Int} (ok : StOk S) (h : 0 ≤ z) : StOk { S with res := z } := ⟨ok.spo, ok.sz, h, ok.new, ok.neg, ok.lo5⟩
/-- all objects that the store writes are plain -/
theorem StAt.plain {C : Ex} {H : Hp} {A : SA} {S : StS} (x : StAt C H A S) (l : S.sp.nums.length ≠ 8) : ∀ b ∈ stF A S, ∃ o, H b = some o ∧ Plain o := by
  obtain ⟨⟨_, x1⟩, x2, ⟨_, x3⟩, ⟨⟨_, y1⟩, ⟨_, y2, r2⟩, ⟨_, y3, r3⟩, ⟨_, y4, _⟩, _⟩, ⟨⟨_, z1⟩, z2, z3, _⟩, _, mr⟩ := x
  intro b hb
  rcases List.mem_append.mp hb with hb | hb
  · simp only [SA.all, List.mem_cons, List.not_mem_nil, or_false] at hb
    rcases hb with rfl | rfl | rfl | rfl | rfl | rfl | rfl | rfl | rfl | rfl
    · exact ⟨_, x1, plain_ins⟩
    · exact ⟨_, x2, plain_dK⟩
    · exact ⟨_, x3, plain_ins⟩
    · exact ⟨_, y1, plain_ins⟩
    · exact ⟨_, y2, plain_refs r2.ref⟩
    · exact ⟨_, y3, plain_refs r3.ref⟩
    · exact ⟨_, y4, plain_dK⟩
    · exact ⟨_, z1, plain_ins⟩
    · exact ⟨_, z2, plain_len l⟩
    · exact ⟨_, z3, plain_bl⟩
  · obtain ⟨ws, e, b32, _⟩ := mr.at_ hb
    exact ⟨_, e, plain_len (by have := b32.1; omega)⟩
theorem StAt.row {C : Ex} {H H' : Hp} {A : SA} {S : StS} {F' : List Addr} {v : V} {r : List Int} (x : StAt C H A S) (l : S.sp.nums.length ≠ 8) (st : Stp (stF A S) H F' H') (h : RowAt H v r) : RowAt H' v r := by
  obtain ⟨l8, p, rfl, e⟩ := h
  refine ⟨l8, p, rfl, st.1 _ _ e fun hp => ?_⟩
  obtain ⟨o, ho, po⟩ := x.plain l p hp
  rw [e] at ho
  exact po.1 r l8 (Option.some.inj ho)
inductive Rs where
  | non
  | int (z : Int)
  | bl (b : Bool)
  | ref (t : Str)
  deriving DecidableEq
def RepRs (H : Hp) (v : V) : Rs → Prop
  | .non => v = .non
  | .int z => v = .int z
  | .bl b => v = .bl b
  | .ref t => ∃ p, v = .ref p ∧ H p = some (.lst [.str "refused", .str t])
theorem RepRs.same {H H' : Hp} {v : V} : ∀ {r : Rs}, RepRs H v r → Same H H' → RepRs H' v r
  | .non, h, _ => h
  | .int _, h, _ => h
  | .bl _, h, _ => h
  | .ref _, ⟨p, e, h⟩, s => ⟨p, e, s _ _ h⟩
abbrev natV (l : List Nat) : List V := l.map fun i => V.int (i : Nat)
theorem w_cutS {D : Ends} {σ : L2.St} {H : Hp} {t u : TS} (h : tSeq t u D σ H) : tCut t u D σ H := ⟨u D, h, fun _ _ h => h⟩
theorem dt_strs {K : PySem.W.Frag} {H : Hp} {p : Addr} {x y : Str} (e : H p = some (.lst [.str x, .str y])) : Dt K H (.ref p) [x, y] := Dt.list (SqL.of e) (DtAll.cons Dt.str (DtAll.cons Dt.str DtAll.nil))
theorem w_neIL {K : PySem.W.Frag} {H : Hp} {Q : VK} {n : Int} {p : Addr} {x y : Str} (e : H p = some (.lst [.str x, .str y])) (h : Q (.bl true) H) : uNe K (.int n) (.ref p) H Q := by
  refine w_neP ⟨PySem.W.Datum.toD n, PySem.W.Datum.toD [x, y], Dt.int, dt_strs e, ⟨PySem.W.Datum.plain n, Nat.le_trans (PySem.W.Datum.depth_le n) (by decide)⟩, PySem.W.Datum.plain [x, y], ?_⟩
  have z : PyData.eqv (PySem.W.Datum.toD n) (PySem.W.Datum.toD [x, y]) = false := by
    first | rfl | (simp [PySem.W.Datum.toD, PyData.eqv])
  rw [z]
  exact h
def sp__law_same (K : PySem.W.Frag) (_ : Ex) : Sp := S2 fun x u H Q _ => ∃ r, RepRs H x r ∧ RepRs H u r ∧ Q (.bl true) H
def t__law_same (K : PySem.W.Frag) (C : Ex) (E : XK) : TS :=
  tSeq (tIfS (tTest (tOp (uIs) (tVar 1) (tC .non))) (tRet (tOp (uIs) (tVar 0) (tC .non))) (tNext))
  (tRet (tAndV (tOp (uEq K) (tCB (uIsi K .bool) (tCons (tVar 0) (tCons (tC (.ty "bool")) (tNil)))) (tCB (uIsi K .bool) (tCons (tVar 1) (tCons (tC (.ty "bool")) (tNil))))) (tOp (uEq K) (tVar 0) (tVar 1))))
theorem pure__law_same {K : PySem.W.Frag} {C : Ex} {vs : List V} {H : Hp} {Q : VK} {E : XK} (F : Fa K C) (h : sp__law_same K C vs H Q E) : t__law_same K C E { nx := fun _ H' => Q .non H', rt := Q } (start ["_law_told", "_law_due_here"] vs) H := by
  obtain ⟨x, u, rfl, r, h1, h2, k⟩ := h
  unfold t__law_same
  cases r with
  | non =>
    obtain rfl := h1
    obtain rfl := h2
    walk_at "run1"
    exact k
  | int z =>
    obtain rfl := h1
    obtain rfl := h2
    walk_at "run1"
    rw [decide_eq_true rfl]
    exact k
  | bl z =>
    obtain rfl := h1
    obtain rfl := h2
    walk_at "run1"
    rw [decide_eq_true rfl]
    exact k
  | ref t =>
    obtain ⟨p1, rfl, e1⟩ := h1
    obtain ⟨p2, rfl, e2⟩ := h2
    walk_at "run1"
    refine w_isiO (n := .bool) .list (tyx_list (SqL.of e1)) ?_
    walk_at "run1"
    refine w_isiO (n := .bool) .list (tyx_list (SqL.of e2)) ?_
    walk_at "run1"
    refine w_eqD (dt_strs e1) (dt_strs e2) (by decide) ⟨_, rfl⟩ ?_
    rw [decide_eq_true rfl]
    exact k
def blkF (n e : Int) : List Int := (List.range 32).map fun j : Nat => (n * ((j : Int) + 2) + e * (j : Int) * (j : Int) + (j : Int)) % 2003
theorem blkF_blk (n e : Int) : Blk (blkF n e) := ⟨by unfold blkF; rw [List.length_map, List.length_range], fun z hz => by
  unfold blkF at hz
  obtain ⟨j, _, rfl⟩ := List.mem_map.mp hz
  exact Int.emod_nonneg _ (by decide)⟩
def sp__law_block (K : PySem.W.Frag) (_ : Ex) : Sp := S2 fun a b H Q _ => ∃ n e : Int, a = .int n ∧ b = .int e ∧ (0 ≤ n ∧ n < 1000) ∧ (0 ≤ e ∧ e < 1000) ∧ ∀ l, H l = none → ∀ H', Same H H' → H' l = some (.lst ((blkF n e).map V.int)) → Q (.ref l) H'
def t__law_block (K : PySem.W.Frag) (C : Ex) (E : XK) : TS :=
  tRet (tLc (iRng1 (tCons (tC (.int 32)) (tNil))) (gName 2) (tYes) (tOp (uMod) (tCB (uInt) (tCons (tOp (uAdd K) (tOp (uAdd K) (tOp (uMul) (tVar 0) (tOp (uAdd K) (tVar 2) (tC (.int 2)))) (tOp (uMul) (tOp (uMul) (tVar 1) (tVar 2)) (tVar 2))) (tVar 2)) (tNil))) (tC (.int 2003))) [2])
theorem pure__law_block {K : PySem.W.Frag} {C : Ex} {vs : List V} {H : Hp} {Q : VK} {E : XK} (F : Fa K C) (h : sp__law_block K C vs H Q E) : t__law_block K C E { nx := fun _ H' => Q .non H', rt := Q } (start ["_law_number", "_law_extra", "_law_j"] vs) H := by
  obtain ⟨a, b, rfl, n, e, rfl, rfl, n0, e0, k⟩ := h
  unfold t__law_block
  walk_at "run1"
  refine l_range (fun b i H1 => Same H H1 ∧ H1 b = some (.lst (((List.range i).map fun j : Nat => (n * ((j : Int) + 2) + e * (j : Int) * (j : Int) + (j : Int)) % 2003).map V.int))) (fun b hb => ⟨same_new hb, upd_same⟩) ?_ ?_
  · rintro D i H1 hD hi ⟨s1, e1⟩
    have hi : i < 32 := hi
    walk_at "run1"
    refine ⟨rfl, ?_⟩
    walk_at "run1"
    refine ⟨_, e1, by rw [List.length_map, List.length_map, List.length_range]; exact lt_line (by omega), same_upd s1 hD, ?_⟩
    rw [upd_same, List.range_succ, List.map_append, List.map_append, Int.zero_add]
    rfl
  · rintro D H1 hD ⟨s1, e1⟩
    exact k D hD H1 s1 e1
def sp__law_is_block (K : PySem.W.Frag) (_ : Ex) : Sp := S2 fun a b H Q _ => ∃ (p q : Addr) (ws : List Int), a = .ref p ∧ b = .ref q ∧ SqL K H p (ws.map V.int) ∧ SqL K H q (ws.map V.int) ∧ ws.length = 32 ∧ Q (.bl true) H
def t__law_is_block (K : PySem.W.Frag) (C : Ex) (E : XK) : TS :=
  tSeq (tIfS (tOr (tNot (uTru K (tCB (uIsi K .list) (tCons (tVar 0) (tCons (tC (.ty "list")) (tNil)))))) (tTest (tOp (uNe K) (tCB (uLen K) (tCons (tVar 0) (tNil))) (tC (.int 32))))) (tRet (tC (.bl false))) (tNext))
  (tSeq (tFor (iRng1 (tCons (tC (.int 32)) (tNil))) (gName 2)
  (tIfS (tOr (tNot (uTru K (tCB (uIsi K .int) (tCons (tOp (uIx K) (tVar 0) (tVar 2)) (tCons (tC (.ty "int")) (tNil)))))) (tOr (uTru K (tCB (uIsi K .bool) (tCons (tOp (uIx K) (tVar 0) (tVar 2)) (tCons (tC (.ty "bool")) (tNil))))) (tTest (tOp (uNe K) (tOp (uIx K) (tVar 0) (tVar 2)) (tOp (uIx K) (tVar 1) (tVar 2)))))) (tRet (tC (.bl false))) (tNext)))
  (tRet (tC (.bl true))))
theorem pure__law_is_block {K : PySem.W.Frag} {C : Ex} {vs : List V} {H : Hp} {Q : VK} {E : XK} (F : Fa K C) (h : sp__law_is_block K C vs H Q E) : t__law_is_block K C E { nx := fun _ H' => Q .non H', rt := Q } (start ["_law_told", "_law_due_here", "_law_j"] vs) H := by
  obtain ⟨a, b, rfl, p, q, ws, rfl, rfl, hp, hq, l, k⟩ := h
  unfold t__law_is_block
  walk_at "run1"
  refine w_isi_list_L hp ?_
  have l' : (ws.map V.int).length = 32 := by rw [List.length_map, l]
  walk_at "run1"
  · rename_i h
    exact absurd (by rw [l']; rfl) h
  walk_at "run1"
  refine f_range (fun i σ H' => H' = H ∧ ∃ v, σ = [some (.ref p), some (.ref q), v]) ⟨rfl, none, rfl⟩ ?_ ?_
  · rintro i σ H' hi ⟨e, v, rfl⟩
    rw [e]
    clear e
    have hi : i < 32 := hi
    walk_at "run1"
    exact ⟨rfl, _, rfl⟩
  · rintro σ H' ⟨e, v, rfl⟩
    rw [e]
    walk_at "run1"
    exact k
/-- the four rows of a block -/
def putB (D : DiskS) (n : Int) (ws : List Int) : Nat → DiskS
  | 0 => D
  | i + 1 => pushW (putB D n ws i) (4 * n + (i : Int)) ((ws.drop (8 * i)).take 8)
theorem putB_secs {D : DiskS} {n : Int} {ws : List Int} : ∀ i, (putB D n ws i).secs = D.secs
  | 0 => rfl
  | i + 1 => putB_secs i
theorem putB_on {D : DiskS} {b : Int} {m : Nat} {n : Int} {ws : List Int} (o : DskOn D b m) (h0 : 0 ≤ n) (h1 : 4 * n + 4 ≤ D.secs.length) (l : ws.length = 32) (hm : m + 4 < 100000) : ∀ i, i ≤ 4 → DskOn (putB D n ws i) b (m + i)
  | 0, _ => o
  | i + 1, hi => (putB_on o h0 h1 l hm i (by omega)).push (by omega) (by omega) (by rw [putB_secs]; omega) (by rw [List.length_take, List.length_drop, l]; omega)
theorem cutV_ints {ws : List Int} {i j : Nat} (h : i ≤ j) (hj : j ≤ ws.length) : cutV (ws.map V.int) (some (i : Int)) (some (j : Int)) = ((ws.drop i).take (j - i)).map V.int := by
  rw [cut_mid _ _ _ h (by rw [List.length_map]; exact hj), List.map_take, List.map_drop]
def sp__law_put_block (K : PySem.W.Frag) (C : Ex) : Sp := S3 fun x b c H Q _ => ∃ (d a w n q : Addr) (D : DiskS) (k : Int) (m : Nat) (bl : Int) (ws : List Int), x = .ref d ∧ b = .int k ∧ c = .ref q ∧ DiskAt C H d a w n D ∧ DskOn D bl m ∧ m + 4 < 100000 ∧ 0 ≤ k ∧ 4 * k + 4 ≤ D.secs.length ∧ H q = some (.lst (ws.map V.int)) ∧ Blk ws ∧ q ∉ dkF d a w n ∧
  ∀ H', DiskAt C H' d a w n (putB D k ws 4) → Stp (dkF d a w n) H (dkF d a w n) H' → Q .non H'
def t__law_put_block (K : PySem.W.Frag) (C : Ex) (E : XK) : TS :=
  tFor (iRng1 (tCons (tC (.int 4)) (tNil))) (gName 3)
  (tDrop (uMeth C.Disk "write" (sp_Disk_write K C) (WB E) (tVar 0) (tCons (tOp (uAdd K) (tOp (uMul) (tC (.int 4)) (tVar 1)) (tVar 3)) (tCons (tSl (uSl K) (tVar 2) (tPart (tOp (uMul) (tC (.int 8)) (tVar 3))) (tPart (tOp (uAdd K) (tOp (uMul) (tC (.int 8)) (tVar 3)) (tC (.int 8))))) (tNil)))))
theorem pure__law_put_block {K : PySem.W.Frag} {C : Ex} {vs : List V} {H : Hp} {Q : VK} {E : XK} (F : Fa K C) (h : sp__law_put_block K C vs H Q E) : t__law_put_block K C E { nx := fun _ H' => Q .non H', rt := Q } (start ["_law_disk", "_law_number", "_law_words", "_law_part"] vs) H := by
  obtain ⟨x, b, c, rfl, d, a, w, n, q, D, k, m, bl, ws, rfl, rfl, rfl, hD, on, hm, k0, k1, hq, bw, nq, kk⟩ := h
  unfold t__law_put_block
  walk_at "run1"
  refine f_range (fun i σ H' => (∃ v, σ = [some (.ref d), some (.int k), some (.ref q), v]) ∧ DiskAt C H' d a w n (putB D k ws i) ∧ Stp (dkF d a w n) H (dkF d a w n) H') ⟨⟨none, rfl⟩, hD, .refl⟩ ?_ ?_
  · rintro i σ H1 hi ⟨⟨v, rfl⟩, hD1, st1⟩
    have hi : i < 4 := hi
    obtain ⟨dx, i1⟩ := hD1.ins
    unfold dkO at i1
    have hq1 := (st1.keep hq nq).1
    walk_at "run1"
    refine w_slL (SqL.of hq1) fun l hl => ?_
    rw [show 8 * (0 + (i : Int)) = ((8 * i : Nat) : Int) by omega, show ((8 * i : Nat) : Int) + 8 = ((8 * i + 8 : Nat) : Int) by omega, cutV_ints (by omega) (by rw [bw.1]; omega), show 8 * i + 8 - 8 * i = 8 by omega]
    walk_at "run1"
    have on1 := putB_on on k0 k1 bw.1 hm i (by omega)
    refine w_write (hD1.same (same_new hl)) on1 (by omega) (by omega) (by rw [putB_secs]; omega) (SqL.of upd_same) (by rw [List.length_take, List.length_drop, bw.1]; omega) (fun z hz => bw.2 z (List.mem_of_mem_drop (List.mem_of_mem_take hz))) fun H2 hD2 st2 => ?_
    walk_at "run1"
    refine ⟨⟨_, rfl⟩, ?_, (st1.new hl).trans st2⟩
    rw [Int.zero_add] at hD2
    exact hD2
  · rintro σ H1 ⟨⟨v, rfl⟩, hD1, st1⟩
    walk_at "run1"
    exact kk H1 hD1 st1
theorem imgD_at {D : DiskS} {i : Nat} (h : i < D.secs.length) : (imgD D)[i]? = some (rdS D (i : Nat)) := by
  unfold imgD
  rw [List.getElem?_map, List.getElem?_range h]
  rfl
def sp__law_old (K : PySem.W.Frag) (_ : Ex) : Sp := S2 fun x b H Q _ => ∃ (p : Addr) (vs : List V) (S : StS) (z : Int), x = .ref p ∧ b = .int z ∧ H p = some (.lst vs) ∧ RowsAt H vs (imgD S.dk) ∧ Dsk S ∧ 0 ≤ z ∧ z < S.sp.nums.length ∧ ∀ l H', Same H H' → H l = none → H' l = some (.lst ((rdB4 S.dk z 4).map V.int)) → Q (.ref l) H'
def t__law_old (K : PySem.W.Frag) (C : Ex) (E : XK) : TS :=
  tSeq (tAsg (tLst (tNil)) (gName 2))
  (tSeq (tFor (iRng1 (tCons (tC (.int 4)) (tNil))) (gName 3)
  (tAsg (tOp (uAdd K) (tVar 2) (tOp (uIx K) (tVar 0) (tOp (uAdd K) (tOp (uMul) (tC (.int 4)) (tVar 1)) (tVar 3)))) (gName 2)))
  (tRet (tVar 2)))
theorem pure__law_old {K : PySem.W.Frag} {C : Ex} {vs : List V} {H : Hp} {Q : VK} {E : XK} (F : Fa K C) (h : sp__law_old K C vs H Q E) : t__law_old K C E { nx := fun _ H' => Q .non H', rt := Q } (start ["_law_image", "_law_number", "_law_words", "_law_part"] vs) H := by
  obtain ⟨x, b, rfl, p, vs, S, z, rfl, rfl, hp, hr, dk, z0, z1, k⟩ := h
  have bsz := dk.ok.sz
  have bbl := dk.bl
  unfold t__law_old
  walk_at "run1"
  rename_i l hl
  refine f_range (fun j σ H' => ∃ (l : Addr) (v3 : Option V), σ = [some (.ref p), some (.int z), some (.ref l), v3] ∧ Same H H' ∧ H l = none ∧ H' l = some (.lst ((rdB4 S.dk z j).map V.int)))
    ⟨l, none, rfl, same_new hl, hl, upd_same⟩ ?_ ?_
  · rintro j σ H1 hj ⟨l, v3, rfl, s1, hl, e1⟩
    have hj : j < 4 := hj
    have hp1 := s1 _ _ hp
    have hi : (4 * z + (j : Int)).toNat < S.dk.secs.length := by omega
    have hv : (4 * z + (j : Int)).toNat < vs.length := by rw [hr.1]; unfold imgD; rw [List.length_map, List.length_range]; exact hi
    obtain ⟨r, g, l8, q, gq, hq⟩ := (hr.same s1).2 _ _ (List.getElem?_eq_getElem hv)
    rw [imgD_at hi, show (((4 * z + (j : Int)).toNat : Nat) : Int) = 4 * z + (j : Int) by omega] at g
    cases g
    walk_at "run1"
    refine w_ixL (k := (4 * z + (j : Int)).toNat) (SqL.of hp1) (by omega) ((List.getElem?_eq_getElem hv).trans (by rw [gq])) ?_
    have ll := rdB4_len dk z0 z1 j (by omega)
    refine w_cat e1 hq (by rw [List.length_map, List.length_map]; omega) fun l2 hl2 => ?_
    walk_at "run1"
    refine ⟨l2, _, rfl, same_updN s1 hl2, s1.free hl2, ?_⟩
    rw [upd_same]
    unfold rdB4
    rw [List.range_succ, List.flatMap_append, List.map_append, List.flatMap_cons, List.flatMap_nil, List.append_nil]
  · rintro σ H1 ⟨l, v3, rfl, s1, hl, e1⟩
    walk_at "run1"
    exact k l H1 s1 hl e1
def sp__law_free (K : PySem.W.Frag) (C : Ex) : Sp := S2 fun x u H Q _ => ∃ (p q : Addr) (ns : List Int) (hs : List Bool), x = .ref p ∧ u = .ref q ∧ H p = some (.lst (ns.map V.int)) ∧ H q = some (.lst (hs.map V.bl)) ∧ ns.length = hs.length ∧ ns.length = 96 ∧
  ∀ H' l, Same H H' → H l = none → H' l = some (.lst (natV (freeL ns hs))) → Q (.ref l) H'
def t__law_free (K : PySem.W.Frag) (C : Ex) (E : XK) : TS :=
  tRet (tLc (iRng1 (tCons (tC (.int 96)) (tNil))) (gName 2) (tAnd (tTest (tOp (uEq K) (tOp (uIx K) (tVar 0) (tVar 2)) (tC (.int 0)))) (tNot (uTru K (tOp (uIx K) (tVar 1) (tVar 2))))) (tVar 2) [2])
theorem pure__law_free {K : PySem.W.Frag} {C : Ex} {vs : List V} {H : Hp} {Q : VK} {E : XK} (F : Fa K C) (h : sp__law_free K C vs H Q E) : t__law_free K C E { nx := fun _ H' => Q .non H', rt := Q } (start ["_law_numbers", "_law_held", "_law_k"] vs) H := by
  obtain ⟨x, u, rfl, p, q, ns, hs, rfl, rfl, hp, hq, hl, sz, k⟩ := h
  unfold t__law_free
  walk_at "run1"
  refine l_range (fun D i H1 => Same H H1 ∧ H1 D = some (.lst (natV ((List.range i).filter (isFr ns hs))))) (fun D hD => ⟨same_new hD, upd_same⟩) ?_ (fun D H1 hD p => k H1 D p.1 hD (by unfold freeL; rw [sz]; exact p.2))
  rintro D i H1 hD hi ⟨s1, e1⟩
  have hi : i < 96 := hi
  have hp1 := s1 _ _ hp
  have hq1 := s1 _ _ hq
  have ei : (0 + (i : Int)).toNat = i := by omega
  have lf : ((List.range i).filter (isFr ns hs)).length ≤ i := Nat.le_trans (List.length_filter_le _ _) (by rw [List.length_range]; exact Nat.le_refl _)
  have skip : isFr ns hs i = false → Same H H1 ∧ H1 D = some (.lst (natV ((List.range (i + 1)).filter (isFr ns hs)))) := fun f => by
    refine ⟨s1, ?_⟩
    rw [List.range_succ, List.filter_append, e1]
    simp [f]
  walk_at "run1"
  refine ⟨rfl, ?_⟩
  walk_at "run1"
  · rename_i f
    rw [ei] at f
    refine ifBN (fun g => ?_) (fun g => ?_)
    · rw [ei] at g
      walk_at "run1"
      refine ⟨_, e1, by rw [List.length_map]; exact lt_line (by omega), same_upd s1 hD, ?_⟩
      rw [upd_same, List.range_succ, List.filter_append]
      unfold natV
      rw [List.map_append]
      have fi : isFr ns hs i = true := by unfold isFr; rw [decide_eq_true f, g]; rfl
      rw [show [i].filter (isFr ns hs) = [i] by simp [fi], Int.zero_add]
      rfl
    · rw [ei] at g
      walk_at "run1"
      exact skip (by unfold isFr; rw [g]; simp)
  · walk_at "run1"
    rename_i f
    rw [ei] at f
    exact skip (by unfold isFr; rw [decide_eq_false f]; rfl)
def Inv (H : Hp) (Q : VK) (t : Str) : Prop := ∀ l H', Same H H' → H' l = some (.lst [.str "refused", .str t]) → Q (.ref l) H'
/-- what the law has a store do -/
def DoCase (K : PySem.W.Frag) (C : Ex) (H : Hp) (A : SA) (S : StS) (u c w : V) (Q : VK) : Prop :=
  (u = .str "make" ∧ ∃ g, WordsV K H w g ∧ (g = none → Inv H Q "invalid") ∧ ∀ ws, g = some ws → (((freeL S.sp.nums S.sp.held).length : Int) ≤ S.res → Inv H Q "room") ∧
    ∀ (k : Nat) t, freeL S.sp.nums S.sp.held = k :: t → S.res < (freeL S.sp.nums S.sp.held).length → ∀ H' l tp, StAt C H' A (putM (takeSt S k) k l ws) → Stp (stF A S) H (stF A (putM (takeSt S k) k l ws)) H' → H tp = none → H' tp = some (.tup [.int (k : Nat), .int (S.gen + 1)]) → Q (.ref tp) H') ∨
  (u = .str "next" ∧ (((freeL S.sp.nums S.sp.held).length : Int) < 1 + S.res → Inv H Q "room") ∧
    ∀ (k : Nat) t, freeL S.sp.nums S.sp.held = k :: t → 1 + S.res ≤ (freeL S.sp.nums S.sp.held).length → ∀ H' tp, StAt C H' A { S with sp := { S.sp with low := (k : Int) } } → Stp (stF A S) H (stF A S) H' → H tp = none → H' tp = some (.tup [.int (k : Nat), .int (S.gen + 1)]) → Q (.ref tp) H') ∨
  (u = .str "write" ∧ ∃ z g, PtrAt K H c z ∧ WordsV K H w g ∧ (outB S z ∨ (∃ k : Nat, z = (k : Nat) ∧ newB S k = false) ∨ g = none → Inv H Q "invalid") ∧
    ∀ (k : Nat) ws, z = (k : Nat) → k < S.sp.nums.length → newB S k = true → g = some ws → ∀ H' l, StAt C H' A (putM S k l ws) → Stp (stF A S) H (stF A (putM S k l ws)) H' → Q .non H') ∨
  (u = .str "read" ∧ ∃ z, PtrAt K H c z ∧ (z < 5 ∨ (S.sp.nums.length : Int) ≤ z → Inv H Q "invalid") ∧
    (5 ≤ z → z < S.sp.nums.length → ∀ l H', Same H H' → H l = none → H' l = some (.lst ((blkS S z).map V.int)) → Q (.ref l) H')) ∨
  (u = .str "share" ∧ ∃ z, PtrAt K H c z ∧ (badB S.sp (.int z) → Inv H Q "invalid") ∧
    ∀ k : Nat, z = (k : Nat) → 5 ≤ k → k < S.sp.nums.length → S.sp.nums.getD k 0 ≠ 0 → ∀ H', StAt C H' A { S with sp := shareS S.sp k } → Stp (stF A S) H (stF A S) H' → Q .non H') ∨
  (u = .str "drop" ∧ ∃ z, PtrAt K H c z ∧ (badB S.sp (.int z) → Inv H Q "invalid") ∧
    ∀ k : Nat, z = (k : Nat) → 5 ≤ k → k < S.sp.nums.length → S.sp.nums.getD k 0 ≠ 0 → ∀ H', StAt C H' A (dropSt S k) → Stp (stF A S) H (stF A (dropSt S k)) H' → Q (.int (S.sp.nums.getD k 0 - 1)) H') ∨
  (u = .str "new" ∧ ∃ z, PtrAt K H c z ∧ (outB S z → Inv H Q "invalid") ∧ ∀ k : Nat, z = (k : Nat) → k < S.sp.nums.length → Q (.bl (newB S k)) H) ∨
  (u = .str "require" ∧ ∃ z : Int, c = .int z ∧ (((freeL S.sp.nums S.sp.held).length : Int) < z + S.res → Inv H Q "room") ∧ (z + S.res ≤ ((freeL S.sp.nums S.sp.held).length : Int) → Q .non H)) ∨
  (u = .str "uses" ∧ ∃ z, PtrAt K H c z ∧ (outB S z → Inv H Q "invalid") ∧ ∀ k : Nat, z = (k : Nat) → k < S.sp.nums.length → Q (.int (S.sp.nums.getD k 0)) H)
def sp__law_do (K : PySem.W.Frag) (C : Ex) : Sp := S4 fun x u c w H Q _ => ∃ A S, x = .ref A.st ∧ StAt C H A S ∧ StOk S ∧ Dsk S ∧ DoCase K C H A S u c w Q
def t__law_do (K : PySem.W.Frag) (C : Ex) (E : XK) : TS :=
  uTryAs K (.ref C.LaminaError) 4 (fun W => tSeq (tIfS (tTest (tOp (uEq K) (tVar 1) (tC (.str "make")))) (tRet (uMeth C.Store "make" (sp_Store_make K C) W (tVar 0) (tCons (tVar 3) (tNil)))) (tNext))
  (tSeq (tIfS (tTest (tOp (uEq K) (tVar 1) (tC (.str "next")))) (tRet (uMeth C.Store "next_pointer" (sp_Store_next_pointer K C) W (tVar 0) (tNil))) (tNext))
  (tSeq (tIfS (tTest (tOp (uEq K) (tVar 1) (tC (.str "write")))) (tRet (uMeth C.Store "write" (sp_Store_write K C) W (tVar 0) (tCons (tVar 2) (tCons (tVar 3) (tNil))))) (tNext))
  (tSeq (tIfS (tTest (tOp (uEq K) (tVar 1) (tC (.str "read")))) (tRet (uMeth C.Store "read" (sp_Store_read K C) W (tVar 0) (tCons (tVar 2) (tNil)))) (tNext))
  (tSeq (tIfS (tTest (tOp (uEq K) (tVar 1) (tC (.str "share")))) (tRet (uMeth C.Store "share" (sp_Store_share K C) W (tVar 0) (tCons (tVar 2) (tNil)))) (tNext))
  (tSeq (tIfS (tTest (tOp (uEq K) (tVar 1) (tC (.str "drop")))) (tRet (uMeth C.Store "drop" (sp_Store_drop K C) W (tVar 0) (tCons (tVar 2) (tNil)))) (tNext))
  (tSeq (tIfS (tTest (tOp (uEq K) (tVar 1) (tC (.str "new")))) (tRet (uMeth C.Store "is_new" (sp_Store_is_new K C) W (tVar 0) (tCons (tVar 2) (tNil)))) (tNext))
  (tSeq (tIfS (tTest (tOp (uEq K) (tVar 1) (tC (.str "require")))) (tRet (uMeth C.Store "require" (sp_Store_require K C) W (tVar 0) (tCons (tVar 2) (tNil)))) (tNext))
  (tRet (uMeth C.Store "uses" (sp_Store_uses K C) W (tVar 0) (tCons (tVar 2) (tNil)))))))))))) (fun a cls d => tSeq (tIfS (uTru K (tCB (uIsE K a cls d) (tCons (tVar 4) (tCons (tC (.ref C.NoSpace)) (tNil))))) (tRet (tLst (tCons (tC (.str "refused")) (tCons (tC (.str "room")) (tNil))))) (tNext))
  (tSeq (tIfS (uTru K (tCB (uIsE K a cls d) (tCons (tVar 4) (tCons (tC (.ref C.NotValid)) (tNil))))) (tRet (tLst (tCons (tC (.str "refused")) (tCons (tC (.str "invalid")) (tNil))))) (tNext))
  (tRet (tLst (tCons (tC (.str "refused")) (tCons (tC (.str "other")) (tNil))))))) (WB E)
theorem pure__law_do {K : PySem.W.Frag} {C : Ex} {vs : List V} {H : Hp} {Q : VK} {E : XK} (F : Fa K C) (h : sp__law_do K C vs H Q E) : t__law_do K C E { nx := fun _ H' => Q .non H', rt := Q } (start ["_law_store", "_law_act", "_law_pointer", "_law_words", "e"] vs) H := by
  obtain ⟨x, u, c, w, rfl, A, S, rfl, hS, ok, dk, hc⟩ := h
  obtain ⟨dx, i⟩ := hS.ins
  unfold stO at i
  have out : ∀ t l, Inv H Q t → H l = none → Q (.ref l) (upd H l (.lst [.str "refused", .str t])) := fun t l h hl => h l _ (same_new hl) upd_same
  unfold t__law_do
  rcases hc with ⟨rfl, g, hw, k1, k2⟩ | ⟨rfl, k1, k2⟩ | ⟨rfl, z, g, hp, hw, k1, k2⟩ | ⟨rfl, z, hp, k1, k2⟩ | ⟨rfl, z, hp, k1, k2⟩ | ⟨rfl, z, hp, k1, k2⟩ | ⟨rfl, z, hp, k1, k2⟩ | ⟨rfl, z, rfl, k1, k2⟩ | ⟨rfl, z, hp, k1, k2⟩
  · walk_at "run1"
    refine w_S2 ⟨A, S, g, rfl, hw, hS, ok, fun h => ?_, fun ws e => ⟨fun h => ?_, fun k t ef hr H' l tp h1 h2 h3 h4 => ?_⟩⟩
    · walk_at "run1"
      rename_i l hl
      exact out _ l (k1 h) hl
    · walk_at "run1"
      rename_i l hl
      exact out _ l ((k2 ws e).1 h) hl
    · walk_at "run1"
      exact (k2 ws e).2 k t ef hr H' l tp h1 h2 h3 h4
  · walk_at "run1"
    refine w_S1 ⟨A, S, rfl, hS, ok, fun h => ?_, fun k t ef hr H' tp h1 h2 h3 h4 => ?_⟩
    · walk_at "run1"
      rename_i l hl
      exact out _ l (k1 h) hl
    · walk_at "run1"
      exact k2 k t ef hr H' tp h1 h2 h3 h4
  · walk_at "run1"
    refine w_S3 ⟨A, S, z, g, rfl, hp, hw, hS, ok, fun h => ?_, fun k ws e1 e2 e3 e4 H' l h1 h2 => ?_⟩
    · walk_at "run1"
      rename_i l hl
      exact out _ l (k1 h) hl
    · walk_at "run1"
      exact k2 k ws e1 e2 e3 e4 H' l h1 h2
  · walk_at "run1"
    refine w_S2 ⟨A, S, z, rfl, hp, hS, ok, dk, fun h => ?_, fun h0 h1 l H' s1 h2 h3 => ?_⟩
    · walk_at "run1"
      rename_i l hl
      exact out _ l (k1 h) hl
    · walk_at "run1"
      exact k2 h0 h1 l H' s1 h2 h3
  · walk_at "run1"
    refine w_S2 ⟨A, S, z, rfl, hp, hS, ok, fun h => ?_, fun k e1 e2 e3 e4 H' h1 h2 => ?_⟩
    · walk_at "run1"
      rename_i l hl
      exact out _ l (k1 h) hl
    · walk_at "run1"
      exact k2 k e1 e2 e3 e4 H' h1 h2
  · walk_at "run1"
    refine w_S2 ⟨A, S, z, rfl, hp, hS, ok, fun h => ?_, fun k e1 e2 e3 e4 H' h1 h2 => ?_⟩
    · walk_at "run1"
      rename_i l hl
      exact out _ l (k1 h) hl
    · walk_at "run1"
      exact k2 k e1 e2 e3 e4 H' h1 h2
  · walk_at "run1"
    refine w_S2 ⟨A, S, z, rfl, hp, hS, ok, fun h => ?_, fun k e1 e2 => ?_⟩
    · walk_at "run1"
      rename_i l hl
      exact out _ l (k1 h) hl
    · walk_at "run1"
      exact k2 k e1 e2
  · walk_at "run1"
    refine w_S2 ⟨A, S, z, rfl, rfl, hS, fun h => ?_, fun h => ?_⟩
    · walk_at "run1"
      rename_i l hl
      exact out _ l (k1 h) hl
    · walk_at "run1"
      exact k2 h
  · walk_at "run1"
    refine w_S2 ⟨A, S, z, rfl, hp, hS, ok, fun h => ?_, fun k e1 e2 => ?_⟩
    · walk_at "run1"
      rename_i l hl
      exact out _ l (k1 h) hl
    · walk_at "run1"
      exact k2 k e1 e2
inductive Op where
  | write | read | share | drop | new | uses
  deriving DecidableEq
def opT : Op → Str
  | .write => "write"
  | .read => "read"
  | .share => "share"
  | .drop => "drop"
  | .new => "new"
  | .uses => "uses"
def nwF (ns : List Int) (hs : List Bool) (k : Nat) : Bool := decide (0 < ns.getD k 0) && !hs.getD k false && decide (ns.getD k 0 = 1)
def dueN (ns : List Int) (hs : List Bool) (op : Op) (z : Int) : Rs :=
  match op with
  | .new => .bl (nwF ns hs z.toNat)
  | .uses => .int (ns.getD z.toNat 0)
  | .write => if nwF ns hs z.toNat = true then .non else .ref "invalid"
  | .read => .non
  | .share => if z < 5 ∨ ns.getD z.toNat 0 = 0 then .ref "invalid" else .non
  | .drop => if z < 5 ∨ ns.getD z.toNat 0 = 0 then .ref "invalid" else .int (ns.getD z.toNat 0 - 1)
def dueO (ns : List Int) (hs : List Bool) (op : Op) (z : Int) : Rs := if z < 0 ∨ 95 < z ∨ (op = .read ∧ z < 5) then .ref "invalid" else dueN ns hs op z
def sp__law_due (K : PySem.W.Frag) (C : Ex) : Sp := S4 fun x u c e H Q _ => ∃ (p q : Addr) (ns : List Int) (hs : List Bool) (op : Op) (z : Int), x = .ref p ∧ u = .ref q ∧ c = .str (opT op) ∧ e = .int z ∧ H p = some (.lst (ns.map V.int)) ∧ H q = some (.lst (hs.map V.bl)) ∧ ns.length = hs.length ∧ ns.length = 96 ∧
  ∀ H' v, RepRs H' v (dueO ns hs op z) → Same H H' → Q v H'
def t__law_due (K : PySem.W.Frag) (C : Ex) (E : XK) : TS :=
  tSeq (tIfS (tOr (tTest (tOp (uLt K) (tVar 3) (tC (.int 0)))) (tOr (tTest (tOp (uGt) (tVar 3) (tC (.int 95)))) (tAnd (tTest (tOp (uEq K) (tVar 2) (tC (.str "read")))) (tTest (tOp (uLt K) (tVar 3) (tC (.int 5))))))) (tRet (tLst (tCons (tC (.str "refused")) (tCons (tC (.str "invalid")) (tNil))))) (tNext))
  (tSeq (tAsg (tAndV (tOp (uGt) (tOp (uIx K) (tVar 0) (tVar 3)) (tC (.int 0))) (tAndV (tNotV (tOp (uIx K) (tVar 1) (tVar 3))) (tOp (uEq K) (tOp (uIx K) (tVar 0) (tVar 3)) (tC (.int 1))))) (gName 4))
  (tSeq (tIfS (tTest (tOp (uEq K) (tVar 2) (tC (.str "new")))) (tRet (tVar 4)) (tNext))
  (tSeq (tIfS (tTest (tOp (uEq K) (tVar 2) (tC (.str "uses")))) (tRet (tOp (uIx K) (tVar 0) (tVar 3))) (tNext))
  (tSeq (tIfS (tTest (tOp (uEq K) (tVar 2) (tC (.str "write")))) (tSeq (tIfS (uTru K (tVar 4)) (tRet (tC .non)) (tNext))
  (tRet (tLst (tCons (tC (.str "refused")) (tCons (tC (.str "invalid")) (tNil)))))) (tNext))
  (tCut (tIfS (tOr (tTest (tOp (uEq K) (tVar 2) (tC (.str "share")))) (tTest (tOp (uEq K) (tVar 2) (tC (.str "drop"))))) (tSeq (tIfS (tOr (tTest (tOp (uLt K) (tVar 3) (tC (.int 5)))) (tTest (tOp (uEq K) (tOp (uIx K) (tVar 0) (tVar 3)) (tC (.int 0))))) (tRet (tLst (tCons (tC (.str "refused")) (tCons (tC (.str "invalid")) (tNil))))) (tNext))
  (tIfS (tTest (tOp (uEq K) (tVar 2) (tC (.str "drop")))) (tRet (tOp (uSub) (tOp (uIx K) (tVar 0) (tVar 3)) (tC (.int 1)))) (tNext))) (tNext))
  (tRet (tC .non)))))))
theorem pure__law_due {K : PySem.W.Frag} {C : Ex} {vs : List V} {H : Hp} {Q : VK} {E : XK} (F : Fa K C) (h : sp__law_due K C vs H Q E) : t__law_due K C E { nx := fun _ H' => Q .non H', rt := Q } (start ["_law_numbers", "_law_held", "_law_act", "_law_number", "_law_new"] vs) H := by
  obtain ⟨x, u, c, e, rfl, p, q, ns, hs, op, z, rfl, rfl, rfl, rfl, hp, hq, hl, sz, k⟩ := h
  have bad : ∀ l, H l = none → dueO ns hs op z = .ref "invalid" → Q (.ref l) (upd H l (.lst [.str "refused", .str "invalid"])) := fun l hl e1 =>
    k _ (.ref l) (by rw [e1]; exact ⟨l, rfl, upd_same⟩) (same_new hl)
  unfold t__law_due
  generalize hN : (tSeq (tIfS (tTest (tOp (uEq K) (tVar 2) (tC (.str "new")))) _ _) _ : TS) = N
  have fin : ∀ (D : Ends) b, D.rt = Q → b = nwF ns hs z.toNat → 0 ≤ z → z ≤ 95 → (op = .read → 5 ≤ z) → N D [some (.ref p), some (.ref q), some (.str (opT op)), some (.int z), some (.bl b)] H := by
    intro D b hD hb z0 z1 z5
    rw [← hN]
    subst hD
    have due : dueO ns hs op z = dueN ns hs op z := if_neg fun h => by
      rcases h with h | h | ⟨h1, h2⟩
      · omega
      · omega
      · have := z5 h1; omega
    rw [due] at k bad
    have s0 := L2.Same.refl H
    cases op with
    | new =>
      show tSeq _ _ _ [some (.ref p), some (.ref q), some (.str "new"), some (.int z), some (.bl b)] H
      walk_at "run1"
      exact k H _ (by rw [hb]; rfl) s0
    | uses =>
      show tSeq _ _ _ [some (.ref p), some (.ref q), some (.str "uses"), some (.int z), some (.bl b)] H
      walk_at "run1"
      exact k H _ rfl s0
    | write =>
      show tSeq _ _ _ [some (.ref p), some (.ref q), some (.str "write"), some (.int z), some (.bl b)] H
      cases b with
      | true =>
        walk_at "run1"
        exact k H _ (by unfold dueN; dsimp only; rw [← hb]; rfl) s0
      | false =>
        walk_at "run1"
        rename_i l hl
        exact bad l hl (by unfold dueN; dsimp only; rw [← hb]; rfl)
    | read =>
      show tSeq _ _ _ [some (.ref p), some (.ref q), some (.str "read"), some (.int z), some (.bl b)] H
      walk_at "run1"
      refine w_cutS ?_
      walk_at "run1"
      exact k H _ rfl s0
    | share =>
      show tSeq _ _ _ [some (.ref p), some (.ref q), some (.str "share"), some (.int z), some (.bl b)] H
      walk_at "run1"
      refine w_cutS ?_
      walk_at "run1"
      · rename_i g l hl
        exact bad l hl (if_pos (.inl g))
      walk_at "run1"
      · rename_i g l hl
        exact bad l hl (if_pos (.inr g))
      walk_at "run1"
      rename_i g1 g2
      exact k H _ (by unfold dueN; dsimp only; rw [if_neg (by omega)]; rfl) s0
    | drop =>
      show tSeq _ _ _ [some (.ref p), some (.ref q), some (.str "drop"), some (.int z), some (.bl b)] H
      walk_at "run1"
      refine w_cutS ?_
      walk_at "run1"
      · rename_i g l hl
        exact bad l hl (if_pos (.inl g))
      walk_at "run1"
      · rename_i g l hl
        exact bad l hl (if_pos (.inr g))
      walk_at "run1"
      rename_i g1 g2
      exact k H _ (by unfold dueN; dsimp only; rw [if_neg (by omega)]; rfl) s0
  have asg : ∀ (D : Ends), D.rt = Q → 0 ≤ z → z ≤ 95 → (op = .read → 5 ≤ z) → tSeq (tAsg (tAndV (tOp (uGt) (tOp (uIx K) (tVar 0) (tVar 3)) (tC (.int 0))) (tAndV (tNotV (tOp (uIx K) (tVar 1) (tVar 3))) (tOp (uEq K) (tOp (uIx K) (tVar 0) (tVar 3)) (tC (.int 1))))) (gName 4)) N D [some (.ref p), some (.ref q), some (.str (opT op)), some (.int z), none] H := by
    intro D hD z0 z1 z5
    walk_at "run1"
    · rename_i h
      refine ifBN (fun g => ?_) (fun g => ?_)
      · walk_at "run1"
        exact fin D _ hD (by unfold nwF; rw [decide_eq_true h, g]; rfl) z0 z1 z5
      · walk_at "run1"
        exact fin D _ hD (by unfold nwF; rw [g]; simp) z0 z1 z5
    · walk_at "run1"
      rename_i h
      exact fin D _ hD (by unfold nwF; rw [decide_eq_false h]; rfl) z0 z1 z5
  generalize hM : (tSeq (tAsg _ _) N : TS) = M at asg
  walk_at "run1"
  · rename_i h l hl
    exact bad l hl (if_pos (.inl h))
  walk_at "run1"
  · rename_i h l hl
    exact bad l hl (if_pos (.inr (.inl (by omega))))
  walk_at "run1"
  · rename_i h2 h3 l hl
    have e2 : op = .read := by cases op <;> first | rfl | exact absurd h2 (by decide)
    exact bad l hl (if_pos (.inr (.inr ⟨e2, h3⟩)))
  · rename_i h0 h1 h2 h3
    walk_at "run1"
    exact asg _ rfl (by omega) (by omega) fun _ => by omega
  · rename_i h0 h1 h2
    walk_at "run1"
    exact asg _ rfl (by omega) (by omega) fun e => absurd (by rw [e]; rfl) h2
def S7 (f : V → V → V → V → V → V → V → Hp → VK → XK → Prop) : Sp := fun vs H Q E => ∃ a b c d e g h, vs = [a, b, c, d, e, g, h] ∧ f a b c d e g h H Q E
theorem len7 {vs : List V} {H : Hp} {Q : VK} {E : XK} {f} (h : S7 f vs H Q E) : vs.length = 7 := by obtain ⟨_, _, _, _, _, _, _, rfl, _⟩ := h; rfl
theorem w_S7 {H : Hp} {Q : VK} {E : XK} {a b c d e g i : V} {f} (h : f a b c d e g i H Q E) : S7 f [a, b, c, d, e, g, i] H Q E := ⟨a, b, c, d, e, g, i, rfl, h⟩
def contC (S : StS) : Int → Option (List Int) := fun k => if 5 ≤ k ∧ k < 96 then some (blkS S k) else none
def lawL (S : StS) (pn pc ph : Addr) (kvsC : List (Key × V)) : List (Addr × HO) := [(pn, .lst (S.sp.nums.map V.int)), (pc, .dK kvsC), (ph, .lst (S.sp.held.map V.bl))]
structure LawS (C : Ex) (H : Hp) (A : SA) (S : StS) (pn pc ph : Addr) (kvsC : List (Key × V)) (rest : List (Addr × HO)) : Prop where
  at_ : StAt C H A S
  ok : StOk S
  dk : Dsk S
  sz : S.sp.nums.length = 96
  sep : Sep (stF A S) H (lawL S pn pc ph kvsC ++ rest)
  mc : MemAt H ((lawL S pn pc ph kvsC ++ rest).map (·.1) ++ stF A S) kvsC (contC S)
theorem MemAt.mono {H : Hp} {B B' : List Addr} {kvs : List (Key × V)} {cont : Int → Option (List Int)} (x : MemAt H B kvs cont) (h : ∀ b ∈ B', b ∈ B) : MemAt H B' kvs cont :=
  ⟨x.ks, x.nd, fun k => by
    rcases x.v k with y | ⟨p, ws, a, b, c, d, e⟩
    · exact .inl y
    · exact .inr ⟨p, ws, a, b, c, d, fun q => e (h _ q)⟩⟩
theorem Stp.more {F F' X : List Addr} {H H' : Hp} (x : Stp F H F' H') : Stp (X ++ F) H (X ++ F') H' :=
  ⟨fun b o h n => x.1 b o h fun q => n (List.mem_append_right _ q), fun b hb => by
    rcases List.mem_append.mp hb with q | q
    · exact .inl (List.mem_append_left _ q)
    · exact (x.2 b q).imp (List.mem_append_right _) id⟩
theorem Sep.sub {F : List Addr} {H : Hp} {L L' : List (Addr × HO)} (x : Sep F H L) (h : L'.Sublist L) : Sep F H L' :=
  ⟨fun y hy => x.own y (h.subset hy), fun y hy => x.out y (h.subset hy), (h.map _).nodup x.nd⟩
section laws
variable {C : Ex} {H H' : Hp} {A : SA} {S : StS} {pn pc ph : Addr} {kvsC : List (Key × V)} {rest rest' : List (Addr × HO)}
theorem LawS.same (x : LawS C H A S pn pc ph kvsC rest) (s : Same H H') : LawS C H' A S pn pc ph kvsC rest :=
  ⟨x.at_.same s, x.ok, x.dk, x.sz, x.sep.same s, x.mc.stp (.same s)⟩
theorem LawS.sub (x : LawS C H A S pn pc ph kvsC rest) (h : rest'.Sublist rest) : LawS C H A S pn pc ph kvsC rest' := by
  have z : (lawL S pn pc ph kvsC ++ rest').Sublist (lawL S pn pc ph kvsC ++ rest) := List.Sublist.append (List.Sublist.refl _) h
  refine ⟨x.at_, x.ok, x.dk, x.sz, x.sep.sub z, x.mc.mono fun b hb => ?_⟩
  rcases List.mem_append.mp hb with q | q
  · exact List.mem_append_left _ ((z.map _).subset q)
  · exact List.mem_append_right _ q
theorem LawS.fresh (x : LawS C H A S pn pc ph kvsC rest) {p : Addr} (h : H p = none) : p ∉ stF A S := x.at_.fresh h
/-- a new object of the law's own -/
theorem LawS.new (x : LawS C H A S pn pc ph kvsC rest) {p : Addr} {o : HO} (s : Same H H') (h : H p = none) (e : H' p = some o) : LawS C H' A S pn pc ph kvsC ((p, o) :: rest) := by
  have sp : Sep (stF A S) H' ((p, o) :: (lawL S pn pc ph kvsC ++ rest)) := x.sep.add s h (x.fresh h) e
  have pm : ((p, o) :: (lawL S pn pc ph kvsC ++ rest)).Perm (lawL S pn pc ph kvsC ++ (p, o) :: rest) := List.perm_middle.symm
  refine ⟨x.at_.same s, x.ok, x.dk, x.sz, ⟨fun y hy => sp.own y (pm.mem_iff.mpr hy), fun y hy => sp.out y (pm.mem_iff.mpr hy), (pm.map _).nodup_iff.mp sp.nd⟩, (x.mc.stp (B' := p :: ((lawL S pn pc ph kvsC ++ rest).map (·.1) ++ stF A S)) ⟨fun b o' hb _ => s b o' hb, fun b hb => ?_⟩).mono fun b hb => ?_⟩
  · rcases List.mem_cons.mp hb with rfl | q
    · exact .inr h
    · exact .inl q
  · rcases List.mem_append.mp hb with q | q
    · have q := ((pm.map (·.1)).mem_iff).mpr q
      rcases List.mem_cons.mp q with q | q
      · exact List.mem_cons.mpr (.inl q)
      · exact List.mem_cons_of_mem _ (List.mem_append_left _ q)
    · exact List.mem_cons_of_mem _ (List.mem_append_right _ q)
theorem LawS.hn (x : LawS C H A S pn pc ph kvsC rest) : H pn = some (.lst (S.sp.nums.map V.int)) := x.sep.get 0 rfl
theorem LawS.hc (x : LawS C H A S pn pc ph kvsC rest) : H pc = some (.dK kvsC) := x.sep.get 1 rfl
theorem LawS.hh (x : LawS C H A S pn pc ph kvsC rest) : H ph = some (.lst (S.sp.held.map V.bl)) := x.sep.get 2 rfl
/-- a step of the store that leaves numbers and contents -/
theorem LawS.step {S' : StS} (x : LawS C H A S pn pc ph kvsC rest) (h : StAt C H' A S') (ok : StOk S') (st : Stp (stF A S) H (stF A S') H') (e1 : S'.sp.nums = S.sp.nums) (e2 : S'.sp.held = S.sp.held) (e3 : S'.cont = S.cont) (e4 : S'.dk = S.dk) : LawS C H' A S' pn pc ph kvsC rest := by
  have el : lawL S' pn pc ph kvsC = lawL S pn pc ph kvsC := by unfold lawL; rw [e1, e2]
  have ec : contC S' = contC S := by unfold contC blkS; rw [e3, e4]
  refine ⟨h, ok, ⟨e4 ▸ x.dk.ok, e4 ▸ x.dk.r8, e4 ▸ x.dk.pw, by rw [e4, e1]; exact x.dk.bl⟩, by rw [e1]; exact x.sz, by rw [el]; exact x.sep.stp st, by rw [el, ec]; exact x.mc.stp st.more⟩
end laws
theorem mem_len {H : Hp} {B : List Addr} {kvs : List (Key × V)} {cont : Int → Option (List Int)} {n : Nat} (x : MemAt H B kvs cont) (h : ∀ k : Int, (cont k).isSome = true → 0 ≤ k ∧ k < n) : kvs.length ≤ n := by
  obtain ⟨ks, e, nd⟩ := int_keys x
  have z := congrArg List.length e
  rw [List.length_map, List.length_map] at z
  rw [z]
  exact nodup_le n ks nd fun k hk => h k ((mem_keys x e k).mp hk)
theorem contC_len {C : Ex} {H : Hp} {A : SA} {S : StS} {pn pc ph : Addr} {kvsC : List (Key × V)} {rest : List (Addr × HO)} (x : LawS C H A S pn pc ph kvsC rest) : kvsC.length ≤ 96 := mem_len x.mc fun k h => by
  unfold contC at h
  split at h
  · rename_i q
    omega
  · cases h
theorem contC_put {S : StS} {k : Nat} {l : Addr} {ws : List Int} (h5 : 5 ≤ k) (h9 : k < 96) : contC (putM S k l ws) = fun j : Int => if j = (k : Nat) then some ws else contC S j := funext fun j => by
  unfold contC
  by_cases q : j = (k : Nat)
  · rw [if_pos q, if_pos (by omega)]
    unfold blkS putM
    dsimp only
    rw [if_pos q]
    rfl
  · rw [if_neg q]
    unfold blkS putM
    dsimp only
    rw [if_neg q]
/-- numbers and contents follow a block that is made -/
theorem LawS.made {C : Ex} {H H5 H6 : Hp} {A : SA} {S S5 : StS} {pn pc ph lc : Addr} {kvsC : List (Key × V)} {rest : List (Addr × HO)} {k : Nat} {ws : List Int} (x : LawS C H A S pn pc ph kvsC rest) (h : StAt C H5 A S5) (ok : StOk S5) (st : Stp (stF A S) H (stF A S5) H5) (n1 : S5.sp.nums = S.sp.nums.set k 1) (n2 : S5.sp.held = S.sp.held) (n3 : contC S5 = fun j : Int => if j = (k : Nat) then some ws else contC S j) (n4 : S5.dk = S.dk) (b : Blk ws)
    (s6 : Same (upd H5 pn (.lst ((S.sp.nums.map V.int).set k (.int 1)))) H6) (hl : upd H5 pn (.lst ((S.sp.nums.map V.int).set k (.int 1))) lc = none) (e6 : H6 lc = some (.lst (ws.map V.int))) :
    LawS C (upd H6 pc (.dK (putK kvsC (.inl (k : Nat)) (.ref lc)))) A S5 pn pc ph (putK kvsC (.inl (k : Nat)) (.ref lc)) rest := by
  have sz := x.sz
  have sep5 := x.sep.stp st
  have mc5 := x.mc.stp st.more
  have sep6 := (sep5.set 0 rfl (.lst ((S.sp.nums.map V.int).set k (.int 1)))).same s6
  have hS6 := (h.oth (o := .lst ((S.sp.nums.map V.int).set k (.int 1))) (sep5.get 0 rfl) (plain_len (by omega)) (sep5.far 0 rfl)).same s6
  have mc6 := mc5.stp (Stp.refl.upd (p := pn) (o := .lst ((S.sp.nums.map V.int).set k (.int 1))) (by simp [lawL]))
  have nb : lc ∉ (lawL S pn pc ph kvsC ++ rest).map (·.1) ++ stF A S5 := fun q => by
    have hl0 := none_of_upd hl
    rcases List.mem_append.mp q with q | q
    · obtain ⟨y, hy, e⟩ := List.mem_map.mp q
      have z := sep5.own y hy
      rw [e, hl0.1] at z
      cases z
    · exact h.held lc q hl0.1
  have mc7 := mc6.put (k := (k : Nat)) s6 e6 b nb
  have sep8 := sep6.set 1 rfl (.dK (putK kvsC (.inl (k : Nat)) (.ref lc)))
  have hS8 := hS6.oth (o := .dK (putK kvsC (.inl (k : Nat)) (.ref lc))) (sep6.get 1 rfl) plain_dK (sep6.far 1 rfl)
  have mc8 := mc7.stp (Stp.refl.upd (p := pc) (o := .dK (putK kvsC (.inl (k : Nat)) (.ref lc))) (by simp [lawL]))
  have el : lawL S5 pn pc ph (putK kvsC (.inl (k : Nat)) (.ref lc)) ++ rest = ((lawL S pn pc ph kvsC ++ rest).set 0 (pn, .lst ((S.sp.nums.map V.int).set k (.int 1)))).set 1 (pc, .dK (putK kvsC (.inl (k : Nat)) (.ref lc))) := by
    unfold lawL
    rw [n1, n2, List.map_set]
    rfl
  have ea : (lawL S5 pn pc ph (putK kvsC (.inl (k : Nat)) (.ref lc)) ++ rest).map (·.1) = (lawL S pn pc ph kvsC ++ rest).map (·.1) := rfl
  refine ⟨hS8, ok, ⟨n4 ▸ x.dk.ok, n4 ▸ x.dk.r8, n4 ▸ x.dk.pw, by rw [n4, n1, List.length_set]; exact x.dk.bl⟩, by rw [n1, List.length_set]; exact sz, by rw [el]; exact sep8, ?_⟩
  rw [ea, n3]
  exact mc8
/-- an object of the law's own is written -/
theorem LawS.own {C : Ex} {H : Hp} {A : SA} {S : StS} {pn pc ph p : Addr} {kvsC : List (Key × V)} {rest : List (Addr × HO)} {o u : HO} (x : LawS C H A S pn pc ph kvsC ((p, u) :: rest)) (pu : Plain u) : LawS C (upd H p o) A S pn pc ph kvsC ((p, o) :: rest) := by
  have e : (lawL S pn pc ph kvsC ++ (p, u) :: rest)[3]? = some (p, u) := rfl
  exact ⟨x.at_.oth (x.sep.get 3 e) pu (x.sep.far 3 e), x.ok, x.dk, x.sz, x.sep.set 3 e o, x.mc.stp (Stp.refl.upd (by simp [lawL]))⟩
def sp__law_make (K : PySem.W.Frag) (C : Ex) : Sp := S7 fun x a b c w v e H Q _ => ∃ A S pn pc ph kvsC rest pre g, x = .ref A.st ∧ a = .ref pn ∧ b = .ref ph ∧ c = .ref pc ∧ v = .bl (Option.isSome g) ∧ e = .int (S.gen + 1) ∧ (∀ H', Stp (stF A S) H (stF A S) H' → WordsV K H' w g) ∧ LawS C H A S pn pc ph kvsC (pre ++ rest) ∧
  (∀ ws, g = some ws → ∃ pw, w = .ref pw ∧ pre = [(pw, .lst (ws.map V.int))]) ∧ ∀ H' S' kvsC', LawS C H' A S' pn pc ph kvsC' rest → (∀ v r, RowAt H v r → RowAt H' v r) → S'.kvs.length ≤ S.kvs.length + 1 → S'.gen = S.gen → S'.dk = S.dk → Q (.bl true) H'
def t__law_make (K : PySem.W.Frag) (C : Ex) (E : XK) : TS :=
  tSeq (tAsg (uCall (sp__law_free K C) (WB E) (tCons (tVar 1) (tCons (tVar 2) (tNil)))) (gName 7))
  (tSeq (tAsg (tLst (tCons (tC (.str "refused")) (tCons (tC (.str "room")) (tNil)))) (gName 8))
  (tCut (tIfS (tTest (tOp (uGt) (tCB (uLen K) (tCons (tVar 7) (tNil))) (uFld C.Store "reserve" (tVar 0)))) (tAsg (tTup (tCons (tOp (uIx K) (tVar 7) (tC (.int 0))) (tCons (tVar 6) (tNil)))) (gName 8)) (tNext))
  (tSeq (tIfS (tTest (tOp (uNe K) (uCall (sp__law_do K C) (WB E) (tCons (tVar 0) (tCons (tC (.str "next")) (tCons (tC .non) (tCons (tC .non) (tNil)))))) (tVar 8))) (tRet (tC (.bl false))) (tNext))
  (tCut (tIfS (tNot (uTru K (tVar 5))) (tAsg (tLst (tCons (tC (.str "refused")) (tCons (tC (.str "invalid")) (tNil)))) (gName 8)) (tNext))
  (tSeq (tIfS (tTest (tOp (uNe K) (uCall (sp__law_do K C) (WB E) (tCons (tVar 0) (tCons (tC (.str "make")) (tCons (tC .non) (tCons (tVar 4) (tNil)))))) (tVar 8))) (tRet (tC (.bl false))) (tNext))
  (tCut (tIfS (uTru K (tCB (uIsi K .tuple) (tCons (tVar 8) (tCons (tC (.ty "tuple")) (tNil))))) (tSeq (tAsg (tC (.int 1)) (gSub (tVar 1) (tOp (uIx K) (tVar 8) (tC (.int 0))) uSet))
  (tSeq (sDPut (tVar 3) (tOp (uIx K) (tVar 8) (tC (.int 0))) (tCB (uList K) (tCons (tVar 4) (tNil))))
  (tAsg (tOp (uAdd K) (tOp (uIx K) (tVar 4) (tC (.int 0))) (tC (.int 1))) (gSub (tVar 4) (tC (.int 0)) uSet)))) (tNext))
  (tRet (tC (.bl true)))))))))
theorem pure__law_make {K : PySem.W.Frag} {C : Ex} {vs : List V} {H : Hp} {Q : VK} {E : XK} (F : Fa K C) (h : sp__law_make K C vs H Q E) : t__law_make K C E { nx := fun _ H' => Q .non H', rt := Q } (start ["_law_store", "_law_numbers", "_law_held", "_law_contents", "_law_words", "_law_valid", "_law_generation", "_law_free_here", "_law_due_here"] vs) H := by
  obtain ⟨x, a, b, c, w, v, e, rfl, A, S, pn, pc, ph, kvsC, rest, pre, g, rfl, rfl, rfl, rfl, rfl, rfl, hw, X, hg, kk⟩ := h
  have rs := X.ok.rs
  unfold t__law_make
  walk_at "run1"
  refine w_S2 ⟨pn, ph, S.sp.nums, S.sp.held, rfl, rfl, X.hn, X.hh, X.ok.spo.len, X.sz, fun H1 l7 s1 hl7 e7 => ?_⟩
  walk_at "run1"
  rename_i l8 hl8
  have X1 := (X.same s1).new (o := .lst [.str "refused", .str "room"]) (same_new hl8) hl8 upd_same
  have e72 := upd_old (o := .lst [.str "refused", .str "room"]) e7 hl8
  have s2 := same_updN (o := .lst [.str "refused", .str "room"]) s1 hl8
  generalize upd H1 l8 _ = H2 at *
  obtain ⟨dx, i2⟩ := X1.at_.ins
  unfold stO at i2
  have nil2 : rest.Sublist ((l8, HO.lst [.str "refused", .str "room"]) :: (pre ++ rest)) := (List.sublist_append_right _ _).cons _
  have nil2' : rest.Sublist ((l8, HO.lst [.str "refused", .str "room"]) :: (pre ++ rest)) := nil2
  by_cases hr : ((freeL S.sp.nums S.sp.held).length : Int) ≤ S.res
  · refine w_cutS ?_
    walk_at "run1"
    · rename_i h
      exact absurd h (by rw [List.length_map]; omega)
    walk_at "run1"
    refine w_S4 ⟨A, S, rfl, X1.at_, X1.ok, X1.dk, .inr (.inl ⟨rfl, fun _ l H3 s3 e3 => ?_, fun k t ef h => by omega⟩)⟩
    have X3 := X1.same s3
    have e8 := X3.sep.get 3 rfl
    walk_at "run1"
    refine w_neD (dt_strs e3) (dt_strs e8) (by decide) ⟨_, rfl⟩ ?_
    walk_at "run1"
    refine w_cutS ?_
    cases g with
    | none =>
      rw [show (none : Option (List Int)).isSome = false from rfl]
      walk_at "run1"
      rename_i l9 hl9
      have X4 := X3.same (same_new (o := .lst [.str "refused", .str "invalid"]) hl9)
      have e9 : upd H3 l9 (.lst [.str "refused", .str "invalid"]) l9 = some (.lst [.str "refused", .str "invalid"]) := upd_same
      have hw4 := hw _ (.same ((s2.trans s3).trans (same_new (o := .lst [.str "refused", .str "invalid"]) hl9)))
      have s14 := same_updN (o := .lst [.str "refused", .str "invalid"]) (s2.trans s3) hl9
      generalize upd H3 l9 _ = H4 at *
      refine w_S4 ⟨A, S, rfl, X4.at_, X4.ok, X4.dk, .inl ⟨rfl, none, hw4, fun _ l H5 s5 e5 => ?_, fun ws e => nomatch e⟩⟩
      have e95 := s5 _ _ e9
      walk_at "run1"
      refine w_neD (dt_strs e5) (dt_strs e95) (by decide) ⟨_, rfl⟩ ?_
      walk_at "run1"
      refine w_cutS ?_
      walk_at "run1"
      refine w_isiO (n := .tuple) .list (tyx_list (SqL.of e95)) ?_
      walk_at "run1"
      exact kk H5 S kvsC ((X4.same s5).sub nil2) (fun v r y => y.same (s14.trans s5)) (by omega) rfl rfl
    | some ws =>
      rw [show (some ws).isSome = true from rfl]
      walk_at "run1"
      have hw4 := hw _ (.same (s2.trans s3))
      refine w_S4 ⟨A, S, rfl, X3.at_, X3.ok, X3.dk, .inl ⟨rfl, some ws, hw4, (fun e => nomatch e), fun ws' _ => ⟨fun _ l H5 s5 e5 => ?_, fun k t ef h => by omega⟩⟩⟩
      have e95 := s5 _ _ e8
      walk_at "run1"
      refine w_neD (dt_strs e5) (dt_strs e95) (by decide) ⟨_, rfl⟩ ?_
      walk_at "run1"
      refine w_cutS ?_
      walk_at "run1"
      refine w_isiO (n := .tuple) .list (tyx_list (SqL.of e95)) ?_
      walk_at "run1"
      exact kk H5 S kvsC ((X3.same s5).sub nil2) (fun v r y => y.same ((s2.trans s3).trans s5)) (by omega) rfl rfl
  · cases ef : freeL S.sp.nums S.sp.held with
    | nil => rw [ef] at hr; exact absurd rs hr
    | cons k t =>
      obtain ⟨kl, kf, _⟩ := freeL_head ef
      have sz := X.sz
      rw [ef] at e72
      refine w_cutS ?_
      walk_at "run1"
      · rename_i h tp0 htp0
        have X2 := X1.new (o := .tup [.int (k : Nat), .int (S.gen + 1)]) (same_new htp0) htp0 upd_same
        have s3 := same_updN (o := .tup [.int (k : Nat), .int (S.gen + 1)]) s2 htp0
        generalize upd H2 tp0 _ = H3 at *
        refine w_S4 ⟨A, S, rfl, X2.at_, X2.ok, X2.dk, .inr (.inl ⟨rfl, fun h => by omega, fun k' t' ef' hr' H4 tp hS4 st4 htp e4 => ?_⟩)⟩
        rw [ef] at ef'
        cases ef'
        have X4 := X2.step hS4 (low_st X2.ok ef) st4 rfl rfl rfl rfl
        have rw4 : ∀ v r, RowAt H v r → RowAt H4 v r := fun v r y => X2.at_.row (by omega) st4 (y.same s3)
        have e8 := X4.sep.get 3 rfl
        walk_at "run1"
        refine w_neD (Dt.pair (SqT.of e4) Dt.int Dt.int) (Dt.pair (SqT.of e8) Dt.int Dt.int) (by decide) ⟨_, rfl⟩ ?_
        walk_at "run1"
        refine w_cutS ?_
        cases g with
        | none =>
          rw [show (none : Option (List Int)).isSome = false from rfl]
          walk_at "run1"
          rename_i l9 hl9
          have X5 := X4.same (same_new (o := .lst [.str "refused", .str "invalid"]) hl9)
          have e9 : upd H4 l9 (.lst [.str "refused", .str "invalid"]) l9 = some (.lst [.str "refused", .str "invalid"]) := upd_same
          have s45 := same_new (o := .lst [.str "refused", .str "invalid"]) hl9
          have hw5 := hw _ (((Stp.same s3).trans st4).trans (.same (same_new (o := .lst [.str "refused", .str "invalid"]) hl9)))
          generalize upd H4 l9 _ = H5 at *
          refine w_S4 ⟨A, _, rfl, X5.at_, X5.ok, X5.dk, .inl ⟨rfl, none, hw5, fun _ l H6 s6 e6 => ?_, fun ws e => nomatch e⟩⟩
          have e96 := s6 _ _ e9
          walk_at "run1"
          refine w_neD (dt_strs e6) (dt_strs e96) (by decide) ⟨_, rfl⟩ ?_
          walk_at "run1"
          refine w_cutS ?_
          walk_at "run1"
          refine w_isiO (n := .tuple) .list (tyx_list (SqL.of e96)) ?_
          walk_at "run1"
          exact kk H6 _ kvsC ((X5.same s6).sub (nil2'.cons _)) (fun v r y => (rw4 v r y).same (s45.trans s6)) (Nat.le_succ _) rfl rfl
        | some ws =>
          obtain ⟨pw, rfl, rfl⟩ := hg ws rfl
          rw [show (some ws).isSome = true from rfl]
          walk_at "run1"
          have hw4 := hw _ ((Stp.same s3).trans st4)
          obtain ⟨b, _⟩ := hw4.list
          refine w_S4 ⟨A, _, rfl, X4.at_, X4.ok, X4.dk, .inl ⟨rfl, some ws, hw4, (fun e => nomatch e), fun ws' e => ⟨fun h => absurd h hr, fun k' t' ef' hr' H5 lm tp' hS5 st5 htp' e5 => ?_⟩⟩⟩
          cases e
          have ef' : freeL S.sp.nums S.sp.held = k' :: t' := ef'
          rw [ef] at ef'
          cases ef'
          have sep5 := X4.sep.stp st5
          have e85 := sep5.get 3 rfl
          have hn5 : H5 pn = some (.lst (S.sp.nums.map V.int)) := sep5.get 0 rfl
          have ok5 := make_st (l := lm) (ws := ws) X4.ok ef
          have h5 : 5 ≤ k := by
            rcases Nat.lt_or_ge k 5 with q | q
            · have := (X.ok.lo5 k q).1
              have := of_decide_eq_true (Bool.and_eq_true_iff.mp kf).1
              omega
            · exact q
          walk_at "run1"
          refine w_neD (Dt.pair (SqT.of e5) Dt.int Dt.int) (Dt.pair (SqT.of e85) Dt.int Dt.int) (by decide) ⟨_, rfl⟩ ?_
          walk_at "run1"
          refine w_cutS ?_
          walk_at "run1"
          refine w_isi_tuple_T (SqT.of e85) ?_
          walk_at "run1"
          refine w_setL hn5 ⟨by omega, by rw [List.length_map]; omega⟩ ?_
          rw [Int.toNat_natCast]
          have rw6 : ∀ v r, RowAt H v r → RowAt (upd H5 pn (.lst ((S.sp.nums.map V.int).set k (.int 1)))) v r := fun v r y => row_upd hn5 (plain_len (by omega)) _ _ (X4.at_.row (by show S.sp.nums.length ≠ 8; omega) st5 (rw4 v r y))
          have sep6 := sep5.set 0 rfl (.lst ((S.sp.nums.map V.int).set k (.int 1)))
          generalize hH6 : upd H5 pn (.lst ((S.sp.nums.map V.int).set k (.int 1))) = H6 at *
          have hp6 := sep6.get 5 rfl
          have ht6 := sep6.get 3 rfl
          have hc6 := sep6.get 1 rfl
          walk_at "run1"
          refine w_tlist (SqL.of hp6) fun lc hlc => ?_
          have s7 := same_new (o := .lst (ws.map V.int)) hlc
          have e7c : upd H6 lc (.lst (ws.map V.int)) lc = some (.lst (ws.map V.int)) := upd_same
          generalize upd H6 lc _ = H7 at *
          have X8 := X4.made hS5 ok5 st5 rfl rfl (contC_put h5 (by omega)) rfl b (hH6 ▸ s7) (hH6 ▸ hlc) e7c
          have ht7 := s7 _ _ ht6
          have hc7 := s7 _ _ hc6
          have cl := contC_len X
          walk_at "run1"
          refine w_dputI hc7 (by omega) ?_
          have hp8 := X8.sep.get 5 rfl
          have rw8 : ∀ v r, RowAt H v r → RowAt (upd H7 pc (.dK (putK kvsC (.inl (k : Nat)) (.ref lc)))) v r := fun v r y => row_upd hc7 plain_dK _ _ ((rw6 v r y).same s7)
          generalize upd H7 pc _ = H8 at *
          have l32 := b.1
          walk_at "run1"
          refine w_setL hp8 ⟨by omega, by rw [List.length_map]; show 0 < _; omega⟩ ?_
          walk_at "run1"
          have X9 := (X8.sub (((List.Sublist.refl _).cons _).cons _)).own (o := .lst ((ws.map V.int).set (0 : Int).toNat (.int (ws.getD (0 : Int).toNat 0 + 1)))) (plain_len (by omega))
          exact kk _ _ _ (X9.sub ((List.Sublist.refl _).cons _)) (fun v r y => row_upd hp8 (plain_len (by omega)) _ _ (rw8 v r y)) (by have z := length_putK S.kvs (Sum.inl ((k : Nat) : Int)) (V.ref lm); show (putK S.kvs (Sum.inl ((k : Nat) : Int)) (V.ref lm)).length ≤ _; omega) rfl rfl
      · rename_i h
        exact absurd (by rw [List.length_map]; rw [ef] at hr; omega) h
def newL (S : StS) : List Nat := (List.range 96).filter fun i => decide (0 < S.sp.nums.getD i 0) && !S.sp.held.getD i false
theorem newL_eq {S : StS} (ok : StOk S) (sz : S.sp.nums.length = 96) : ((List.range S.sp.nums.length).filter fun i => (S.cont (i : Nat)).isSome) = newL S := by
  unfold newL
  rw [sz]
  refine List.filter_congr fun i hi => ?_
  have hi := List.mem_range.mp hi
  rw [Bool.eq_iff_iff, ok.new i]
  simp [sz, hi]
theorem natV_ints (l : List Nat) : natV l = (l.map fun i => ((i : Nat) : Int)).map V.int := by
  unfold natV
  rw [List.map_map]
  rfl
theorem blkS_len {S : StS} {H : Hp} {B : List Addr} (x : MemAt H B S.kvs S.cont) (dk : Dsk S) {z : Int} (h0 : 0 ≤ z) (h1 : z < S.sp.nums.length) : (blkS S z).length = 32 := by
  unfold blkS
  rcases x.v z with ⟨_, b⟩ | ⟨_, ws, _, b, _, c, _⟩
  · rw [b]
    exact rdB4_len dk h0 h1 4 (Nat.le_refl 4)
  · rw [b]
    exact c.1
def sp__law_end (K : PySem.W.Frag) (C : Ex) : Sp := S5 fun x a b c e H Q _ => ∃ A S pn pc ph pi kvsC vs rest, x = .ref A.st ∧ a = .ref pn ∧ b = .ref ph ∧ c = .ref pc ∧ e = .ref pi ∧ LawS C H A S pn pc ph kvsC ((pi, .lst vs) :: rest) ∧ RowsAt H vs (imgD S.dk) ∧ S.dk.wr = [] ∧ S.kvs.length < 64 ∧ ∀ H', Q (.bl true) H'
def t__law_end (K : PySem.W.Frag) (C : Ex) (E : XK) : TS :=
  tSeq (tAsg (tCB (uLen K) (tCons (uCall (sp__law_free K C) (WB E) (tCons (tVar 1) (tCons (tVar 2) (tNil)))) (tNil))) (gName 5))
  (tSeq (tIfS (tOr (tTest (tOp (uNe K) (uMeth C.Store "free" (sp_Store_free K C) (WB E) (tVar 0) (tNil)) (tVar 5))) (tOr (tTest (tOp (uNe K) (uMeth C.Disk "image" (sp_Disk_image K C) (WB E) (uFld C.Store "disk" (tVar 0)) (tNil)) (tVar 4))) (tTest (tOp (uNe K) (uMeth C.Disk "waiting" (sp_Disk_waiting K C) (WB E) (uFld C.Store "disk" (tVar 0)) (tNil)) (tLst (tNil)))))) (tRet (tC (.bl false))) (tNext))
  (tSeq (tIfS (tTest (tOp (uNe K) (uMeth C.Store "new_blocks" (sp_Store_new_blocks K C) (WB E) (tVar 0) (tNil)) (tLc (iRng1 (tCons (tC (.int 96)) (tNil))) (gName 9) (tAnd (tTest (tOp (uGt) (tOp (uIx K) (tVar 1) (tVar 9)) (tC (.int 0)))) (tNot (uTru K (tOp (uIx K) (tVar 2) (tVar 9))))) (tVar 9) [9]))) (tRet (tC (.bl false))) (tNext))
  (tSeq (tDrop (uMeth C.Store "use_reserve" (sp_Store_use_reserve K C) (WB E) (tVar 0) (tCons (tOp (uDiv) (tVar 5) (tC (.int 2))) (tNil))))
  (tSeq (tFor (iList K (tLst (tCons (tC (.int 0)) (tCons (tOp (uSub) (tVar 5) (uFld C.Store "reserve" (tVar 0))) (tCons (tOp (uAdd K) (tOp (uSub) (tVar 5) (uFld C.Store "reserve" (tVar 0))) (tC (.int 1))) (tNil)))))) (gName 6)
  (tSeq (tAsg (tC .non) (gName 7))
  (tCut (tIfS (tTest (tOp (uLt K) (tVar 5) (tOp (uAdd K) (tVar 6) (uFld C.Store "reserve" (tVar 0))))) (tAsg (tLst (tCons (tC (.str "refused")) (tCons (tC (.str "room")) (tNil)))) (gName 7)) (tNext))
  (tIfS (tTest (tOp (uNe K) (uCall (sp__law_do K C) (WB E) (tCons (tVar 0) (tCons (tC (.str "require")) (tCons (tVar 6) (tCons (tC .non) (tNil)))))) (tVar 7))) (tRet (tC (.bl false))) (tNext)))))
  (tSeq (tFor (iRng2 (tCons (tC (.int 5)) (tCons (tC (.int 96)) (tNil)))) (gName 8)
  (tIfS (tNot (uTru K (uCall (sp__law_is_block K C) (WB E) (tCons (uMeth C.Store "read" (sp_Store_read K C) (WB E) (tVar 0) (tCons (tTup (tCons (tVar 8) (tCons (tC (.int 3)) (tNil)))) (tNil))) (tCons (tDGet (tVar 3) (tVar 8)) (tNil)))))) (tRet (tC (.bl false))) (tNext)))
  (tRet (tC (.bl true))))))))
theorem pure__law_end {K : PySem.W.Frag} {C : Ex} {vs : List V} {H : Hp} {Q : VK} {E : XK} (F : Fa K C) (h : sp__law_end K C vs H Q E) : t__law_end K C E { nx := fun _ H' => Q .non H', rt := Q } (start ["_law_store", "_law_numbers", "_law_held", "_law_contents", "_law_image", "_law_free_here", "_law_many", "_law_due_here", "_law_number", "_law_k"] vs) H := by
  obtain ⟨x, a, b, c, e, rfl, A, S, pn, pc, ph, pi, kvsC, vs, rest, rfl, rfl, rfl, rfl, rfl, X, hr, wr, kl, kk⟩ := h
  have sz := X.sz
  unfold t__law_end
  walk_at "run1"
  refine w_S2 ⟨pn, ph, S.sp.nums, S.sp.held, rfl, rfl, X.hn, X.hh, X.ok.spo.len, X.sz, fun H1 l7 s1 hl7 e7 => ?_⟩
  have X1 := X.same s1
  obtain ⟨dx, i1⟩ := X1.at_.ins
  unfold stO at i1
  obtain ⟨dd, k1⟩ := X1.at_.dk.ins
  unfold dkO at k1
  walk_at "run1"
  refine w_S1 ⟨A, S, rfl, X1.at_, ?_⟩
  have ef : ((natV (freeL S.sp.nums S.sp.held)).length : Int) = ((freeL S.sp.nums S.sp.held).length : Nat) := by rw [List.length_map]
  walk_at "run1"
  · rename_i h
    exact absurd ef.symm h
  walk_at "run1"
  refine w_S1 ⟨A.d, A.a, A.w, A.n, S.dk, rfl, X1.at_.dk, X1.dk.ok, fun p2 hp2 H2 vs2 s2 e2 r2 => ?_⟩
  have X2 := X1.same s2
  have hi2 := X2.sep.get 3 rfl
  have i2 := s2 _ _ i1
  have k2 := s2 _ _ k1
  walk_at "run1"
  refine w_neD (Dt.list (SqL.of e2) r2.dt) (Dt.list (SqL.of hi2) (hr.same (s1.trans s2)).dt) (by decide) ⟨_, rfl⟩ ?_
  walk_at "run1"
  refine w_S1 ⟨A.d, A.a, A.w, A.n, S.dk, rfl, X2.at_.dk, by rw [wr]; exact Nat.zero_le _, fun p3 hp3 H3 vs3 s3 e3 r3 => ?_⟩
  have v3 : vs3 = [] := by
    have z := r3.1
    rw [wr] at z
    exact List.eq_nil_of_length_eq_zero z
  subst v3
  have X3 := X2.same s3
  have i3 := s3 _ _ i2
  walk_at "run1"
  rename_i l4 hl4
  refine w_neD (α := List Int) (a := ([] : List Int)) (b := ([] : List Int)) (Dt.list (SqL.of (upd_old e3 hl4)) DtAll.nil) (Dt.list (SqL.of upd_same) DtAll.nil) (by decide) ⟨_, rfl⟩ ?_
  have X4 := X3.same (same_new (o := .lst []) hl4)
  generalize upd H3 l4 _ = H4 at *
  have i4 := X4.at_.ins
  obtain ⟨dx4, i4⟩ := i4
  unfold stO at i4
  walk_at "run1"
  refine w_S1 ⟨A, S, rfl, X4.at_, X4.ok, kl, fun l5 H5 s5 hl5 e5 => ?_⟩
  rw [newL_eq X.ok sz] at e5
  have X5 := X4.same s5
  have hn5 := X5.hn
  have hh5 := X5.hh
  have len := X.ok.spo.len
  walk_at "run1"
  refine l_range (fun D i H6 => Same H5 H6 ∧ H6 D = some (.lst (natV ((List.range i).filter fun i => decide (0 < S.sp.nums.getD i 0) && !S.sp.held.getD i false)))) (fun D hD => ⟨same_new hD, upd_same⟩) ?_ ?_
  · rintro D i H6 hD hi ⟨s6, e6⟩
    have hi : i < 96 := hi
    have hn6 := s6 _ _ hn5
    have hh6 := s6 _ _ hh5
    have ei : (0 + (i : Int)).toNat = i := by omega
    have lf : ((List.range i).filter fun i => decide (0 < S.sp.nums.getD i 0) && !S.sp.held.getD i false).length ≤ i := Nat.le_trans (List.length_filter_le _ _) (by rw [List.length_range]; exact Nat.le_refl _)
    have skip : (decide (0 < S.sp.nums.getD i 0) && !S.sp.held.getD i false) = false → Same H5 H6 ∧ H6 D = some (.lst (natV ((List.range (i + 1)).filter fun i => decide (0 < S.sp.nums.getD i 0) && !S.sp.held.getD i false))) := fun f => by
      refine ⟨s6, ?_⟩
      rw [List.range_succ, List.filter_append, e6]
      simp only [List.filter_cons, f, List.filter_nil]
      simp
    walk_at "run1"
    refine ⟨rfl, ?_⟩
    walk_at "run1"
    · rename_i f
      rw [ei] at f
      refine ifBN (fun g => ?_) (fun g => ?_)
      · rw [ei] at g
        walk_at "run1"
        refine ⟨_, e6, by rw [List.length_map]; exact lt_line (by omega), same_upd s6 hD, ?_⟩
        rw [upd_same, List.range_succ, List.filter_append]
        unfold natV
        rw [List.map_append]
        have fi : (decide (0 < S.sp.nums.getD i 0) && !S.sp.held.getD i false) = true := by rw [decide_eq_true f, g]; rfl
        rw [show ([i].filter fun i => decide (0 < S.sp.nums.getD i 0) && !S.sp.held.getD i false) = [i] by simp only [List.filter_cons, fi, List.filter_nil, if_true], Int.zero_add]
        rfl
      · rw [ei] at g
        walk_at "run1"
        exact skip (by rw [g]; simp)
    · walk_at "run1"
      rename_i f
      rw [ei] at f
      exact skip (by rw [decide_eq_false f]; rfl)
  · rintro D H6 hD ⟨s6, e6⟩
    have e6 : H6 D = some (.lst (natV (newL S))) := e6
    have X6 := X5.same s6
    have e56 := s6 _ _ e5
    have e56 : H6 l5 = some (.lst (natV (newL S))) := e56
    rw [natV_ints] at e6 e56
    walk_at "run1"
    refine w_neD (Dt.list (SqL.of e56) (DtAll.ints _)) (Dt.list (SqL.of e6) (DtAll.ints _)) (by decide) ⟨_, rfl⟩ ?_
    obtain ⟨dx6, i6⟩ := X6.at_.ins
    unfold stO at i6
    walk_at "run1"
    rw [ef]
    refine w_S2 ⟨A, S, _, rfl, rfl, X6.at_, fun H7 hS7 st7 => ?_⟩
    have X7 := X6.step hS7 (res_st X6.ok (by omega)) st7 rfl rfl rfl rfl
    clear s6 e6 e56 X6 i6 X5 hn5 hh5 e5 s5 X4 i4 e3 X3 i3 e2 r2 X2 hi2 i2 k2 X1 i1 k1 hS7 st7
    obtain ⟨dx7, i7⟩ := X7.at_.ins
    unfold stO at i7
    generalize hn : ((freeL S.sp.nums S.sp.held).length : Int) = n at *
    walk_at "run1"
    rename_i l8 hl8
    refine f_list (xs := [.int 0, .int (n - n / 2), .int (n - n / 2 + 1)]) (fun i σ H' => ∃ v6 v7 : Option V, σ = [some (.ref A.st), some (.ref pn), some (.ref ph), some (.ref pc), some (.ref pi), some (.int n), v6, v7, none, none] ∧ Same H7 H' ∧ H' l8 = some (.lst [.int 0, .int (n - n / 2), .int (n - n / 2 + 1)]))
      ⟨none, none, rfl, same_new hl8, upd_same⟩ (by rintro i σ H' _ ⟨_, _, _, _, e⟩; exact SqL.of e) ?_ ?_
    · rintro i x σ H8 hx ⟨v6, v7, rfl, s8, e8⟩
      have hy : ∃ y : Int, x = .int y := by
        have hm := List.mem_of_getElem? hx
        simp only [List.mem_cons, List.not_mem_nil, or_false] at hm
        rcases hm with h | h | h <;> exact ⟨_, h⟩
      obtain ⟨y, rfl⟩ := hy
      have X8 := X7.same s8
      have i8 := s8 _ _ i7
      walk_at "run1"
      refine w_cutS ?_
      walk_at "run1"
      · rename_i hb l9 hl9
        have hb : n < y + n / 2 := hb
        have X9 := X8.same (same_new (o := .lst [.str "refused", .str "room"]) hl9)
        have s9 := same_updN (o := .lst [.str "refused", .str "room"]) s8 hl9
        have e9 : upd H8 l9 (.lst [.str "refused", .str "room"]) l9 = some (.lst [.str "refused", .str "room"]) := upd_same
        have e89 := upd_old (o := .lst [.str "refused", .str "room"]) e8 hl9
        generalize upd H8 l9 _ = H9 at *
        refine w_S4 ⟨A, _, rfl, X9.at_, X9.ok, X9.dk, .inr (.inr (.inr (.inr (.inr (.inr (.inr (.inl ⟨rfl, y, rfl, fun _ l H10 s10 e10 => ?_, fun h => ?_⟩)))))))⟩
        · walk_at "run1"
          refine w_neD (dt_strs e10) (dt_strs (s10 _ _ e9)) (by decide) ⟨_, rfl⟩ ?_
          walk_at "run1"
          exact ⟨_, _, rfl, s9.trans s10, s10 _ _ e89⟩
        · exfalso
          have h : y + n / 2 ≤ ((freeL S.sp.nums S.sp.held).length : Int) := h
          omega
      · rename_i hb
        have hb : ¬ n < y + n / 2 := hb
        walk_at "run1"
        refine w_S4 ⟨A, _, rfl, X8.at_, X8.ok, X8.dk, .inr (.inr (.inr (.inr (.inr (.inr (.inr (.inl ⟨rfl, y, rfl, fun h => ?_, fun h => ?_⟩)))))))⟩
        · exfalso
          have h : ((freeL S.sp.nums S.sp.held).length : Int) < y + n / 2 := h
          omega
        · walk_at "run1"
          exact ⟨_, _, rfl, s8, e8⟩
    · rintro σ H8 ⟨v6, v7, rfl, s8, e8⟩
      have X8 := X7.same s8
      walk_at "run1"
      refine f_range (fun i σ H' => ∃ v8 : Option V, σ = [some (.ref A.st), some (.ref pn), some (.ref ph), some (.ref pc), some (.ref pi), some (.int n), v6, v7, v8, none] ∧ Same H8 H') ⟨none, rfl, L2.Same.refl _⟩ ?_ ?_
      · rintro i σ H9 hi ⟨v8, rfl, s9⟩
        have hi : i < 91 := hi
        have X9 := X8.same s9
        obtain ⟨dx9, i9⟩ := X9.at_.ins
        unfold stO at i9
        walk_at "run1"
        rename_i tp htp
        have X10 := X9.same (same_new (o := .tup [.int (5 + (i : Int)), .int 3]) htp)
        have s10 := same_updN (o := .tup [.int (5 + (i : Int)), .int 3]) s9 htp
        have e10 : upd H9 tp (.tup [.int (5 + (i : Int)), .int 3]) tp = some (.tup [.int (5 + (i : Int)), .int 3]) := upd_same
        generalize upd H9 tp _ = H10 at *
        refine w_S2 ⟨A, _, _, rfl, ⟨tp, _, rfl, SqT.of e10⟩, X10.at_, X10.ok, X10.dk, fun h => ?_, fun h0 h1 l H11 s11 hl e11 => ?_⟩
        · exfalso
          have h : 5 + (i : Int) < 5 ∨ ((S.sp.nums.length : Nat) : Int) ≤ 5 + (i : Int) := h
          omega
        · have X11 := X10.same s11
          have hc := X11.hc
          have b32 : (blkS S (5 + (i : Int))).length = 32 := blkS_len X.at_.mr X.dk (by omega) (by omega)
          rcases X11.mc.v (5 + (i : Int)) with ⟨_, g⟩ | ⟨p, ws, g1, g2, g3, g4, _⟩
          · exfalso
            unfold contC at g
            rw [if_pos (by omega)] at g
            cases g
          · unfold contC at g2
            rw [if_pos (by omega)] at g2
            have g2 : some (blkS S (5 + (i : Int))) = some ws := g2
            cases g2
            walk_at "run1"
            refine w_dgetI hc g1 ?_
            walk_at "run1"
            refine w_S2 ⟨l, p, blkS S (5 + (i : Int)), rfl, rfl, SqL.of e11, SqL.of g3, b32, ?_⟩
            walk_at "run1"
            exact ⟨_, rfl, s10.trans s11⟩
      · rintro σ H9 ⟨v8, rfl, s9⟩
        walk_at "run1"
        exact kk _
theorem fm_congr {f g : Nat → List Int} : ∀ {l : List Nat}, (∀ p ∈ l, f p = g p) → l.flatMap f = l.flatMap g
  | [], _ => rfl
  | a :: l, h => by rw [List.flatMap_cons, List.flatMap_cons, h a (List.mem_cons_self ..), fm_congr fun p hp => h p (List.mem_cons_of_mem _ hp)]
theorem putB_rd {D : DiskS} {k j : Int} {ws : List Int} {p : Nat} (hp : p < 4) : ∀ i, i ≤ 4 → rdS (putB D k ws i) (4 * j + (p : Int)) = if j = k ∧ p < i then (ws.drop (8 * p)).take 8 else rdS D (4 * j + (p : Int))
  | 0, _ => by rw [if_neg (by omega)]; rfl
  | i + 1, hi => by
    show rdS (pushW (putB D k ws i) (4 * k + (i : Int)) ((ws.drop (8 * i)).take 8)) _ = _
    rw [rd_push, putB_rd hp i (by omega)]
    by_cases q : j = k ∧ p = i
    · obtain ⟨rfl, rfl⟩ := q
      rw [if_pos rfl, if_pos ⟨rfl, Nat.lt_succ_self _⟩]
    · rw [if_neg (by omega)]
      by_cases r : j = k ∧ p < i
      · rw [if_pos r, if_pos ⟨r.1, by omega⟩]
      · rw [if_neg r, if_neg (by omega)]
theorem chunks {ws : List Int} (h : ws.length = 32) : ((List.range 4).flatMap fun p => (ws.drop (8 * p)).take 8) = ws := by
  rw [show List.range 4 = [0, 1, 2, 3] from rfl]
  simp only [List.flatMap_cons, List.flatMap_nil, List.append_nil]
  have e3 : (ws.drop (8 * 3)).take 8 = ws.drop 24 := List.take_of_length_le (by rw [List.length_drop, h]; decide)
  have e2 : (ws.drop (8 * 2)).take 8 ++ ws.drop 24 = ws.drop 16 := by
    have z := List.take_append_drop 8 (ws.drop 16)
    rw [List.drop_drop] at z
    exact z
  have e1 : (ws.drop (8 * 1)).take 8 ++ ws.drop 16 = ws.drop 8 := by
    have z := List.take_append_drop 8 (ws.drop 8)
    rw [List.drop_drop] at z
    exact z
  rw [e3, e2, e1]
  exact List.take_append_drop 8 ws
theorem rdB4_put {D : DiskS} {k j : Int} {ws : List Int} (h : ws.length = 32) : rdB4 (putB D k ws 4) j 4 = if j = k then ws else rdB4 D j 4 := by
  unfold rdB4
  by_cases q : j = k
  · rw [if_pos q]
    refine Eq.trans (fm_congr fun p hp => ?_) (chunks h)
    have hp := List.mem_range.mp hp
    rw [putB_rd hp 4 (Nat.le_refl 4), if_pos ⟨q, hp⟩]
  · rw [if_neg q]
    refine fm_congr fun p hp => ?_
    have hp := List.mem_range.mp hp
    rw [putB_rd hp 4 (Nat.le_refl 4), if_neg (fun z => q z.1)]
theorem rdB4_new {j : Int} (h0 : 0 ≤ j) (h1 : j < 96) : rdB4 (newD 96) j 4 = List.replicate 32 0 := by
  unfold rdB4
  have e : ∀ p ∈ List.range 4, rdS (newD 96) (4 * j + (p : Int)) = List.replicate 8 0 := fun p hp => by
    have hp := List.mem_range.mp hp
    exact rd_new (by omega) (by omega)
  rw [fm_congr e]
  rfl
/-- what stands while the law sets out -/
structure SetS (C : Ex) (H : Hp) (d a w n pn pc q : Addr) (D : DiskS) (ns ts : List Int) (kvsC : List (Key × V)) (i : Nat) : Prop where
  dk : DiskAt C H d a w n D
  on : DskOn D 96 (4 * i)
  sz : D.secs.length = 384
  ln : ns.length = 96
  nn : ∀ z ∈ ns, 0 ≤ z
  l5 : ∀ j : Nat, j < 5 → ns.getD j 0 = 1
  sep : Sep (dkF d a w n) H [(pn, .lst (ns.map V.int)), (pc, .dK kvsC), (q, .lst (ts.map V.int))]
  mc : MemAt H ([pn, pc, q] ++ dkF d a w n) kvsC fun j => if 5 ≤ j ∧ j < 5 + (i : Int) then some (rdB4 D j 4) else none
  zr : ∀ j : Int, 5 + (i : Int) ≤ j → j < 96 → rdB4 D j 4 = List.replicate 32 0
section sets
variable {C : Ex} {H H' : Hp} {d a w n pn pc q : Addr} {D : DiskS} {ns ts : List Int} {kvsC : List (Key × V)} {i : Nat}
theorem SetS.same (x : SetS C H d a w n pn pc q D ns ts kvsC i) (s : Same H H') : SetS C H' d a w n pn pc q D ns ts kvsC i :=
  ⟨x.dk.same s, x.on, x.sz, x.ln, x.nn, x.l5, x.sep.same s, x.mc.stp (.same s), x.zr⟩
theorem SetS.len (x : SetS C H d a w n pn pc q D ns ts kvsC i) (h : i ≤ 91) : kvsC.length ≤ 96 := mem_len x.mc fun k h => by
  split at h
  · rename_i z
    omega
  · cases h
/-- an unused block's content -/
theorem SetS.zero (x : SetS C H d a w n pn pc q D ns ts kvsC i) (hi : i < 91) {l : Addr} (s : Same H H') (hl : H l = none) (e : H' l = some (.lst ((List.replicate 32 (0 : Int)).map V.int))) : SetS C (upd H' pc (.dK (putK kvsC (.inl (5 + (i : Int))) (.ref l)))) d a w n pn pc q D ns ts (putK kvsC (.inl (5 + (i : Int))) (.ref l)) (i + 1) := by
  have X := x.same s
  have nl : l ∉ [pn, pc, q] ++ dkF d a w n := fun h => by
    rcases List.mem_append.mp h with h | h
    · have o := x.sep.own
      simp only [List.mem_cons, List.not_mem_nil, or_false] at h
      rcases h with rfl | rfl | rfl
      · have := x.sep.get 0 rfl; rw [hl] at this; cases this
      · have := x.sep.get 1 rfl; rw [hl] at this; cases this
      · have := x.sep.get 2 rfl; rw [hl] at this; cases this
    · exact x.dk.fresh hl h
  have fr : ∀ b o', H' b = some o' → b ∉ [pc] → upd H' pc (.dK (putK kvsC (.inl (5 + (i : Int))) (.ref l))) b = some o' := fun b o' e z => upd_oth e fun y => z (by rw [y]; simp)
  have m1 := (x.mc.put (k := 5 + (i : Int)) s e ⟨by rw [List.length_replicate], fun z hz => by rw [List.eq_of_mem_replicate hz]; decide⟩ nl).stp (Stp.refl.upd (p := pc) (o := .dK (putK kvsC (.inl (5 + (i : Int))) (.ref l))) (by simp))
  refine ⟨X.dk.frame fr (fun b hb => ?_) (fun b hb => ?_), ⟨x.on.ok, x.on.lf, x.on.pw, x.on.bl, x.on.r8, by have := x.on.wl; omega⟩, x.sz, x.ln, x.nn, x.l5, X.sep.set 1 rfl (.dK (putK kvsC (.inl (5 + (i : Int))) (.ref l))), ?_, fun j h0 h1 => x.zr j (by omega) h1⟩
  · rw [List.mem_singleton.mp hb]
    exact X.sep.far 1 rfl
  · rw [List.mem_singleton.mp hb]
    exact ⟨_, X.sep.get 1 rfl, plain_dK⟩
  · refine ⟨m1.ks, m1.nd, fun k => ?_⟩
    have z := m1.v k
    by_cases e1 : k = 5 + (i : Int)
    · rw [if_pos e1] at z
      rw [if_pos (by omega), x.zr k (by omega) (by omega)]
      exact z
    · rw [if_neg e1] at z
      by_cases e2 : 5 ≤ k ∧ k < 5 + (i : Int)
      · rw [if_pos e2] at z
        rw [if_pos (by omega)]
        exact z
      · rw [if_neg e2] at z
        rw [if_neg (by omega)]
        exact z
/-- another object is written -/
theorem SetS.pcw (x : SetS C H d a w n pn pc q D ns ts kvsC i) {o : HO} : DiskAt C (upd H pc o) d a w n D :=
  x.dk.frame (X := [pc]) (fun b o' e z => upd_oth e fun y => z (by rw [y]; simp)) (fun b hb => by rw [List.mem_singleton.mp hb]; exact x.sep.far 1 rfl) (fun b hb => by rw [List.mem_singleton.mp hb]; exact ⟨_, x.sep.get 1 rfl, plain_dK⟩)
theorem SetS.block {H2 : Hp} {ws : List Int} {l : Addr} (x : SetS C H d a w n pn pc q D ns ts kvsC (i + 1)) (on : DskOn D 96 (4 * i)) (hi : i < 20) (s : Same H H') (hl : H l = none) (e : H' l = some (.lst (ws.map V.int))) (b : Blk ws)
    (hD : DiskAt C H2 d a w n (putB D (5 + (i : Int)) ws 4)) (st : Stp (dkF d a w n) (upd H' pc (.dK (putK kvsC (.inl (5 + (i : Int))) (.ref l)))) (dkF d a w n) H2) : SetS C H2 d a w n pn pc q (putB D (5 + (i : Int)) ws 4) ns ts (putK kvsC (.inl (5 + (i : Int))) (.ref l)) (i + 1) := by
  have X := x.same s
  have nl : l ∉ [pn, pc, q] ++ dkF d a w n := fun h => by
    rcases List.mem_append.mp h with h | h
    · simp only [List.mem_cons, List.not_mem_nil, or_false] at h
      rcases h with rfl | rfl | rfl
      · have := x.sep.get 0 rfl; rw [hl] at this; cases this
      · have := x.sep.get 1 rfl; rw [hl] at this; cases this
      · have := x.sep.get 2 rfl; rw [hl] at this; cases this
    · exact x.dk.fresh hl h
  have m1 := ((x.mc.put (k := 5 + (i : Int)) s e b nl).stp (Stp.refl.upd (p := pc) (o := .dK (putK kvsC (.inl (5 + (i : Int))) (.ref l))) (by simp))).stp st.more
  have o4 := putB_on (n := 5 + (i : Int)) on (by omega) (by rw [x.sz]; omega) b.1 (by omega) 4 (Nat.le_refl 4)
  refine ⟨hD, ⟨o4.ok, o4.lf, o4.pw, o4.bl, o4.r8, by have := o4.wl; omega⟩, by rw [putB_secs]; exact x.sz, x.ln, x.nn, x.l5, (X.sep.set 1 rfl (.dK (putK kvsC (.inl (5 + (i : Int))) (.ref l)))).stp st, ?_, fun j h0 h1 => by rw [rdB4_put b.1, if_neg (by omega)]; exact x.zr j h0 h1⟩
  refine ⟨m1.ks, m1.nd, fun k => ?_⟩
  have z := m1.v k
  by_cases e1 : k = 5 + (i : Int)
  · rw [if_pos e1] at z
    rw [if_pos (by omega), rdB4_put b.1, if_pos e1]
    exact z
  · rw [if_neg e1] at z
    rw [rdB4_put b.1, if_neg e1]
    exact z
theorem SetS.num {k : Nat} {y : Int} (x : SetS C H d a w n pn pc q D ns ts kvsC i) (h5 : 5 ≤ k) (y0 : 0 ≤ y) (hk : k < 96) : SetS C (upd H pn (.lst ((ns.map V.int).set k (.int y)))) d a w n pn pc q D (ns.set k y) ts kvsC i := by
  have ln := x.ln
  refine ⟨x.dk.frame (X := [pn]) (fun b o' e z => upd_oth e fun y => z (by rw [y]; simp)) (fun b hb => by rw [List.mem_singleton.mp hb]; exact x.sep.far 0 rfl) (fun b hb => by rw [List.mem_singleton.mp hb]; exact ⟨_, x.sep.get 0 rfl, plain_len (by omega)⟩), x.on, x.sz, by rw [List.length_set]; exact ln, fun z hz => ?_, fun j hj => ?_, ?_, x.mc.stp (Stp.refl.upd (by simp)), x.zr⟩
  · rcases List.mem_or_eq_of_mem_set hz with h | h
    · exact x.nn z h
    · rw [h]; exact y0
  · rw [getD_set (by omega), if_neg (by omega)]
    exact x.l5 j hj
  · rw [List.map_set]
    exact x.sep.set 0 rfl _
end sets
/-- an object is made: all that was stands -/
theorem same_made {H H' : Hp} {x dx : Addr} {o o' : HO} (hx : H x = none) (hdx : H dx = none) (f : ∀ c u, upd (upd H dx o) x o' c = some u → c ≠ x → H' c = some u) : Same H H' := fun c u h => by
  have n1 : c ≠ x := fun e => by rw [e, hx] at h; cases h
  have n2 : c ≠ dx := fun e => by rw [e, hdx] at h; cases h
  exact f c u (by rw [upd_ne n1, upd_ne n2]; exact h) n1
theorem none_made {H : Hp} {x dx b : Addr} {o o' : HO} (h : upd (upd H dx o) x o' b = none) : H b = none := (none_of_upd (none_of_upd h).1).1
theorem rdB4_flush {D : DiskS} {b : Int} {m : Nat} (on : DskOn D b m) {j : Int} (h0 : 0 ≤ j) (h1 : 4 * j + 4 ≤ D.secs.length) : rdB4 (flushD D) j 4 = rdB4 D j 4 := fm_congr fun p hp => by
  have hp := List.mem_range.mp hp
  exact rd_flush on (by omega) (by omega)
/-- the store as the law makes it -/
def firstS (nums : List Int) (D : DiskS) (g : Int) (tb : V) : StS := ⟨⟨nums, posL nums, 0⟩, D, [], fun _ => none, g, tb, .int 96, tb, 60⟩
theorem posL_getD {ns : List Int} {k : Nat} (h : k < ns.length) : (posL ns).getD k false = decide (0 < ns.getD k 0) := by
  unfold posL
  rw [List.getD_eq_getElem?_getD, List.getElem?_map, List.getD_eq_getElem?_getD, List.getElem?_eq_getElem h]
  rfl
theorem firstS_ok {nums : List Int} {D : DiskS} {g : Int} {tb : V} (ln : nums.length = 96) (nn : ∀ z ∈ nums, 0 ≤ z) (l5 : ∀ j : Nat, j < 5 → nums.getD j 0 = 1) : StOk (firstS nums D g tb) := by
  refine ⟨.zero (posL_len _).symm nn (by omega), by show 96 ≤ nums.length; omega, by show (0 : Int) ≤ 60; decide, fun k => ⟨(fun h => by cases h), fun h => ?_⟩, fun _ _ => rfl, fun i hi => ⟨by show 0 < nums.getD i 0; rw [l5 i hi]; decide, ?_⟩⟩
  · exfalso
    obtain ⟨h1, h2, h3⟩ := h
    have h1 : k < nums.length := h1
    have h2 : 0 < nums.getD k 0 := h2
    have h3 : (posL nums).getD k false = false := h3
    rw [posL_getD h1, decide_eq_true h2] at h3
    cases h3
  · show (posL nums).getD i false = true
    rw [posL_getD (by omega), l5 i hi]
    rfl
theorem dk_nodup {C : Ex} {H : Hp} {d a w n : Addr} {D : DiskS} (x : DiskAt C H d a w n D) : (dkF d a w n).Nodup := by
  obtain ⟨⟨dx, i⟩, ⟨vs, e1, _⟩, ⟨ws, e2, _⟩, ⟨kvs, e3, _⟩, ne⟩ := x
  have h1 : d ≠ a := ne_of i e1 fun z => nomatch z
  have h2 : d ≠ w := ne_of i e2 fun z => nomatch z
  have h3 : d ≠ n := ne_of i e3 fun z => nomatch z
  have h4 : a ≠ n := ne_of e1 e3 fun z => nomatch z
  have h5 : w ≠ n := ne_of e2 e3 fun z => nomatch z
  simp [dkF, h1, h2, h3, ne, h4, h5]
theorem sp_nodup {C : Ex} {H : Hp} {s a b : Addr} {S : SpS} (x : SpAt C H s a b S) : (spF s a b).Nodup := by
  obtain ⟨⟨dx, i⟩, e1, e2, ne⟩ := x
  have h1 : s ≠ a := ne_of i e1 fun z => nomatch z
  have h2 : s ≠ b := ne_of i e2 fun z => nomatch z
  simp [spF, h1, h2, ne]
/-- addresses that are held by and by are different -/
theorem nodup_store {st hd d a w n s sa sb : Addr} {H8 H9 H10 : Hp} (hd8 : H8 hd = none) (dk : (dkF d a w n).Nodup) (h8 : ∀ b ∈ dkF d a w n, H8 b ≠ none) (s89 : Same H8 H9) (hd9 : H9 hd ≠ none) (sp : (spF s sa sb).Nodup) (h9 : ∀ b ∈ spF s sa sb, H9 b = none) (s910 : Same H9 H10) (hs10 : ∀ b ∈ spF s sa sb, H10 b ≠ none) (st10 : H10 st = none) : [st, hd, d, a, w, n, s, sa, sb].Nodup := by
  have up89 : ∀ b, H8 b ≠ none → H9 b ≠ none := fun b h q => by
    cases e : H8 b with
    | none => exact h e
    | some o => rw [s89 b o e] at q; cases q
  have up910 : ∀ b, H9 b ≠ none → H10 b ≠ none := fun b h q => by
    cases e : H9 b with
    | none => exact h e
    | some o => rw [s910 b o e] at q; cases q
  have A : (dkF d a w n ++ spF s sa sb).Nodup := List.nodup_append.mpr ⟨dk, sp, fun x hx y hy e => up89 x (h8 x hx) (e ▸ h9 y hy)⟩
  have Bn : (hd :: (dkF d a w n ++ spF s sa sb)).Nodup := List.nodup_cons.mpr ⟨fun h => by
    rcases List.mem_append.mp h with h | h
    · exact h8 hd h hd8
    · exact hd9 (h9 hd h), A⟩
  exact List.nodup_cons.mpr ⟨fun h => by
    rcases List.mem_cons.mp h with h | h
    · exact up910 hd hd9 (h ▸ st10)
    · rcases List.mem_append.mp (show st ∈ dkF d a w n ++ spF s sa sb from h) with h | h
      · exact up910 st (up89 st (h8 st h)) st10
      · exact hs10 st h st10, Bn⟩
def gL (ns : List Int) (hs : List Bool) (pn pc ph : Addr) (kvsC : List (Key × V)) : List (Addr × HO) := [(pn, .lst (ns.map V.int)), (pc, .dK kvsC), (ph, .lst (hs.map V.bl))]
structure LawG (C : Ex) (H : Hp) (A : SA) (S : StS) (pn pc ph : Addr) (ns : List Int) (hs : List Bool) (kvsC : List (Key × V)) (cf : Int → Option (List Int)) (rest : List (Addr × HO)) : Prop where
  at_ : StAt C H A S
  ok : StOk S
  dk : Dsk S
  ln : ns.length = 96
  sep : Sep (stF A S) H (gL ns hs pn pc ph kvsC ++ rest)
  mc : MemAt H ((gL ns hs pn pc ph kvsC ++ rest).map (·.1) ++ stF A S) kvsC cf
section lawg
variable {C : Ex} {H H' : Hp} {A : SA} {S S' : StS} {pn pc ph : Addr} {ns : List Int} {hs : List Bool} {kvsC : List (Key × V)} {cf : Int → Option (List Int)} {rest : List (Addr × HO)}
theorem LawS.g (x : LawS C H A S pn pc ph kvsC rest) : LawG C H A S pn pc ph S.sp.nums S.sp.held kvsC (contC S) rest := ⟨x.at_, x.ok, x.dk, x.sz, x.sep, x.mc⟩
theorem LawG.s (x : LawG C H A S pn pc ph ns hs kvsC cf rest) (e1 : S.sp.nums = ns) (e2 : S.sp.held = hs) (e3 : contC S = cf) : LawS C H A S pn pc ph kvsC rest := by
  subst e1 e2 e3
  exact ⟨x.at_, x.ok, x.dk, x.ln, x.sep, x.mc⟩
theorem LawG.same (x : LawG C H A S pn pc ph ns hs kvsC cf rest) (s : Same H H') : LawG C H' A S pn pc ph ns hs kvsC cf rest :=
  ⟨x.at_.same s, x.ok, x.dk, x.ln, x.sep.same s, x.mc.stp (.same s)⟩
theorem LawG.step (x : LawG C H A S pn pc ph ns hs kvsC cf rest) (h : StAt C H' A S') (ok : StOk S') (st : Stp (stF A S) H (stF A S') H') (dk : Dsk S') : LawG C H' A S' pn pc ph ns hs kvsC cf rest :=
  ⟨h, ok, dk, x.ln, x.sep.stp st, x.mc.stp st.more⟩
theorem LawG.num {k : Nat} {y : Int} (x : LawG C H A S pn pc ph ns hs kvsC cf rest) : LawG C (upd H pn (.lst ((ns.map V.int).set k (.int y)))) A S pn pc ph (ns.set k y) hs kvsC cf rest := by
  have ln := x.ln
  refine ⟨x.at_.oth (x.sep.get 0 rfl) (plain_len (by omega)) (x.sep.far 0 rfl), x.ok, x.dk, by rw [List.length_set]; exact ln, ?_, x.mc.stp (Stp.refl.upd (by simp [gL]))⟩
  have z := x.sep.set 0 rfl (.lst ((ns.map V.int).set k (.int y)))
  have e : gL (ns.set k y) hs pn pc ph kvsC ++ rest = (gL ns hs pn pc ph kvsC ++ rest).set 0 (pn, .lst ((ns.map V.int).set k (.int y))) := by
    unfold gL
    rw [List.map_set]
    rfl
  rw [e]
  exact z
theorem LawG.put {k : Int} {l : Addr} {ws : List Int} (x : LawG C H A S pn pc ph ns hs kvsC cf rest) (s : Same H H') (hl : H l = none) (e : H' l = some (.lst (ws.map V.int))) (b : Blk ws) : LawG C (upd H' pc (.dK (putK kvsC (.inl k) (.ref l)))) A S pn pc ph ns hs (putK kvsC (.inl k) (.ref l)) (fun j => if j = k then some ws else cf j) rest := by
  have nl : l ∉ (gL ns hs pn pc ph kvsC ++ rest).map (·.1) ++ stF A S := fun q => by
    rcases List.mem_append.mp q with q | q
    · obtain ⟨y, hy, ey⟩ := List.mem_map.mp q
      have z := x.sep.own y hy
      rw [ey, hl] at z
      cases z
    · exact x.at_.fresh hl q
  have y := x.same s
  have m1 := (x.mc.put (k := k) s e b nl).stp (Stp.refl.upd (p := pc) (o := .dK (putK kvsC (.inl k) (.ref l))) (by simp [gL]))
  exact ⟨y.at_.oth (y.sep.get 1 rfl) plain_dK (y.sep.far 1 rfl), x.ok, x.dk, x.ln, y.sep.set 1 rfl (.dK (putK kvsC (.inl k) (.ref l))), m1⟩
end lawg
theorem Dsk.sp {S S' : StS} (x : Dsk S) (e1 : S'.dk = S.dk) (e2 : S'.sp.nums.length = S.sp.nums.length) : Dsk S' := ⟨e1 ▸ x.ok, e1 ▸ x.r8, e1 ▸ x.pw, by rw [e1, e2]; exact x.bl⟩
theorem contC_drop {S : StS} {k : Nat} (h5 : 5 ≤ k) (h9 : k < 96) : contC (dropM S k) = fun j : Int => if j = (k : Nat) then some (rdB4 S.dk (k : Nat) 4) else contC S j := funext fun j => by
  unfold contC
  by_cases q : j = (k : Nat)
  · rw [if_pos q, if_pos (by omega)]
    unfold blkS dropM
    dsimp only
    rw [if_pos q, q]
    rfl
  · rw [if_neg q]
    unfold blkS dropM
    dsimp only
    rw [if_neg q]
/-- a block that is not in memory reads as it lies on the disk -/
theorem contC_old {S : StS} {k : Nat} (h5 : 5 ≤ k) (h9 : k < 96) (e : S.cont (k : Nat) = none) : contC S = fun j : Int => if j = ((k : Nat) : Int) then some (rdB4 S.dk (k : Nat) 4) else contC S j := funext fun j => by
  by_cases q : j = ((k : Nat) : Int)
  · rw [if_pos q, q]
    unfold contC
    rw [if_pos (by omega)]
    unfold blkS
    rw [e]
    rfl
  · rw [if_neg q]
/-- words that are no block -/
theorem WordsV.bad {K : PySem.W.Frag} {H : Hp} {p : Addr} {xs : List V} (h : SqL K H p xs) (hk : ∀ x ∈ xs, Known K H x) (b : (decide ((xs.length : Int) = 32) && xs.all isWord) = false) : WordsV K H (.ref p) none := .inl ⟨p, xs, rfl, h, hk, .inr ⟨rfl, b⟩⟩
theorem WordsV.tup {K : PySem.W.Frag} {H : Hp} {p : Addr} {xs : List V} (h : SqT K H p xs) : WordsV K H (.ref p) none := .inr ⟨⟨.tuple, (fun z => nomatch z), tyx_tup h⟩, rfl⟩
theorem known_ints {K : PySem.W.Frag} {H : Hp} {ns : List Int} : ∀ x ∈ ns.map V.int, Known K H x := fun x hx => by
  obtain ⟨i, _, rfl⟩ := List.mem_map.mp hx
  trivial
/-- a part of the new blocks -/
theorem newL_cut (S : StS) (lo hi : Option Int) : ∃ ms : List Int, cutV (((newL S).map fun i => ((i : Nat) : Int)).map V.int) lo hi = ms.map V.int ∧ (∀ z ∈ ms, 0 ≤ z ∧ z < 96) ∧ ms.length ≤ 96 := by
  unfold cutV
  rw [← List.map_drop, ← List.map_take]
  refine ⟨_, rfl, fun z hz => ?_, ?_⟩
  · have hz := List.mem_of_mem_drop (List.mem_of_mem_take hz)
    obtain ⟨i, hi, rfl⟩ := List.mem_map.mp hz
    unfold newL at hi
    have := List.mem_range.mp (List.mem_filter.mp hi).1
    omega
  · rw [List.length_take, List.length_drop]
    have e : ((newL S).map fun i => ((i : Nat) : Int)).length = (newL S).length := List.length_map ..
    have : (newL S).length ≤ 96 := by
      unfold newL
      exact Nat.le_trans (List.length_filter_le _ _) (by rw [List.length_range]; exact Nat.le_refl _)
    omega
theorem DoCase.by {K : PySem.W.Frag} {C : Ex} {H : Hp} {A : SA} {S : StS} {u c w : V} {Q : VK} {I : Prop} {t : Str} (h1 : ∀ l H', Same H H' → H' l = some (.lst [.str "refused", .str t]) → I → Q (.ref l) H') (h2 : (I → Inv H Q t) → DoCase K C H A S u c w Q) : DoCase K C H A S u c w Q := h2 fun i l H' s e => h1 l H' s e i
theorem fun_rows {H : Hp} {vs : List V} {rs : List (List Int)} {q : Addr} {o u : HO} (x : RowsAt H vs rs) (h : H q = some u) (p : Plain u) : RowsAt (upd H q o) vs rs := x.map (row_upd h p)
theorem badS {gg : Option (List Int)} {op : Op} {z : Int} {S : StS} {d : Rs} (hd : (if op = .write ∧ gg = none then Rs.ref "invalid" else dueO S.sp.nums S.sp.held op z) = d) (h : badB S.sp (.int z)) (sz : S.sp.nums.length = 96) (ho : op = .share ∨ op = .drop) : d = .ref "invalid" := by
  rw [← hd]
  split
  · rfl
  · unfold dueO
    split
    · rfl
    · rename_i _ n
      have q : z < 5 ∨ S.sp.nums.getD z.toNat 0 = 0 := by
        rcases h with h | ⟨z', e, h⟩
        · rcases (show (z < 0 ∨ 95 < z) ∨ (0 ≤ z ∧ z ≤ (S.sp.nums.length : Int) - 1) by omega) with q | q
          · exact absurd (q.elim .inl fun q => .inr (.inl q)) n
          · rw [btw_int q.1 q.2] at h; cases h
        · cases e; exact h
      rcases ho with rfl | rfl
      · exact if_pos q
      · exact if_pos q
section dropSt
variable (S : StS) (k : Nat)
theorem drop_dk : (dropSt S k).dk = S.dk := by unfold dropSt; split <;> rfl
theorem drop_gen : (dropSt S k).gen = S.gen := by unfold dropSt; split <;> rfl
theorem drop_nums : (dropSt S k).sp.nums = S.sp.nums.set k (S.sp.nums.getD k 0 - 1) := by unfold dropSt; split <;> rfl
theorem drop_held : (dropSt S k).sp.held = S.sp.held := by unfold dropSt; split <;> rfl
theorem drop_ln : (dropSt S k).sp.nums.length = S.sp.nums.length := by rw [drop_nums, List.length_set]
theorem drop_kl : (dropSt S k).kvs.length ≤ S.kvs.length := by
  unfold dropSt
  split
  · exact List.length_filter_le _ _
  · exact Nat.le_refl _
end dropSt
theorem drop_cont2 {S : StS} {k : Nat} (h : ¬ S.sp.nums.getD k 0 - 1 = 0) : contC (dropSt S k) = contC S := by unfold dropSt; rw [if_neg h]; rfl
theorem drop_cont0 {S : StS} {k : Nat} (h5 : 5 ≤ k) (h9 : k < 96) (h : S.sp.nums.getD k 0 - 1 = 0) : contC (dropSt S k) = fun j : Int => if j = ((k : Nat) : Int) then some (rdB4 S.dk (k : Nat) 4) else contC S j := by
  unfold dropSt
  rw [if_pos h]
  exact contC_drop (S := { S with sp := dropS S.sp k }) h5 h9
theorem drop_cont1 {S : StS} {k : Nat} (h5 : 5 ≤ k) (h9 : k < 96) (h : S.sp.nums.getD k 0 - 1 = 0) (e : S.cont (k : Nat) = none) : contC (dropSt S k) = contC S := (drop_cont0 h5 h9 h).trans (contC_old h5 h9 e).symm
theorem blk_old {S : StS} {D : DiskS} (dk : Dsk S) (hB : ∀ j : Int, 5 ≤ j → j < 96 → Blk (rdB4 (flushD D) j 4)) (e : S.dk = flushD D) {k : Nat} (h5 : 5 ≤ k) (h9 : k < 96) : Blk (rdB4 S.dk (k : Nat) 4) := by
  rw [e]
  exact hB _ (by omega) (by omega)
abbrev sp_law (K : PySem.W.Frag) (_ : Ex) : Sp := spLaw K
def t_law (K : PySem.W.Frag) (C : Ex) (E : XK) : TS :=
  tSeq (tAsg (uCall (sp__law_tape K C) (WB E) (tCons (tVar 0) (tNil))) (gName 1))
  (tSeq (tAsg (tOp (uAdd K) (tC (.int 2)) (tOp (uMod) (uCall (sp__law_at K C) (WB E) (tCons (tVar 1) (tCons (tC (.int 0)) (tNil)))) (tC (.int 9)))) (gName 2))
  (tSeq (tAsg (uMake C.Disk (sp_Disk___init__ K C) (WB E) (tCons (tC (.int 96)) (tNil))) (gName 3))
  (tSeq (tAsg (tDNewK) (gName 4))
  (tSeq (tAsg (tOp (uAdd K) (tOp (uMul) (tLst (tCons (tC (.int 1)) (tNil))) (tC (.int 5))) (tOp (uMul) (tLst (tCons (tC (.int 0)) (tNil))) (tC (.int 91)))) (gName 5))
  (tSeq (tFor (iRng2 (tCons (tC (.int 5)) (tCons (tC (.int 96)) (tNil)))) (gName 6)
  (tSeq (sDPut (tVar 4) (tVar 6) (tOp (uMul) (tLst (tCons (tC (.int 0)) (tNil))) (tC (.int 32))))
  (tIfS (tTest (tOp (uLt K) (tVar 6) (tC (.int 25)))) (tSeq (sDPut (tVar 4) (tVar 6) (uCall (sp__law_block K C) (WB E) (tCons (tVar 6) (tCons (uCall (sp__law_at K C) (WB E) (tCons (tVar 1) (tCons (tC (.int 1)) (tNil)))) (tNil)))))
  (tSeq (tDrop (uCall (sp__law_put_block K C) (WB E) (tCons (tVar 3) (tCons (tVar 6) (tCons (tDGet (tVar 4) (tVar 6)) (tNil))))))
  (tAsg (tOp (uIx K) (tLst (tCons (tC (.int 0)) (tCons (tC (.int 1)) (tCons (tC (.int 2)) (tCons (tC (.int 1)) (tNil)))))) (tOp (uMod) (tOp (uAdd K) (uCall (sp__law_at K C) (WB E) (tCons (tVar 1) (tCons (tOp (uAdd K) (tC (.int 1)) (tOp (uMod) (tVar 6) (tC (.int 5)))) (tNil)))) (tVar 6)) (tC (.int 4)))) (gSub (tVar 5) (tVar 6) uSet)))) (tNext))))
  (tSeq (tDrop (uMeth C.Disk "flush" (sp_Disk_flush K C) (WB E) (tVar 3) (tNil)))
  (tSeq (tAsg (uMeth C.Disk "image" (sp_Disk_image K C) (WB E) (tVar 3) (tNil)) (gName 7))
  (tSeq (tAsg (tLc (iList K (tVar 5)) (gName 19) (tYes) (tOp (uGt) (tVar 19) (tC (.int 0))) [19]) (gName 8))
  (tSeq (tAsg (uMake C.Store (sp_Store___init__ K C) (WB E) (tCons (tVar 3) (tCons (uMake C.Head (sp_Head___init__ K C) (WB E) (tCons (tOp (uSub) (tVar 2) (tC (.int 1))) (tCons (tTup (tCons (tC (.int 5)) (tCons (tC (.int 1)) (tNil)))) (tCons (tC (.int 96)) (tNil))))) (tCons (uMake C.Space (sp_Space___init__ K C) (WB E) (tCons (tVar 5) (tNil))) (tNil))))) (gName 9))
  (tSeq (tIfS (tOr (tTest (tOp (uNe K) (uMeth C.Store "generation" (sp_Store_generation K C) (WB E) (tVar 9) (tNil)) (tVar 2))) (tOr (tTest (tOp (uNe K) (uFld C.Store "table" (tVar 9)) (tTup (tCons (tC (.int 5)) (tCons (tC (.int 1)) (tNil)))))) (tTest (tOp (uNe K) (uFld C.Store "reserve" (tVar 9)) (tC (.int 60)))))) (tRet (tC (.bl false))) (tNext))
  (tSeq (tAsg (tLst (tCons (tC (.int 5)) (tCons (tC (.int 6)) (tCons (tC (.int 7)) (tCons (tC (.int 24)) (tCons (tC (.int 4)) (tCons (tC (.int 95)) (tCons (tC (.int 96)) (tCons (tC (.int 0)) (tCons (tUn uNeg (tC (.int 1))) (tNil))))))))))) (gName 10))
  (tSeq (tFor (iRng1 (tCons (tCB (uMin K) (tCons (tC (.int 50)) (tCons (tOp (uDiv) (tCB (uLen K) (tCons (tVar 1) (tNil))) (tC (.int 2))) (tNil)))) (tNil))) (gName 11)
  (tSeq (tAsg (tOp (uIx K) (tLst (tCons (tC (.str "make")) (tCons (tC (.str "make")) (tCons (tC (.str "write")) (tCons (tC (.str "write")) (tCons (tC (.str "read")) (tCons (tC (.str "read")) (tCons (tC (.str "share")) (tCons (tC (.str "drop")) (tCons (tC (.str "drop")) (tCons (tC (.str "new")) (tCons (tC (.str "uses")) (tNil))))))))))))) (tOp (uMod) (uCall (sp__law_at K C) (WB E) (tCons (tVar 1) (tCons (tOp (uMul) (tC (.int 2)) (tVar 11)) (tNil)))) (tC (.int 11)))) (gName 12))
  (tSeq (tAsg (uCall (sp__law_at K C) (WB E) (tCons (tVar 1) (tCons (tOp (uAdd K) (tOp (uMul) (tC (.int 2)) (tVar 11)) (tC (.int 1))) (tNil)))) (gName 13))
  (tSeq (tAsg (tCB (uLen K) (tCons (uCall (sp__law_free K C) (WB E) (tCons (tVar 5) (tCons (tVar 8) (tNil)))) (tNil))) (gName 14))
  (tSeq (tDrop (uMeth C.Store "use_reserve" (sp_Store_use_reserve K C) (WB E) (tVar 9) (tCons (tOp (uIx K) (tLst (tCons (tC (.int 0)) (tCons (tC (.int 0)) (tCons (tC (.int 40)) (tCons (tC (.int 60)) (tCons (tVar 14) (tCons (tCB (uMax K) (tCons (tC (.int 0)) (tCons (tOp (uSub) (tVar 14) (tC (.int 1))) (tNil)))) (tNil)))))))) (tOp (uMod) (tVar 13) (tC (.int 6)))) (tNil))))
  (tSeq (tAsg (tOp (uIx K) (tVar 10) (tOp (uMod) (tOp (uDiv) (tVar 13) (tC (.int 6))) (tCB (uLen K) (tCons (tVar 10) (tNil))))) (gName 6))
  (tSeq (tAsg (uCall (sp__law_block K C) (WB E) (tCons (tVar 11) (tCons (tVar 13) (tNil)))) (gName 15))
  (tSeq (tAsg (tOp (uNe K) (tOp (uMod) (tVar 13) (tC (.int 6))) (tC (.int 1))) (gName 16))
  (tCut (tIfS (tNot (uTru K (tVar 16))) (tAsg (tOp (uIx K) (tLst (tCons (tSl (uSl K) (tVar 15) (tPart (tC (.int 1))) (tNoPart)) (tCons (tOp (uAdd K) (tVar 15) (tLst (tCons (tC (.int 0)) (tNil)))) (tCons (tOp (uAdd K) (tSl (uSl K) (tVar 15) (tNoPart) (tPart (tC (.int 31)))) (tLst (tCons (tUn uNeg (tC (.int 1))) (tNil)))) (tCons (tCB (uTuple K) (tCons (tVar 15) (tNil))) (tCons (tOp (uAdd K) (tSl (uSl K) (tVar 15) (tNoPart) (tPart (tC (.int 31)))) (tLst (tCons (tC (.bl true)) (tNil)))) (tNil))))))) (tOp (uMod) (tOp (uDiv) (tVar 13) (tC (.int 6))) (tC (.int 5)))) (gName 15)) (tNext))
  (tSeq (tIfS (tTest (tOp (uEq K) (tVar 12) (tC (.str "make")))) (tSeq (tIfS (tNot (uTru K (uCall (sp__law_make K C) (WB E) (tCons (tVar 9) (tCons (tVar 5) (tCons (tVar 8) (tCons (tVar 4) (tCons (tVar 15) (tCons (tVar 16) (tCons (tVar 2) (tNil))))))))))) (tRet (tC (.bl false))) (tNext))
  (tSeq (tAsg (tOp (uAdd K) (tVar 10) (tSl (uSl K) (uMeth C.Store "new_blocks" (sp_Store_new_blocks K C) (WB E) (tVar 9) (tNil)) (tPart (tUn uNeg (tC (.int 1)))) (tNoPart))) (gName 10))
  (tCont))) (tNext))
  (tSeq (tAsg (uCall (sp__law_due K C) (WB E) (tCons (tVar 5) (tCons (tVar 8) (tCons (tVar 12) (tCons (tVar 6) (tNil)))))) (gName 17))
  (tCut (tIfS (tAnd (tTest (tOp (uEq K) (tVar 12) (tC (.str "write")))) (tNot (uTru K (tVar 16)))) (tAsg (tLst (tCons (tC (.str "refused")) (tCons (tC (.str "invalid")) (tNil)))) (gName 17)) (tNext))
  (tSeq (tAsg (uCall (sp__law_do K C) (WB E) (tCons (tVar 9) (tCons (tVar 12) (tCons (tTup (tCons (tVar 6) (tCons (tVar 2) (tNil)))) (tCons (tVar 15) (tNil)))))) (gName 18))
  (tSeq (tIfS (tAnd (tTest (tOp (uEq K) (tVar 12) (tC (.str "read")))) (tTest (tOp (uIs) (tVar 17) (tC .non)))) (tSeq (tIfS (tNot (uTru K (uCall (sp__law_is_block K C) (WB E) (tCons (tVar 18) (tCons (tDGet (tVar 4) (tVar 6)) (tNil)))))) (tRet (tC (.bl false))) (tNext))
  (tSeq (tAsg (tOp (uAdd K) (tOp (uIx K) (tVar 18) (tC (.int 0))) (tC (.int 1))) (gSub (tVar 18) (tC (.int 0)) uSet))
  (tCont))) (tNext))
  (tSeq (tIfS (tNot (uTru K (uCall (sp__law_same K C) (WB E) (tCons (tVar 18) (tCons (tVar 17) (tNil)))))) (tRet (tC (.bl false))) (tNext))
  (tCut (tIfS (tAnd (tTest (tOp (uEq K) (tVar 12) (tC (.str "write")))) (tTest (tOp (uIs) (tVar 17) (tC .non)))) (sDPut (tVar 4) (tVar 6) (tCB (uList K) (tCons (tVar 15) (tNil)))) (tNext))
  (tCut (tIfS (tAnd (tTest (tOp (uEq K) (tVar 12) (tC (.str "share")))) (tTest (tOp (uIs) (tVar 17) (tC .non)))) (tAsg (tOp (uAdd K) (tOp (uIx K) (tVar 5) (tVar 6)) (tC (.int 1))) (gSub (tVar 5) (tVar 6) uSet)) (tNext))
  (tIfS (tAnd (tTest (tOp (uEq K) (tVar 12) (tC (.str "drop")))) (tTest (tOp (uNe K) (tVar 17) (tLst (tCons (tC (.str "refused")) (tCons (tC (.str "invalid")) (tNil))))))) (tCut (tIfS (tAnd (tTest (tOp (uEq K) (tVar 17) (tC (.int 0)))) (tNot (uTru K (tOp (uIx K) (tVar 8) (tVar 6))))) (sDPut (tVar 4) (tVar 6) (uCall (sp__law_old K C) (WB E) (tCons (tVar 7) (tCons (tVar 6) (tNil))))) (tNext))
  (tAsg (tVar 17) (gSub (tVar 5) (tVar 6) uSet))) (tNext)))))))))))))))))))
  (tRet (uCall (sp__law_end K C) (WB E) (tCons (tVar 9) (tCons (tVar 5) (tCons (tVar 8) (tCons (tVar 4) (tCons (tVar 7) (tNil))))))))))))))))))))
theorem pure_law {K : PySem.W.Frag} {C : Ex} {vs : List V} {H : Hp} {Q : VK} {E : XK} (F : Fa K C) (h : sp_law K C vs H Q E) : t_law K C E { nx := fun _ H' => Q .non H', rt := Q } (start ["_law_script", "_law_tape_here", "_law_generation", "_law_disk", "_law_contents", "_law_numbers", "_law_number", "_law_image", "_law_held", "_law_store", "_law_recent", "_law_k", "_law_act", "_law_pick", "_law_free_here", "_law_words", "_law_valid", "_law_due_here", "_law_told", "_law_many"] vs) H := by
  obtain ⟨a0, rfl, p, ns0, rfl, hS, hn, kk⟩ := h
  unfold t_law
  walk_at "run1"
  refine w_S1 ⟨p, ns0, rfl, hS, hn, fun B q ts hs hq hl hT => ?_⟩
  have t0 := hT.at 0
  have hlt := hT.2
  walk_at "run1"
  rw [show (0 : Int).toNat = 0 from rfl]
  have hG : ∃ g : Int, 2 + ts.getD 0 0 % 9 = g ∧ 2 ≤ g ∧ g ≤ 10 := ⟨_, rfl, by omega, by omega⟩
  obtain ⟨g, eG, g0, g1⟩ := hG
  rw [eG]
  intro d dx hd hdx hne
  refine w_S2 ⟨d, dx, rfl, upd_same, trivial, fun z ez _ _ H1 a w n fr fa fw fn hD => ⟨rfl, ?_⟩, fun h => by cases h⟩
  cases ez
  have sB : Same B H1 := fun b o h => fr b o (by rw [upd_ne (ne_of_none h hd), upd_ne (ne_of_none h hdx)]; exact h) (ne_of_none h hd)
  have fS : ∀ b ∈ dkF d a w n, B b = none := by
    have f1 : ∀ b, upd (upd B dx (.own d)) d (.ins C.Disk dx []) b = none → B b = none := fun b h => (none_of_upd (none_of_upd h).1).1
    intro b hb
    simp only [dkF, List.mem_cons, List.not_mem_nil, or_false] at hb
    rcases hb with rfl | rfl | rfl | rfl
    · exact hd
    · exact f1 _ fa
    · exact f1 _ fw
    · exact f1 _ fn
  clear fr fa fw fn
  have on := newD_on (z := 96) (by omega)
  have hq1 := sB _ _ hl
  have nq : q ∉ dkF d a w n := fun h => by rw [fS q h] at hl; cases hl
  walk_at "run1"
  rename_i pc hpc l1 hl1 l2 hl2 l3 hl3 l4 hl4
  have s1 := same_updN (o := .lst ((List.replicate (Int.toNat 91) (0 : Int)).map V.int)) (same_updN (o := .lst [.int 0]) (same_updN (o := .lst ((List.replicate (Int.toNat 5) (1 : Int)).map V.int)) (same_new (o := .lst [.int 1]) hl1) hl2) hl3) hl4
  have e2 := upd_old (o := .lst ((List.replicate (Int.toNat 91) (0 : Int)).map V.int)) (upd_old (o := .lst [.int 0]) (upd_same (H := upd (upd H1 pc (.dK [])) l1 (.lst [.int 1])) (a := l2) (o := .lst ((List.replicate (Int.toNat 5) (1 : Int)).map V.int))) hl3) hl4
  refine w_cat e2 upd_same (by simp only [List.length_map, List.length_replicate]; decide) fun pn hpn => ?_
  have sep0 : Sep (dkF d a w n) H1 [(q, .lst (ts.map V.int))] := ⟨by simp [hq1], by intro y hy; rw [List.mem_singleton.mp hy]; exact nq, by simp⟩
  have sep1 := (sep0.new (o := .dK []) hpc (hD.fresh hpc)).same s1
  have hD1 := (hD.same (same_new (o := .dK []) hpc)).same s1
  generalize upd (upd (upd (upd (upd H1 pc _) l1 _) l2 _) l3 _) l4 _ = H2 at *
  rw [← List.map_append]
  have sep2 := sep1.new (o := .lst ((List.replicate (Int.toNat 5) (1 : Int) ++ List.replicate (Int.toNat 91) (0 : Int)).map V.int)) hpn (hD1.fresh hpn)
  have X0 : SetS C (upd H2 pn (.lst ((List.replicate (Int.toNat 5) (1 : Int) ++ List.replicate (Int.toNat 91) (0 : Int)).map V.int))) d a w n pn pc q (newD 96) (List.replicate (Int.toNat 5) (1 : Int) ++ List.replicate (Int.toNat 91) (0 : Int)) ts [] 0 :=
    ⟨hD1.same (same_new hpn), on, rfl, rfl, fun z hz => by
      rcases List.mem_append.mp hz with h | h <;> (rw [List.eq_of_mem_replicate h]; decide), fun j hj => by
      match j, hj with
      | 0, _ => rfl
      | 1, _ => rfl
      | 2, _ => rfl
      | 3, _ => rfl
      | 4, _ => rfl, sep2, ⟨(fun kv h => by cases h), List.nodup_nil, fun k => .inl ⟨rfl, if_neg (by omega)⟩⟩, fun j h0 h1 => rdB4_new (by omega) h1⟩
  generalize upd H2 pn _ = H3 at *
  clear sep0 sep1 sep2 hD1 e2 s1 hD hq1 hpn hl1 hl2 hl3 hl4 hpc
  walk_at "run1"
  refine f_range (fun i σ H' => ∃ (D : DiskS) (nums : List Int) (kvsC : List (Key × V)) (v6 : Option V), σ = [some (.ref p), some (.ref q), some (.int g), some (.ref d), some (.ref pc), some (.ref pn), v6, none, none, none, none, none, none, none, none, none, none, none, none, none] ∧ SetS C H' d a w n pn pc q D nums ts kvsC i)
    ⟨_, _, _, none, rfl, X0⟩ ?_ ?_
  · rintro i σ H4 hi ⟨D, nums, kvsC, v6, rfl, X⟩
    have hi : i < 91 := hi
    have hq3 := X.sep.get 2 rfl
    have hpc3 := X.sep.get 1 rfl
    have t1 := hT.at 1
    have cl := X.len (by omega)
    walk_at "run1"
    rename_i la hla lb hlb
    refine w_dputI (upd_old (upd_old hpc3 hla) hlb) (by omega) ?_
    have X1 := X.zero hi (same_updN (o := .lst ((List.replicate 32 (0 : Int)).map V.int)) (same_new (o := .lst [.int 0]) hla) hlb) (none_of_upd hlb).1 upd_same
    rw [show (32 : Int).toNat = 32 from rfl]
    generalize upd (upd (upd H4 la _) lb _) pc _ = H5 at *
    have hq5 := X1.sep.get 2 rfl
    have hpc5 := X1.sep.get 1 rfl
    have cl1 := X1.len (by omega)
    walk_at "run1"
    · rename_i h25
      refine w_S2 ⟨_, _, rfl, rfl, by omega, t1, fun l hl H6 s6 e6 => ?_⟩
      have hpc6 := s6 _ _ hpc5
      walk_at "run1"
      refine w_dputI hpc6 (by omega) ?_
      have hD7 := (X1.same s6).pcw (o := .dK (putK (putK kvsC (.inl (5 + (i : Int))) (.ref lb)) (.inl (5 + (i : Int))) (.ref l)))
      have hv : valV (putK (putK kvsC (.inl (5 + (i : Int))) (.ref lb)) (.inl (5 + (i : Int))) (.ref l)) (.inl (5 + (i : Int))) = some (.ref l) := by rw [valV_put, if_pos rfl]
      have nl : l ∉ dkF d a w n := X1.dk.fresh hl
      have npl : l ≠ pc := fun e => by rw [e, hpc5] at hl; cases hl
      generalize hH7 : upd H6 pc (.dK (putK (putK kvsC (.inl (5 + (i : Int))) (.ref lb)) (.inl (5 + (i : Int))) (.ref l))) = H7 at *
      have hc7 : H7 pc = some (.dK (putK (putK kvsC (.inl (5 + (i : Int))) (.ref lb)) (.inl (5 + (i : Int))) (.ref l))) := by rw [← hH7]; exact upd_same
      have hl7 : H7 l = some (.lst ((blkF (5 + (i : Int)) (ts.getD 1 0)).map V.int)) := by rw [← hH7]; exact upd_oth e6 npl
      walk_at "run1"
      refine w_dgetI hc7 hv ?_
      walk_at "run1"
      have hsz := X.sz
      refine w_S3 ⟨d, a, w, n, l, D, 5 + (i : Int), 4 * i, 96, blkF (5 + (i : Int)) (ts.getD 1 0), rfl, rfl, rfl, hD7, X.on, by omega, by omega, by omega, hl7, blkF_blk _ _, nl, fun H8 hD8 st8 => ?_⟩
      have X2 := X1.block X.on (by omega) s6 hl e6 (blkF_blk _ _) hD8 (by rw [hH7]; exact st8)
      have hq8 := X2.sep.get 2 rfl
      have tk := hT.at (1 + (5 + (i : Int)) % 5).toNat
      walk_at "run1"
      rename_i l4 hl4
      refine w_ixA (SqL.of upd_same) ⟨by omega, by show _ < 4; omega⟩ fun v hv => ?_
      have hy : ∃ y : Int, v = .int y ∧ 0 ≤ y := by
        have hm := List.mem_of_getElem? hv
        simp only [List.mem_cons, List.not_mem_nil, or_false] at hm
        rcases hm with h | h | h | h <;> exact ⟨_, h, by decide⟩
      obtain ⟨y, rfl, y0⟩ := hy
      have X3 := X2.same (same_new (o := .lst [.int 0, .int 1, .int 2, .int 1]) hl4)
      generalize upd H8 l4 _ = H9 at *
      have hn9 := X3.sep.get 0 rfl
      have ln9 := X3.ln
      walk_at "run1"
      refine w_setL hn9 ⟨by omega, by rw [List.length_map]; omega⟩ ?_
      have e5 : (5 + (i : Int)).toNat = 5 + i := by omega
      rw [e5]
      exact ⟨_, _, _, _, rfl, X3.num (by omega) y0 (by omega)⟩
    · walk_at "run1"
      exact ⟨D, nums, _, _, rfl, X1⟩
  · rintro σ H4 ⟨D, nums, kvsC, v6, rfl, X⟩
    walk_at "run1"
    have hsz := X.sz
    have hok := X.on.ok
    obtain ⟨ddx, id⟩ := X.dk.ins
    unfold dkO at id
    walk_at "run1"
    refine w_flush X.dk X.on fun H5 w' n' hD5 st5 => ?_
    have on5 := X.on.flush
    have sep5 := X.sep.stp st5
    have mc5 := X.mc.stp st5.more
    obtain ⟨dd5, i5⟩ := hD5.ins
    unfold dkO at i5
    walk_at "run1"
    refine w_S1 ⟨d, a, w', n', flushD D, rfl, hD5, on5.ok, fun pi hpi H6 vs s6 e6 r6 => ?_⟩
    have sep6 := sep5.add s6 hpi (hD5.fresh hpi) e6
    have hD6 := hD5.same s6
    have hn6 := sep6.get 1 rfl
    have ln := X.ln
    walk_at "run1"
    refine l_pos hn6 (by omega) (by show 19 < 20; decide) fun ph H7 hph s7 e7 => ?_
    have sep7 := sep6.add s7 hph (hD6.fresh hph) e7
    have hD7 := hD6.same s7
    walk_at "run1"
    rename_i tb htb
    have sep8 := sep7.same (same_new (o := .tup [.int 5, .int 1]) htb)
    have hD8 := hD7.same (same_new (o := .tup [.int 5, .int 1]) htb)
    have s78 := same_new (o := .tup [.int 5, .int 1]) htb
    have etb : upd H7 tb (.tup [.int 5, .int 1]) tb = some (.tup [.int 5, .int 1]) := upd_same
    have r8 := (r6.same s7).same s78
    generalize upd H7 tb _ = H8 at *
    intro hd dxh hhd hdxh hneh
    refine w_S4 ⟨hd, dxh, rfl, upd_same, fun H9 e9 f9 => ⟨rfl, ?_⟩⟩
    have s89 := same_made hhd hdxh f9
    have hD9 := hD8.same s89
    have sep9 := sep8.same s89
    have hn9 := sep9.get 2 rfl
    walk_at "run1"
    intro s dxs hs hdxs hnes
    refine w_S2 ⟨s, dxs, pn, nums, rfl, rfl, upd_same, by rw [upd_ne (ne_of_none hn9 hs), upd_ne (ne_of_none hn9 hdxs)]; exact hn9, by omega, fun H10 sa sb hS10 f10 ha hb => ⟨rfl, ?_⟩⟩
    have s910 := same_made hs hdxs f10
    have ha9 := none_made ha
    have hb9 := none_made hb
    walk_at "run1"
    intro st dxt hst hdxt hnet
    have s10x : Same H10 (upd (upd H10 dxt (.own st)) st (.ins C.Store dxt [])) := same_updN (same_new hdxt) (by rw [upd_ne hnet.symm]; exact hst)
    have h9n : ∀ b ∈ spF s sa sb, H9 b = none := fun b hb => by
      simp only [spF, List.mem_cons, List.not_mem_nil, or_false] at hb
      rcases hb with rfl | rfl | rfl <;> assumption
    refine w_S4 ⟨st, dxt, hd, d, a, w', n', s, sa, sb, flushD D, ⟨nums, posL nums, 0⟩, g - 1, .ref tb, .int 96, rfl, rfl, rfl, rfl, upd_same, ⟨dxh, s10x _ _ (s910 _ _ e9)⟩, (hD9.same s910).same s10x, hS10.same s10x,
      nodup_store hhd (dk_nodup hD8) (fun b hb q => hD8.fresh q hb) s89 (by rw [e9]; simp [hdO]) (sp_nodup hS10) h9n s910 (fun b hb q => hS10.fresh q hb) hst, fun H11 m hS11 f11 hm => ⟨rfl, ?_⟩⟩
    have s1011 : Same H10 H11 := fun c u h => f11 c u (s10x _ _ h) (ne_of_none h hst)
    have s811 := (s89.trans s910).trans s1011
    have s511 := (s6.trans s7).trans (s78.trans s811)
    have s510 := (s6.trans s7).trans (s78.trans (s89.trans s910))
    have s59 := (s6.trans s7).trans (s78.trans s89)
    have s58 := (s6.trans s7).trans s78
    have nn5 : ∀ b, b ∈ stF ⟨st, m, hd, d, a, w', n', s, sa, sb⟩ (firstS nums (flushD D) (g - 1) (.ref tb)) → b ∈ dkF d a w' n' ∨ H8 b = none := fun b hb => by
      rcases List.mem_append.mp hb with hb | hb
      · simp only [SA.all, List.mem_cons, List.not_mem_nil, or_false] at hb
        rcases hb with rfl | rfl | rfl | rfl | rfl | rfl | rfl | rfl | rfl | rfl
        · exact .inr ((s89.trans s910).free hst)
        · exact .inr ((s89.trans s910).free (none_made hm))
        · exact .inr hhd
        · exact .inl (by simp [dkF])
        · exact .inl (by simp [dkF])
        · exact .inl (by simp [dkF])
        · exact .inl (by simp [dkF])
        · exact .inr (s89.free hs)
        · exact .inr (s89.free ha9)
        · exact .inr (s89.free hb9)
      · cases hb
    have sepL := sep8.pick [2, 3, 0, 1, 4] (by decide)
    have X : SetS C H4 d a w n pn pc q D nums ts kvsC 91 := X
    have ec : (fun j : Int => if 5 ≤ j ∧ j < 5 + ((91 : Nat) : Int) then some (rdB4 D j 4) else none) = contC (firstS nums (flushD D) (g - 1) (.ref tb)) := funext fun j => by
      unfold contC
      by_cases h : 5 ≤ j ∧ j < 96
      · rw [if_pos h, if_pos (by omega)]
        show some (rdB4 D j 4) = some (rdB4 (flushD D) j 4)
        rw [rdB4_flush X.on (by omega) (by omega)]
      · rw [if_neg h, if_neg (by omega)]
    have L : LawS C H11 ⟨st, m, hd, d, a, w', n', s, sa, sb⟩ (firstS nums (flushD D) (g - 1) (.ref tb)) pn pc ph kvsC [(pi, .lst vs), (q, .lst (ts.map V.int))] := by
      refine ⟨hS11, firstS_ok ln X.nn X.l5, ⟨on5.ok, on5.r8, on5.pw, by rw [show (firstS nums (flushD D) (g - 1) (.ref tb)).dk.blocks = 96 from on5.bl]; show (96 : Int) = (nums.length : Nat); omega⟩, ln, ⟨fun y hy => s811 _ _ (sepL.own y hy), fun y hy q => ?_, sepL.nd⟩, ?_⟩
      · rcases nn5 _ q with h | h
        · exact sepL.out y hy h
        · rw [sepL.own y hy] at h; cases h
      · rw [← ec]
        refine mc5.stp ⟨fun b o h _ => s511 b o h, fun b hb => ?_⟩
        rcases List.mem_append.mp hb with hb | hb
        · simp only [lawL, List.map_append, List.map_cons, List.map_nil, List.mem_append, List.mem_cons, List.not_mem_nil, or_false] at hb
          rcases hb with (rfl | rfl | rfl) | rfl | rfl
          · exact .inl (by simp)
          · exact .inl (by simp)
          · exact .inr (s6.free hph)
          · exact .inr hpi
          · exact .inl (by simp)
        · rcases nn5 b hb with h | h
          · exact .inl (List.mem_append_right _ h)
          · exact .inr (s58.free h)
    have r11 := r8.same s811
    have wr0 : (flushD D).wr = [] := rfl
    have hB : ∀ j : Int, 5 ≤ j → j < 96 → Blk (rdB4 (flushD D) j 4) := fun j h0 h1 => by
      rcases L.mc.v j with ⟨_, z⟩ | ⟨_, ws, _, z, _, b, _⟩
      · unfold contC at z
        rw [if_pos ⟨h0, h1⟩] at z
        cases z
      · unfold contC at z
        rw [if_pos ⟨h0, h1⟩] at z
        have z : some (rdB4 (flushD D) j 4) = some ws := z
        cases z
        exact b
    have etb11 := s811 _ _ etb
    clear sepL sep8 sep9 sep7 sep6 sep5 mc5 ec nn5 hD9 hD8 hD7 hD6 hD5 X
    obtain ⟨dx11, i11⟩ := L.at_.ins
    unfold stO at i11
    walk_at "run1"
    refine w_S1 ⟨⟨st, m, hd, d, a, w', n', s, sa, sb⟩, firstS nums (flushD D) (g - 1) (.ref tb), rfl, L.at_, ?_⟩
    have eg : (firstS nums (flushD D) (g - 1) (.ref tb)).gen + 1 = g := by show g - 1 + 1 = g; omega
    rw [eg]
    walk_at "run1"
    rename_i tb2 htb2
    have L12 := L.same (same_new (o := .tup [.int 5, .int 1]) htb2)
    have r12 := r11.same (same_new (o := .tup [.int 5, .int 1]) htb2)
    refine w_neD (Dt.pair (SqT.of (upd_old etb11 htb2)) Dt.int Dt.int) (Dt.pair (SqT.of upd_same) Dt.int Dt.int) (by decide) ⟨_, rfl⟩ ?_
    generalize upd H11 tb2 _ = H12 at *
    obtain ⟨dx12, i12⟩ := L12.at_.ins
    unfold stO at i12
    walk_at "run1"
    rename_i pr hpr
    have L13 := L12.new (o := .lst [.int 5, .int 6, .int 7, .int 24, .int 4, .int 95, .int 96, .int 0, .int (-1)]) (same_new hpr) hpr upd_same
    have r13 := r12.same (same_new (o := .lst [.int 5, .int 6, .int 7, .int 24, .int 4, .int 95, .int 96, .int 0, .int (-1)]) hpr)
    generalize upd H12 pr _ = H13 at *
    have hq13 := L13.sep.get 5 rfl
    have hmn : (if (((ts.map V.int).length : Nat) : Int) / 2 < 50 then (((ts.map V.int).length : Nat) : Int) / 2 else 50) ≤ 50 := by split <;> omega
    have hmn0 : 0 ≤ (if (((ts.map V.int).length : Nat) : Int) / 2 < 50 then (((ts.map V.int).length : Nat) : Int) / 2 else 50) := by split <;> omega
    walk_at "run1"
    generalize (if (((ts.map V.int).length : Nat) : Int) / 2 < 50 then (((ts.map V.int).length : Nat) : Int) / 2 else 50) = mn at *
    clear i12 L12 r12 i11 L r11 htb2
    generalize hA : (⟨st, m, hd, d, a, w', n', s, sa, sb⟩ : SA) = A at *
    have hst : st = A.st := by rw [← hA]
    rw [hst]
    refine f_range (fun i σ H' => ∃ (S : StS) (kvsC : List (Key × V)) (pr : Addr) (rc : List Int) (v6 v11 v12 v13 v14 v15 v16 v17 v18 : Option V), σ = [some (.ref p), some (.ref q), some (.int g), some (.ref d), some (.ref pc), some (.ref pn), v6, some (.ref pi), some (.ref ph), some (.ref A.st), some (.ref pr), v11, v12, v13, v14, v15, v16, v17, v18, none] ∧
      LawS C H' A S pn pc ph kvsC [(pr, .lst (rc.map V.int)), (pi, .lst vs), (q, .lst (ts.map V.int))] ∧ RowsAt H' vs (imgD S.dk) ∧ S.dk = flushD D ∧ S.gen + 1 = g ∧ S.kvs.length ≤ i ∧ 0 < rc.length ∧ rc.length ≤ 9 + 96 * i ∧ ∀ z ∈ rc, -1 ≤ z ∧ z ≤ 96)
      ⟨_, kvsC, pr, [5, 6, 7, 24, 4, 95, 96, 0, -1], v6, none, none, none, none, none, none, none, none, rfl, L13, r13, rfl, eg, Nat.le_refl 0, by decide, by decide, by decide⟩ ?_ ?_
    · rintro i σ H2 hi ⟨S, kvsC, pr, rc, v6, v11, v12, v13, v14, v15, v16, v17, v18, rfl, L, hr, wr, eg, kl, rc0, rc1, rcz⟩
      have hi' : i < 50 := by omega
      have hq2 := L.sep.get 5 rfl
      have hr2 := L.sep.get 3 rfl
      have ta := hT.at (2 * (0 + (i : Int))).toNat
      have tk := hT.at (2 * (0 + (i : Int)) + 1).toNat
      walk_at "run1"
      rename_i la hla
      refine w_ixA (SqL.of upd_same) ⟨by omega, by show _ < 11; omega⟩ fun v hv => ?_
      have hact : v = .str "make" ∨ ∃ op : Op, v = .str (opT op) := by
        have hm := List.mem_of_getElem? hv
        simp only [List.mem_cons, List.not_mem_nil, or_false] at hm
        rcases hm with h | h | h | h | h | h | h | h | h | h | h
        · exact .inl h
        · exact .inl h
        · exact .inr ⟨.write, h⟩
        · exact .inr ⟨.write, h⟩
        · exact .inr ⟨.read, h⟩
        · exact .inr ⟨.read, h⟩
        · exact .inr ⟨.share, h⟩
        · exact .inr ⟨.drop, h⟩
        · exact .inr ⟨.drop, h⟩
        · exact .inr ⟨.new, h⟩
        · exact .inr ⟨.uses, h⟩
      clear hv
      have L3 := L.same (same_new (o := .lst [.str "make", .str "make", .str "write", .str "write", .str "read", .str "read", .str "share", .str "drop", .str "drop", .str "new", .str "uses"]) hla)
      have hr3 := hr.same (same_new (o := .lst [.str "make", .str "make", .str "write", .str "write", .str "read", .str "read", .str "share", .str "drop", .str "drop", .str "new", .str "uses"]) hla)
      generalize upd H2 la _ = H3 at *
      clear L hr hq2 hr2
      have hq3 := L3.sep.get 5 rfl
      walk_at "run1"
      generalize hpk : ts.getD (2 * (0 + (i : Int)) + 1).toNat 0 = pk at *
      refine w_S2 ⟨pn, ph, S.sp.nums, S.sp.held, rfl, rfl, L3.hn, L3.hh, L3.ok.spo.len, L3.sz, fun H4 lf s4 hlf e4 => ?_⟩
      have L4 := L3.same s4
      have hr4 := hr3.same s4
      obtain ⟨dx4, i4⟩ := L4.at_.ins
      unfold stO at i4
      walk_at "run1"
      rename_i l6 hl6
      refine w_ixA (SqL.of upd_same) ⟨by omega, by show _ < 6; omega⟩ fun v6 hv6 => ?_
      have hy : ∃ y : Int, v6 = .int y ∧ 0 ≤ y := by
        have hm := List.mem_of_getElem? hv6
        simp only [List.mem_cons, List.not_mem_nil, or_false] at hm
        rcases hm with h | h | h | h | h | h
        · exact ⟨_, h, by decide⟩
        · exact ⟨_, h, by decide⟩
        · exact ⟨_, h, by decide⟩
        · exact ⟨_, h, by decide⟩
        · exact ⟨_, h, by omega⟩
        · exact ⟨_, h, by split <;> omega⟩
      obtain ⟨y, rfl, y0⟩ := hy
      clear hv6
      generalize hH5 : upd H4 l6 _ = H5 at *
      have s45 : Same H4 H5 := by rw [← hH5]; exact same_new hl6
      clear hH5
      have L5 := L4.same s45
      have hr5 := hr4.same s45
      have hS5 := L5.at_
      walk_at "run1"
      refine w_S2 ⟨A, S, y, rfl, rfl, L5.at_, fun H6 hS6 st6 => ?_⟩
      have L6 := L5.step hS6 (res_st L5.ok y0) st6 rfl rfl rfl rfl
      have sz96 := L5.sz
      have hr6 : RowsAt H6 vs (imgD S.dk) := hr5.map fun v r x => L5.at_.row (by omega) st6 x
      clear L3 L4 L5 hr3 hr4 hr5 hS5 hS6 st6 i4 s4 s45 e4 hlf hl6 hla
      have hq6 := L6.sep.get 5 rfl
      have hp6 := L6.sep.get 3 rfl
      have lrc : (rc.map V.int).length = rc.length := List.length_map ..
      have m0 : 0 ≤ pk / 6 % ((rc.map V.int).length : Int) := Int.emod_nonneg _ (by omega)
      have m1 : pk / 6 % ((rc.map V.int).length : Int) < (rc.map V.int).length := Int.emod_lt_of_pos _ (by omega)
      walk_at "run1"
      generalize hz : rc.getD (pk / 6 % ((rc.map V.int).length : Int)).toNat 0 = z at *
      have hz1 : -1 ≤ z ∧ z ≤ 96 := by
        have hl : (pk / 6 % ((rc.map V.int).length : Int)).toNat < rc.length := by omega
        rw [← hz, List.getD_eq_getElem?_getD, List.getElem?_eq_getElem hl]
        exact rcz _ (List.getElem_mem hl)
      refine w_S2 ⟨_, _, rfl, rfl, by omega, by omega, fun pw hpw H7 s7 e7 => ?_⟩
      have L7 := L6.new s7 hpw e7
      have hr7 := hr6.same s7
      generalize hS6 : ({ S with res := y } : StS) = S6 at *
      have q1 : S6.dk = flushD D := by rw [← hS6]; exact wr
      have q2 : S6.gen + 1 = g := by rw [← hS6]; exact eg
      have q3 : S6.kvs.length ≤ i := by rw [← hS6]; exact kl
      have q4 : S6.sp = S.sp := by rw [← hS6]
      rw [← q4] at *
      have hr7 : RowsAt H7 vs (imgD S6.dk) := by rw [q1, ← wr]; exact hr7
      walk_at "run1"
      refine w_cut (fun σ H' => ∃ (wv : V) (gg : Option (List Int)) (pre : List (Addr × HO)) (v14 : Option V), σ = [some (.ref p), some (.ref q), some (.int g), some (.ref d), some (.ref pc), some (.ref pn), some (.int z), some (.ref pi), some (.ref ph), some (.ref A.st), some (.ref pr), some (.int (0 + (i : Int))), some v, some (.int pk), v14, some wv, some (.bl gg.isSome), v17, v18, none] ∧
        LawS C H' A S6 pn pc ph kvsC (pre ++ [(pr, .lst (rc.map V.int)), (pi, .lst vs), (q, .lst (ts.map V.int))]) ∧ RowsAt H' vs (imgD S6.dk) ∧ (∀ ws, gg = some ws → ∃ pw, wv = .ref pw ∧ pre = [(pw, .lst (ws.map V.int))]) ∧ ∀ H'', Stp (stF A S6) H' (stF A S6) H'' → WordsV K H'' wv gg) ?_ ?_
      · by_cases h1 : pk % 6 = 1
        · rw [decide_eq_true h1]
          walk_at "run1"
          rw [show (!!true) = true from rfl]
          walk_at "run1"
          refine w_slL (SqL.of (L7.sep.get 3 rfl)) fun x1 hx1 => ?_
          rw [show (some (1 : Int)) = some ((1 : Nat) : Int) from rfl, cut_drop, ← List.map_drop]
          have M1 := L7.new (same_new (o := .lst (((blkF (0 + (i : Int)) pk).drop 1).map V.int)) hx1) hx1 upd_same
          have r1 := hr7.same (same_new (o := .lst (((blkF (0 + (i : Int)) pk).drop 1).map V.int)) hx1)
          generalize upd H7 x1 _ = G1 at *
          have hp1 := M1.sep.get 4 rfl
          walk_at "run1"
          rename_i y2 hy2
          have M2 := M1.new (same_new (o := .lst [.int 0]) hy2) hy2 upd_same
          have r2 := r1.same (same_new (o := .lst [.int 0]) hy2)
          generalize upd G1 y2 _ = G2 at *
          have b32 := (blkF_blk (0 + (i : Int)) pk).1
          refine w_cat (M2.sep.get 5 rfl) (M2.sep.get 3 rfl) (by rw [List.length_map, b32]; decide) fun x2 hx2 => ?_
          have M3 := M2.new (same_new (o := .lst ((blkF (0 + (i : Int)) pk).map V.int ++ [.int 0])) hx2) hx2 upd_same
          have r3 := r2.same (same_new (o := .lst ((blkF (0 + (i : Int)) pk).map V.int ++ [.int 0])) hx2)
          generalize upd G2 x2 _ = G3 at *
          walk_at "run1"
          refine w_slL (SqL.of (M3.sep.get 6 rfl)) fun x3 hx3 => ?_
          rw [show (some (31 : Int)) = some ((31 : Nat) : Int) from rfl, cut_take, ← List.map_take]
          have M4 := M3.new (same_new (o := .lst (((blkF (0 + (i : Int)) pk).take 31).map V.int)) hx3) hx3 upd_same
          have r4 := r3.same (same_new (o := .lst (((blkF (0 + (i : Int)) pk).take 31).map V.int)) hx3)
          generalize upd G3 x3 _ = G4 at *
          have t31 : (((blkF (0 + (i : Int)) pk).take 31).map V.int).length = 31 := by rw [List.length_map, List.length_take, b32]; rfl
          walk_at "run1"
          rename_i y4 hy4
          have M5 := M4.new (same_new (o := .lst [.int (-1)]) hy4) hy4 upd_same
          have r5 := r4.same (same_new (o := .lst [.int (-1)]) hy4)
          generalize upd G4 y4 _ = G5 at *
          refine w_cat (M5.sep.get 4 rfl) (M5.sep.get 3 rfl) (by rw [t31]; decide) fun x4 hx4 => ?_
          have M6 := M5.new (same_new (o := .lst (((blkF (0 + (i : Int)) pk).take 31).map V.int ++ [.int (-1)])) hx4) hx4 upd_same
          have r6 := r5.same (same_new (o := .lst (((blkF (0 + (i : Int)) pk).take 31).map V.int ++ [.int (-1)])) hx4)
          generalize upd G5 x4 _ = G6 at *
          have hp6 := M6.sep.get 9 rfl
          walk_at "run1"
          refine w_ttupL (SqL.of hp6) fun x5 hx5 => ?_
          have M7 := M6.new (same_new (o := .tup ((blkF (0 + (i : Int)) pk).map V.int)) hx5) hx5 upd_same
          have r7 := r6.same (same_new (o := .tup ((blkF (0 + (i : Int)) pk).map V.int)) hx5)
          generalize upd G6 x5 _ = G7 at *
          have hp7 := M7.sep.get 10 rfl
          walk_at "run1"
          refine w_slL (SqL.of hp7) fun x6 hx6 => ?_
          rw [show (some (31 : Int)) = some ((31 : Nat) : Int) from rfl, cut_take, ← List.map_take]
          have M8 := M7.new (same_new (o := .lst (((blkF (0 + (i : Int)) pk).take 31).map V.int)) hx6) hx6 upd_same
          have r8 := r7.same (same_new (o := .lst (((blkF (0 + (i : Int)) pk).take 31).map V.int)) hx6)
          generalize upd G7 x6 _ = G8 at *
          walk_at "run1"
          rename_i y7 hy7
          have M9 := M8.new (same_new (o := .lst [.bl true]) hy7) hy7 upd_same
          have r9 := r8.same (same_new (o := .lst [.bl true]) hy7)
          generalize upd G8 y7 _ = G9 at *
          refine w_cat (M9.sep.get 4 rfl) (M9.sep.get 3 rfl) (by rw [t31]; decide) fun x8 hx8 => ?_
          have M10 := M9.new (same_new (o := .lst (((blkF (0 + (i : Int)) pk).take 31).map V.int ++ [.bl true])) hx8) hx8 upd_same
          have r10 := r9.same (same_new (o := .lst (((blkF (0 + (i : Int)) pk).take 31).map V.int ++ [.bl true])) hx8)
          generalize upd G9 x8 _ = G10 at *
          walk_at "run1"
          rename_i l9 hl9
          have M11 := M10.same (same_new (o := .lst [.ref x1, .ref x2, .ref x4, .ref x5, .ref x8]) hl9)
          have r11 := r10.same (same_new (o := .lst [.ref x1, .ref x2, .ref x4, .ref x5, .ref x8]) hl9)
          refine w_ixA (SqL.of upd_same) ⟨by omega, by show _ < 5; omega⟩ fun v hv => ?_
          walk_at "run1"
          refine ⟨v, none, [(x8, _), (y7, _), (x6, _), (x5, _), (x4, _), (y4, _), (x3, _), (x2, _), (y2, _), (x1, _), (pw, _)], _, rfl, M11, r11, (fun ws e => nomatch e), fun H'' st => ?_⟩
          have hm := List.mem_of_getElem? hv
          have sp := M11.sep.stp st
          have kt : ∀ (ws : List Int) (y : V), (∃ i, y = .int i) ∨ (∃ b, y = .bl b) → ∀ x ∈ ws.map V.int ++ [y], Known K H'' x := fun ws y hy x hx => by
            rcases List.mem_append.mp hx with hx | hx
            · exact known_ints x hx
            · rw [List.mem_singleton.mp hx]
              rcases hy with ⟨i, rfl⟩ | ⟨i, rfl⟩ <;> trivial
          simp only [List.mem_cons, List.not_mem_nil, or_false] at hm
          rcases hm with rfl | rfl | rfl | rfl | rfl
          · exact .bad (.of (sp.get 12 rfl)) known_ints (by rw [List.length_map, List.length_drop, b32]; rfl)
          · exact .bad (.of (sp.get 10 rfl)) (kt _ _ (.inl ⟨_, rfl⟩)) (by rw [List.length_append, List.length_map, b32]; rfl)
          · exact .bad (.of (sp.get 7 rfl)) (kt _ _ (.inl ⟨_, rfl⟩)) (by rw [List.all_append]; simp [isWord])
          · exact .tup (.of (sp.get 6 rfl))
          · exact .bad (.of (sp.get 3 rfl)) (kt _ _ (.inr ⟨_, rfl⟩)) (by rw [List.all_append]; simp [isWord])
        · rw [decide_eq_false h1]
          walk_at "run1"
          refine ⟨.ref pw, some (blkF (0 + (i : Int)) pk), [(pw, _)], _, rfl, L7, hr7, fun ws e => by cases e; exact ⟨pw, rfl, rfl⟩, fun H'' st => ?_⟩
          exact .good (.of (L7.sep.stp st |>.get 3 rfl)) (blkF_blk _ _)
      · clear L7 hr7 L6 hr6 hp6 hq6 m0 m1 e7 hpw
        rintro σ H8 ⟨wv, gg, pre, v14, rfl, L8, hr8, hg8, hw8⟩
        rcases hact with rfl | ⟨op, rfl⟩
        · walk_at "run1"
          refine w_S7 ⟨A, S6, pn, pc, ph, kvsC, [(pr, .lst (rc.map V.int)), (pi, .lst vs), (q, .lst (ts.map V.int))], pre, gg, rfl, rfl, rfl, rfl, rfl, by rw [q2], hw8, L8, hg8, fun H9 S9 kvsC9 L9 rw9 kl9 g9 d9 => ?_⟩
          walk_at "run1"
          have hr9 : RowsAt H9 vs (imgD S9.dk) := by rw [d9]; exact hr8.map rw9
          obtain ⟨dx9, i9⟩ := L9.at_.ins
          unfold stO at i9
          walk_at "run1"
          refine w_S1 ⟨A, S9, rfl, L9.at_, L9.ok, by omega, fun l H10 s10 hl10 e10 => ?_⟩
          rw [newL_eq L9.ok L9.sz] at e10
          have e10 : H10 l = some (.lst (natV (newL S9))) := e10
          rw [natV_ints] at e10
          walk_at "run1"
          refine w_slL (SqL.of e10) fun l2 hl2 => ?_
          obtain ⟨ms, em, hm, ml⟩ := newL_cut S9 (some (-1)) none
          rw [em]
          have s11 := same_new (o := .lst (ms.map V.int)) hl2
          have L11 := (L9.same s10).same s11
          have hr11 := (hr9.same s10).same s11
          have e11 : upd H10 l2 (.lst (ms.map V.int)) l2 = some (.lst (ms.map V.int)) := upd_same
          generalize upd H10 l2 _ = H11 at *
          refine w_cat (L11.sep.get 3 rfl) e11 (by rw [List.length_map, List.length_map]; omega) fun l3 hl3 => ?_
          rw [← List.map_append]
          walk_at "run1"
          refine ⟨S9, kvsC9, l3, rc ++ ms, _, _, _, _, _, _, _, _, _, rfl, ((L11.new (o := .lst ((rc ++ ms).map V.int)) (same_new hl3) hl3 upd_same).sub (((List.Sublist.refl _).cons _).cons₂ _)), hr11.same (same_new hl3), d9.trans q1, by rw [g9]; exact q2, by omega, by rw [List.length_append]; omega, by rw [List.length_append]; omega, fun y hy => ?_⟩
          rcases List.mem_append.mp hy with h | h
          · exact rcz y h
          · have := hm y h; omega
        · generalize hdW : (if op = .write ∧ gg = none then Rs.ref "invalid" else dueO S6.sp.nums S6.sp.held op z) = dW
          have sz6 := L8.sz
          walk_at "run1"
          · rename_i h
            exact absurd h (by cases op <;> decide +kernel)
          walk_at "run1"
          refine w_S4 ⟨pn, ph, S6.sp.nums, S6.sp.held, op, z, rfl, rfl, rfl, rfl, L8.hn, L8.hh, L8.ok.spo.len, L8.sz, fun H9 dv rdv s9 => ?_⟩
          walk_at "run1"
          refine w_cut (fun σ H' => ∃ dv, σ = [some (.ref p), some (.ref q), some (.int g), some (.ref d), some (.ref pc), some (.ref pn), some (.int z), some (.ref pi), some (.ref ph), some (.ref A.st), some (.ref pr), some (.int (0 + (i : Int))), some (.str (opT op)), some (.int pk), v14, some wv, some (.bl gg.isSome), some dv, v18, none] ∧ Same H8 H' ∧ RepRs H' dv dW) ?_ ?_
          · by_cases ho : op = .write
            · subst ho
              walk_at "run1"
              cases gg with
              | none =>
                rw [show (none : Option (List Int)).isSome = false from rfl]
                walk_at "run1"
                rename_i l9 hl9
                exact ⟨_, rfl, same_updN s9 hl9, by rw [← hdW, if_pos ⟨rfl, rfl⟩]; exact ⟨_, rfl, upd_same⟩⟩
              | some ws =>
                rw [show (some ws).isSome = true from rfl]
                walk_at "run1"
                exact ⟨_, rfl, s9, by rw [← hdW, if_neg (fun h => nomatch h.2)]; exact rdv⟩
            · walk_at "run1"
              · rename_i h
                exact absurd h (by cases op <;> first | exact absurd rfl ho | decide +kernel)
              walk_at "run1"
              exact ⟨_, rfl, s9, by rw [← hdW, if_neg (fun h => ho h.1)]; exact rdv⟩
          · clear rdv s9
            rintro σ H9 ⟨dv, rfl, s9, rdv⟩
            walk_at "run1"
            rename_i tp htp
            have s10 := same_updN (o := .tup [.int z, .int g]) s9 htp
            have etp : upd H9 tp (.tup [.int z, .int g]) tp = some (.tup [.int z, .int g]) := upd_same
            have rd0 := rdv.same (same_new (o := .tup [.int z, .int g]) htp)
            generalize upd H9 tp _ = H0 at *
            have L0 := L8.same s10
            have hr0 := hr8.same s10
            have hw0 := hw8 H0 (.same s10)
            have ptr : PtrAt K H0 (.ref tp) z := ⟨tp, _, rfl, SqT.of etp⟩
            clear rdv s9 s10 hw8 L8 hr8 htp etp
            refine w_S4 ⟨A, S6, rfl, L0.at_, L0.ok, L0.dk, ?_⟩
            refine DoCase.by (I := dW = .ref "invalid") (t := "invalid") ?_ fun inv => ?_
            · intro l H1 s1 e1 edW
              rw [edW] at rd0
              obtain ⟨d1, rfl, ed⟩ := rd0
              have ed1 := s1 _ _ ed
              have fin : ∀ H', Same H1 H' → LawS C H' A S6 pn pc ph kvsC [(pr, .lst (rc.map V.int)), (pi, .lst vs), (q, .lst (ts.map V.int))] ∧ RowsAt H' vs (imgD S6.dk) := fun H' s' => ⟨((L0.same s1).same s').sub (List.sublist_append_right _ _), (hr0.same s1).same s'⟩
              cases op with
              | drop =>
                walk_at "run1"
                refine w_S2 ⟨.ref "invalid", ⟨_, rfl, e1⟩, ⟨_, rfl, ed1⟩, ?_⟩
                walk_at "run1"
                refine w_cutS ?_
                walk_at "run1"
                refine w_cutS ?_
                walk_at "run1"
                rename_i l5 hl5
                refine w_neD (dt_strs (upd_old ed1 hl5)) (dt_strs upd_same) (by decide) ⟨_, rfl⟩ ?_
                walk_at "run1"
                exact ⟨S6, kvsC, pr, rc, _, _, _, _, _, _, _, _, _, rfl, (fin _ (same_new hl5)).1, (fin _ (same_new hl5)).2, q1, q2, by omega, rc0, by omega, rcz⟩
              | _ =>
                walk_at "run1"
                refine w_S2 ⟨.ref "invalid", ⟨_, rfl, e1⟩, ⟨_, rfl, ed1⟩, ?_⟩
                walk_at "run1"
                refine w_cutS ?_
                walk_at "run1"
                refine w_cutS ?_
                walk_at "run1"
                exact ⟨S6, kvsC, pr, rc, _, _, _, _, _, _, _, _, _, rfl, (fin _ (L2.Same.refl _)).1, (fin _ (L2.Same.refl _)).2, q1, q2, by omega, rc0, by omega, rcz⟩
            · have dd : ∀ k : Nat, z = (k : Nat) → k < S6.sp.nums.length → (op = .read → 5 ≤ k) → dueO S6.sp.nums S6.sp.held op z = dueN S6.sp.nums S6.sp.held op z := fun k e1 e2 e3 => by
                unfold dueO
                rw [if_neg]
                rintro (h | h | ⟨h1, h2⟩)
                · omega
                · omega
                · have := e3 h1; omega
              have bad : ∀ op' : Op, op = op' → (z < 0 ∨ 96 ≤ z ∨ (op = .read ∧ z < 5)) → dW = .ref "invalid" := fun op' e h => by
                rw [← hdW]
                split
                · rfl
                · unfold dueO
                  rw [if_pos]
                  rcases h with h | h | h
                  · exact .inl h
                  · exact .inr (.inl (by omega))
                  · exact .inr (.inr h)
              have st0 := fun {F' H'} (st : Stp (stF A S6) H0 F' H') => hr0.map (H' := H') fun v r x => L0.at_.row (by omega) st x
              cases op with
              | new =>
                refine .inr (.inr (.inr (.inr (.inr (.inr (.inl ⟨rfl, z, ptr, fun h => inv (bad _ rfl ?_), fun k ez hk => ?_⟩))))))
                · unfold outB at h; omega
                · have e1 : dW = .bl (newB S6 k) := by rw [← hdW, if_neg (fun h => nomatch h.1), dd k ez hk (fun h => nomatch h), ez]; rfl
                  rw [e1] at rd0
                  obtain rfl := rd0
                  walk_at "run1"
                  refine w_S2 ⟨.bl _, rfl, rfl, ?_⟩
                  walk_at "run1"
                  refine w_cutS ?_
                  walk_at "run1"
                  refine w_cutS ?_
                  walk_at "run1"
                  exact ⟨S6, kvsC, pr, rc, _, _, _, _, _, _, _, _, _, rfl, L0.sub (List.sublist_append_right _ _), hr0, q1, q2, by omega, rc0, by omega, rcz⟩
              | uses =>
                refine .inr (.inr (.inr (.inr (.inr (.inr (.inr (.inr ⟨rfl, z, ptr, fun h => inv (bad _ rfl ?_), fun k ez hk => ?_⟩)))))))
                · unfold outB at h; omega
                · have e1 : dW = .int (S6.sp.nums.getD k 0) := by rw [← hdW, if_neg (fun h => nomatch h.1), dd k ez hk (fun h => nomatch h), ez]; rfl
                  rw [e1] at rd0
                  obtain rfl := rd0
                  walk_at "run1"
                  refine w_S2 ⟨.int _, rfl, rfl, ?_⟩
                  walk_at "run1"
                  refine w_cutS ?_
                  walk_at "run1"
                  refine w_cutS ?_
                  walk_at "run1"
                  exact ⟨S6, kvsC, pr, rc, _, _, _, _, _, _, _, _, _, rfl, L0.sub (List.sublist_append_right _ _), hr0, q1, q2, by omega, rc0, by omega, rcz⟩
              | read =>
                refine .inr (.inr (.inr (.inl ⟨rfl, z, ptr, fun h => inv (bad _ rfl ?_), fun h0 h1 l H1 s1 hl e1 => ?_⟩)))
                · rcases h with h | h
                  · exact .inr (.inr ⟨rfl, h⟩)
                  · exact .inr (.inl (by omega))
                · have e2 : dW = .non := by rw [← hdW, if_neg (fun h => nomatch h.1), dd z.toNat (by omega) (by omega) (fun h => by omega)]; rfl
                  rw [e2] at rd0
                  obtain rfl := rd0
                  have L1 := L0.same s1
                  have hc := L1.hc
                  have b32 : (blkS S6 z).length = 32 := blkS_len L0.at_.mr L0.dk (by omega) (by omega)
                  walk_at "run1"
                  rcases L1.mc.v z with ⟨_, g⟩ | ⟨p, ws, g1, g2, g3, g4, _⟩
                  · exfalso
                    unfold contC at g
                    rw [if_pos (by omega)] at g
                    cases g
                  · unfold contC at g2
                    rw [if_pos (by omega)] at g2
                    have g2 : some (blkS S6 z) = some ws := g2
                    cases g2
                    refine w_dgetI hc g1 ?_
                    walk_at "run1"
                    refine w_S2 ⟨l, p, blkS S6 z, rfl, rfl, SqL.of e1, SqL.of g3, b32, ?_⟩
                    walk_at "run1"
                    refine w_setL e1 ⟨by omega, by rw [List.length_map]; omega⟩ ?_
                    walk_at "run1"
                    exact ⟨S6, kvsC, pr, rc, _, _, _, _, _, _, _, _, _, rfl, ((L0.new s1 hl e1).own (plain_len (by omega))).sub ((List.sublist_append_right _ _).cons _), fun_rows (hr0.same s1) e1 (plain_len (by omega)), q1, q2, by omega, rc0, by omega, rcz⟩
              | share =>
                refine .inr (.inr (.inr (.inr (.inl ⟨rfl, z, ptr, fun h => inv ?_, fun k ez h5 hk h0 H1 hS st => ?_⟩))))
                · exact badS hdW h sz6 (.inl rfl)
                · have e1 : dW = .non := by rw [← hdW, if_neg (fun h => nomatch h.1), dd k ez hk (fun h => nomatch h), ez]; unfold dueN; dsimp only; rw [if_neg (by rw [Int.toNat_natCast]; omega)]
                  rw [e1] at rd0
                  obtain rfl := rd0
                  have G1 := L0.g.step hS (share_st L0.ok h5 hk h0) st (L0.dk.sp rfl (List.length_set ..))
                  have hr1 := st0 st
                  have hn1 := G1.sep.get 0 rfl
                  subst ez
                  walk_at "run1"
                  refine w_S2 ⟨.non, rfl, rfl, ?_⟩
                  walk_at "run1"
                  refine w_cutS ?_
                  walk_at "run1"
                  refine w_cutS ?_
                  walk_at "run1"
                  refine w_setL hn1 ⟨by omega, by rw [List.length_map]; omega⟩ ?_
                  walk_at "run1"
                  rw [Int.toNat_natCast]
                  exact ⟨_, kvsC, pr, rc, _, _, _, _, _, _, _, _, _, rfl, (G1.num.s rfl rfl rfl).sub (List.sublist_append_right _ _), fun_rows hr1 hn1 (plain_len (by omega)), q1, q2, Nat.le_succ_of_le q3, rc0, by omega, rcz⟩
              | drop =>
                refine .inr (.inr (.inr (.inr (.inr (.inl ⟨rfl, z, ptr, fun h => inv ?_, fun k ez h5 hk h0 H1 hS st => ?_⟩)))))
                · exact badS hdW h sz6 (.inr rfl)
                · have e1 : dW = .int (S6.sp.nums.getD k 0 - 1) := by rw [← hdW, if_neg (fun h => nomatch h.1), dd k ez hk (fun h => nomatch h), ez]; unfold dueN; dsimp only; rw [if_neg (by rw [Int.toNat_natCast]; omega), Int.toNat_natCast]
                  rw [e1] at rd0
                  obtain rfl := rd0
                  have G1 := L0.g.step hS (drop_st L0.ok h5 hk h0) st (L0.dk.sp (drop_dk _ _) (drop_ln _ _))
                  have hr1 := st0 st
                  have hn1 := G1.sep.get 0 rfl
                  have hh1 := G1.sep.get 2 rfl
                  have hi1 : H1 pi = some (.lst vs) := (L0.sep.sub (List.Sublist.append (List.Sublist.refl _) (List.sublist_append_right pre _))).stp st |>.get 4 rfl
                  have hl1 := L0.ok.spo.len
                  subst ez
                  have eg1 : (dropSt S6 k).gen + 1 = g := by rw [drop_gen]; exact q2
                  have ek1 : (dropSt S6 k).kvs.length ≤ i + 1 := Nat.le_succ_of_le (Nat.le_trans (drop_kl _ _) q3)
                  have ed1 : (dropSt S6 k).dk = flushD D := (drop_dk _ _).trans q1
                  walk_at "run1"
                  refine w_S2 ⟨.int _, rfl, rfl, ?_⟩
                  walk_at "run1"
                  refine w_cutS ?_
                  walk_at "run1"
                  refine w_cutS ?_
                  walk_at "run1"
                  rename_i l2 hl2
                  refine w_neIL upd_same ?_
                  have s2 := same_new (o := .lst [.str "refused", .str "invalid"]) hl2
                  have G2 := G1.same s2
                  have hr2 := hr1.same s2
                  have hn2 := G2.sep.get 0 rfl
                  have hh2 := G2.sep.get 2 rfl
                  have hi2 := s2 _ _ hi1
                  generalize upd H1 l2 _ = H2 at *
                  walk_at "run1"
                  refine w_cut (fun σ H' => ∃ kvsC', σ = [some (.ref p), some (.ref q), some (.int g), some (.ref d), some (.ref pc), some (.ref pn), some (.int (k : Nat)), some (.ref pi), some (.ref ph), some (.ref A.st), some (.ref pr), some (.int (0 + (i : Int))), some (.str (opT .drop)), some (.int pk), v14, some wv, some (.bl gg.isSome), some (.int (S6.sp.nums.getD k 0 - 1)), some (.int (S6.sp.nums.getD k 0 - 1)), none] ∧ LawG C H' A (dropSt S6 k) pn pc ph S6.sp.nums S6.sp.held kvsC' (contC (dropSt S6 k)) (pre ++ [(pr, .lst (rc.map V.int)), (pi, .lst vs), (q, .lst (ts.map V.int))]) ∧ RowsAt H' vs (imgD S6.dk)) ?_ ?_
                  · walk_at "run1"
                    · rename_i hz0
                      rw [show ((k : Nat) : Int).toNat = k from Int.toNat_natCast k]
                      refine ifBN (fun hf => ?_) (fun ht => ?_)
                      · walk_at "run1"
                        refine w_S2 ⟨pi, vs, S6, _, rfl, rfl, hi2, hr2, L0.dk, by omega, by omega, fun l3 H3 s3 hl3 e3 => ?_⟩
                        walk_at "run1"
                        have G3 := G2.put (k := ((k : Nat) : Int)) s3 hl3 e3 (blk_old L0.dk hB q1 h5 (by omega))
                        refine w_dputI ((G2.same s3).sep.get 1 rfl) (by have := contC_len L0; omega) ?_
                        rw [← drop_cont0 h5 (by omega) hz0] at G3
                        exact ⟨_, rfl, G3, fun_rows (hr2.same s3) ((G2.same s3).sep.get 1 rfl) plain_dK⟩
                      · walk_at "run1"
                        have hc0 : S6.cont (k : Nat) = none := by
                          cases e : S6.cont (k : Nat) with
                          | none => rfl
                          | some ws =>
                            have z := ((L0.ok.new k).mp (by rw [e]; rfl)).2.2
                            rw [ht] at z; cases z
                        rw [← drop_cont1 h5 (by omega) hz0 hc0] at G2
                        exact ⟨_, rfl, G2, hr2⟩
                    · rename_i hz0
                      walk_at "run1"
                      rw [← drop_cont2 hz0] at G2
                      exact ⟨_, rfl, G2, hr2⟩
                  · rintro σ H3 ⟨kvsC', rfl, G3, hr3⟩
                    have hn3 := G3.sep.get 0 rfl
                    walk_at "run1"
                    refine w_setL hn3 ⟨by omega, by rw [List.length_map]; omega⟩ ?_
                    walk_at "run1"
                    rw [Int.toNat_natCast]
                    exact ⟨_, kvsC', pr, rc, _, _, _, _, _, _, _, _, _, rfl, (G3.num.s (drop_nums _ _) (drop_held _ _) rfl).sub (List.sublist_append_right _ _), by rw [drop_dk]; exact fun_rows hr3 hn3 (plain_len (by omega)), ed1, eg1, ek1, rc0, by omega, rcz⟩
              | write =>
                refine .inr (.inr (.inl ⟨rfl, z, gg, ptr, hw0, fun h => inv ?_, fun k ws ez hk nb eg H1 l hS st => ?_⟩))
                · rw [← hdW]
                  split
                  · rfl
                  · rename_i ng
                    unfold dueO
                    split
                    · rfl
                    · rename_i nb
                      rcases h with h | ⟨k, ek, h⟩ | h
                      · unfold outB at h; exact absurd (by omega) nb
                      · subst ek
                        unfold dueN
                        dsimp only
                        rw [if_neg]
                        rw [Int.toNat_natCast]
                        exact fun e => by rw [show nwF S6.sp.nums S6.sp.held k = newB S6 k from rfl, h] at e; cases e
                      · exact absurd ⟨rfl, h⟩ ng
                · have nb' := nb
                  have e1 : dW = .non := by
                    rw [← hdW, if_neg (fun h => by rw [h.2] at eg; cases eg), dd k ez hk (fun h => nomatch h), ez]
                    unfold dueN
                    dsimp only
                    rw [if_pos (by rw [Int.toNat_natCast]; exact nb)]
                  rw [e1] at rd0
                  obtain rfl := rd0
                  obtain ⟨pw, rfl, rfl⟩ := hg8 ws eg
                  subst eg
                  obtain ⟨b, _⟩ := hw0.list
                  have h5 : 5 ≤ k := by
                    rcases Nat.lt_or_ge k 5 with q | q
                    · have := (L0.ok.lo5 k q).2
                      unfold newB at nb
                      rw [this] at nb
                      simp at nb
                    · exact q
                  have G1 := L0.g.step hS (write_st L0.ok hk nb) st (L0.dk.sp rfl rfl)
                  have hr1 := st0 st
                  have hp1 := G1.sep.get 3 rfl
                  subst ez
                  walk_at "run1"
                  refine w_S2 ⟨.non, rfl, rfl, ?_⟩
                  walk_at "run1"
                  refine w_cutS ?_
                  walk_at "run1"
                  refine w_tlist (SqL.of hp1) fun lc hlc => ?_
                  have s2 := same_new (o := .lst (ws.map V.int)) hlc
                  have G2 := G1.put s2 hlc upd_same b (k := (k : Nat))
                  have hc2 := (G1.same s2).sep.get 1 rfl
                  have hr2 := hr1.same s2
                  generalize upd H1 lc _ = H2 at *
                  walk_at "run1"
                  refine w_dputI hc2 (by have := contC_len L0; omega) ?_
                  rw [← contC_put (l := l) h5 (by omega)] at G2
                  have hr3 := fun_rows (o := .dK (putK kvsC (.inl (k : Nat)) (.ref lc))) hr2 hc2 plain_dK
                  generalize upd H2 pc _ = H3 at *
                  walk_at "run1"
                  refine w_cutS ?_
                  walk_at "run1"
                  exact ⟨_, _, pr, rc, _, _, _, _, _, _, _, _, _, rfl, (G2.s rfl rfl rfl).sub (List.sublist_append_right _ _), hr3, q1, q2, by have z := length_putK S6.kvs (Sum.inl ((k : Nat) : Int)) (V.ref l); show (putK S6.kvs (Sum.inl ((k : Nat) : Int)) (V.ref l)).length ≤ _; omega, rc0, by omega, rcz⟩
    · rintro σ H2 ⟨S, kvsC, pr, rc, v6, v11, v12, v13, v14, v15, v16, v17, v18, rfl, L, hr, wr, eg, kl, rc0, rc1, rcz⟩
      walk_at "run1"
      refine w_S5 ⟨A, S, pn, pc, ph, pi, kvsC, vs, [(q, .lst (ts.map V.int))], rfl, rfl, rfl, rfl, rfl, L.sub (List.sublist_cons_self ..), hr, by rw [wr]; exact wr0, by omega, fun H' => ?_⟩
      exact kk _
def topS (i : Nat) : Stmt := PySem.Challenge.pw_laminae_k23_store.main.body.getD i (.Pass ⟨0, 0, 0, 0⟩)
abbrev s_is_between : Stmt := topS 7
theorem sc_is_between : FnScope ["value", "low", "high"] ["value", "low", "high"] (defScope s_is_between) := ⟨rfl, rfl, rfl, by decide +kernel, rfl, by decide +kernel, by decide +kernel⟩
abbrev s_is_word : Stmt := topS 8
theorem sc_is_word : FnScope ["value"] ["value"] (defScope s_is_word) := ⟨rfl, rfl, rfl, by decide +kernel, rfl, by decide +kernel, by decide +kernel⟩
abbrev s_are_words : Stmt := topS 9
theorem sc_are_words : FnScope ["values", "many", "value"] ["values", "many"] (defScope s_are_words) := ⟨rfl, rfl, rfl, by decide +kernel, rfl, by decide +kernel, by decide +kernel⟩
abbrev s_Disk___init__ : Stmt := inClass (topS 16) 0
theorem sc_Disk___init__ : FnScope ["self", "blocks", "sector"] ["self", "blocks"] (defScope s_Disk___init__) := ⟨rfl, rfl, rfl, by decide +kernel, rfl, by decide +kernel, by decide +kernel⟩
abbrev s_Disk_read : Stmt := inClass (topS 16) 1
theorem sc_Disk_read : FnScope ["self", "sector"] ["self", "sector"] (defScope s_Disk_read) := ⟨rfl, rfl, rfl, by decide +kernel, rfl, by decide +kernel, by decide +kernel⟩
abbrev s_Disk_operate : Stmt := inClass (topS 16) 2
theorem sc_Disk_operate : FnScope ["self"] ["self"] (defScope s_Disk_operate) := ⟨rfl, rfl, rfl, by decide +kernel, rfl, by decide +kernel, by decide +kernel⟩
abbrev s_Disk_write : Stmt := inClass (topS 16) 3
theorem sc_Disk_write : FnScope ["self", "sector", "words"] ["self", "sector", "words"] (defScope s_Disk_write) := ⟨rfl, rfl, rfl, by decide +kernel, rfl, by decide +kernel, by decide +kernel⟩
abbrev s_Disk_flush : Stmt := inClass (topS 16) 4
theorem sc_Disk_flush : FnScope ["self", "sector", "words"] ["self"] (defScope s_Disk_flush) := ⟨rfl, rfl, rfl, by decide +kernel, rfl, by decide +kernel, by decide +kernel⟩
abbrev s_Disk_waiting : Stmt := inClass (topS 16) 5
theorem sc_Disk_waiting : FnScope ["self", "sector", "words"] ["self"] (defScope s_Disk_waiting) := ⟨rfl, rfl, rfl, by decide +kernel, rfl, by decide +kernel, by decide +kernel⟩
abbrev s_Disk_image : Stmt := inClass (topS 16) 8
theorem sc_Disk_image : FnScope ["self", "rows", "sector"] ["self"] (defScope s_Disk_image) := ⟨rfl, rfl, rfl, by decide +kernel, rfl, by decide +kernel, by decide +kernel⟩
abbrev s_Disk_lasting : Stmt := inClass (topS 16) 9
theorem sc_Disk_lasting : FnScope ["self", "words"] ["self"] (defScope s_Disk_lasting) := ⟨rfl, rfl, rfl, by decide +kernel, rfl, by decide +kernel, by decide +kernel⟩
abbrev s_Head___init__ : Stmt := inClass (topS 20) 0
theorem sc_Head___init__ : FnScope ["self", "generation", "table", "blocks"] ["self", "generation", "table", "blocks"] (defScope s_Head___init__) := ⟨rfl, rfl, rfl, by decide +kernel, rfl, by decide +kernel, by decide +kernel⟩
abbrev s_Space___init__ : Stmt := inClass (topS 23) 0
theorem sc_Space___init__ : FnScope ["self", "uses", "many"] ["self", "uses"] (defScope s_Space___init__) := ⟨rfl, rfl, rfl, by decide +kernel, rfl, by decide +kernel, by decide +kernel⟩
abbrev s_Space_count_spare : Stmt := inClass (topS 23) 1
theorem sc_Space_count_spare : FnScope ["self", "many", "held"] ["self"] (defScope s_Space_count_spare) := ⟨rfl, rfl, rfl, by decide +kernel, rfl, by decide +kernel, by decide +kernel⟩
abbrev s_Space_check_block : Stmt := inClass (topS 23) 2
theorem sc_Space_check_block : FnScope ["self", "block"] ["self", "block"] (defScope s_Space_check_block) := ⟨rfl, rfl, rfl, by decide +kernel, rfl, by decide +kernel, by decide +kernel⟩
abbrev s_Space_least_free : Stmt := inClass (topS 23) 3
theorem sc_Space_least_free : FnScope ["self"] ["self"] (defScope s_Space_least_free) := ⟨rfl, rfl, rfl, by decide +kernel, rfl, by decide +kernel, by decide +kernel⟩
abbrev s_Space_take : Stmt := inClass (topS 23) 4
theorem sc_Space_take : FnScope ["self", "reserve", "block"] ["self", "reserve"] (defScope s_Space_take) := ⟨rfl, rfl, rfl, by decide +kernel, rfl, by decide +kernel, by decide +kernel⟩
abbrev s_Space_share : Stmt := inClass (topS 23) 5
theorem sc_Space_share : FnScope ["self", "block"] ["self", "block"] (defScope s_Space_share) := ⟨rfl, rfl, rfl, by decide +kernel, rfl, by decide +kernel, by decide +kernel⟩
abbrev s_Space_drop : Stmt := inClass (topS 23) 6
theorem sc_Space_drop : FnScope ["self", "block"] ["self", "block"] (defScope s_Space_drop) := ⟨rfl, rfl, rfl, by decide +kernel, rfl, by decide +kernel, by decide +kernel⟩
abbrev s_Space_uses : Stmt := inClass (topS 23) 7
theorem sc_Space_uses : FnScope ["self", "block"] ["self", "block"] (defScope s_Space_uses) := ⟨rfl, rfl, rfl, by decide +kernel, rfl, by decide +kernel, by decide +kernel⟩
abbrev s_Space_is_new : Stmt := inClass (topS 23) 9
theorem sc_Space_is_new : FnScope ["self", "block"] ["self", "block"] (defScope s_Space_is_new) := ⟨rfl, rfl, rfl, by decide +kernel, rfl, by decide +kernel, by decide +kernel⟩
abbrev s_Space_is_free : Stmt := inClass (topS 23) 10
theorem sc_Space_is_free : FnScope ["self", "block"] ["self", "block"] (defScope s_Space_is_free) := ⟨rfl, rfl, rfl, by decide +kernel, rfl, by decide +kernel, by decide +kernel⟩
abbrev s_Space_free : Stmt := inClass (topS 23) 11
theorem sc_Space_free : FnScope ["self"] ["self"] (defScope s_Space_free) := ⟨rfl, rfl, rfl, by decide +kernel, rfl, by decide +kernel, by decide +kernel⟩
abbrev s_Store___init__ : Stmt := inClass (topS 25) 0
theorem sc_Store___init__ : FnScope ["self", "disk", "head", "space"] ["self", "disk", "head", "space"] (defScope s_Store___init__) := ⟨rfl, rfl, rfl, by decide +kernel, rfl, by decide +kernel, by decide +kernel⟩
abbrev s_Store_generation : Stmt := inClass (topS 25) 1
theorem sc_Store_generation : FnScope ["self"] ["self"] (defScope s_Store_generation) := ⟨rfl, rfl, rfl, by decide +kernel, rfl, by decide +kernel, by decide +kernel⟩
abbrev s_Store_use_reserve : Stmt := inClass (topS 25) 3
theorem sc_Store_use_reserve : FnScope ["self", "reserve"] ["self", "reserve"] (defScope s_Store_use_reserve) := ⟨rfl, rfl, rfl, by decide +kernel, rfl, by decide +kernel, by decide +kernel⟩
abbrev s_Store_read : Stmt := inClass (topS 25) 4
theorem sc_Store_read : FnScope ["self", "pointer", "number", "words", "part"] ["self", "pointer"] (defScope s_Store_read) := ⟨rfl, rfl, rfl, by decide +kernel, rfl, by decide +kernel, by decide +kernel⟩
abbrev s_Store_next_pointer : Stmt := inClass (topS 25) 5
theorem sc_Store_next_pointer : FnScope ["self"] ["self"] (defScope s_Store_next_pointer) := ⟨rfl, rfl, rfl, by decide +kernel, rfl, by decide +kernel, by decide +kernel⟩
abbrev s_Store_make : Stmt := inClass (topS 25) 6
theorem sc_Store_make : FnScope ["self", "words", "number"] ["self", "words"] (defScope s_Store_make) := ⟨rfl, rfl, rfl, by decide +kernel, rfl, by decide +kernel, by decide +kernel⟩
abbrev s_Store_is_new : Stmt := inClass (topS 25) 7
theorem sc_Store_is_new : FnScope ["self", "pointer", "number"] ["self", "pointer"] (defScope s_Store_is_new) := ⟨rfl, rfl, rfl, by decide +kernel, rfl, by decide +kernel, by decide +kernel⟩
abbrev s_Store_write : Stmt := inClass (topS 25) 8
theorem sc_Store_write : FnScope ["self", "pointer", "words"] ["self", "pointer", "words"] (defScope s_Store_write) := ⟨rfl, rfl, rfl, by decide +kernel, rfl, by decide +kernel, by decide +kernel⟩
abbrev s_Store_share : Stmt := inClass (topS 25) 9
theorem sc_Store_share : FnScope ["self", "pointer"] ["self", "pointer"] (defScope s_Store_share) := ⟨rfl, rfl, rfl, by decide +kernel, rfl, by decide +kernel, by decide +kernel⟩
abbrev s_Store_drop : Stmt := inClass (topS 25) 10
theorem sc_Store_drop : FnScope ["self", "pointer", "number", "left"] ["self", "pointer"] (defScope s_Store_drop) := ⟨rfl, rfl, rfl, by decide +kernel, rfl, by decide +kernel, by decide +kernel⟩
abbrev s_Store_uses : Stmt := inClass (topS 25) 11
theorem sc_Store_uses : FnScope ["self", "pointer"] ["self", "pointer"] (defScope s_Store_uses) := ⟨rfl, rfl, rfl, by decide +kernel, rfl, by decide +kernel, by decide +kernel⟩
abbrev s_Store_require : Stmt := inClass (topS 25) 12
theorem sc_Store_require : FnScope ["self", "many"] ["self", "many"] (defScope s_Store_require) := ⟨rfl, rfl, rfl, by decide +kernel, rfl, by decide +kernel, by decide +kernel⟩
abbrev s_Store_free : Stmt := inClass (topS 25) 13
theorem sc_Store_free : FnScope ["self"] ["self"] (defScope s_Store_free) := ⟨rfl, rfl, rfl, by decide +kernel, rfl, by decide +kernel, by decide +kernel⟩
abbrev s_Store_new_blocks : Stmt := inClass (topS 25) 14
theorem sc_Store_new_blocks : FnScope ["self"] ["self"] (defScope s_Store_new_blocks) := ⟨rfl, rfl, rfl, by decide +kernel, rfl, by decide +kernel, by decide +kernel⟩
abbrev s__law_tape : Stmt := topS 27
theorem sc__law_tape : FnScope ["_law_script", "_law_tape_here", "_law_k", "_law_value", "_law_step"] ["_law_script"] (defScope s__law_tape) := ⟨rfl, rfl, rfl, by decide +kernel, rfl, by decide +kernel, by decide +kernel⟩
abbrev s__law_at : Stmt := topS 28
theorem sc__law_at : FnScope ["_law_tape_here", "_law_k"] ["_law_tape_here", "_law_k"] (defScope s__law_at) := ⟨rfl, rfl, rfl, by decide +kernel, rfl, by decide +kernel, by decide +kernel⟩
abbrev s__law_block : Stmt := topS 29
theorem sc__law_block : FnScope ["_law_number", "_law_extra", "_law_j"] ["_law_number", "_law_extra"] (defScope s__law_block) := ⟨rfl, rfl, rfl, by decide +kernel, rfl, by decide +kernel, by decide +kernel⟩
abbrev s__law_is_block : Stmt := topS 30
theorem sc__law_is_block : FnScope ["_law_told", "_law_due_here", "_law_j"] ["_law_told", "_law_due_here"] (defScope s__law_is_block) := ⟨rfl, rfl, rfl, by decide +kernel, rfl, by decide +kernel, by decide +kernel⟩
abbrev s__law_put_block : Stmt := topS 31
theorem sc__law_put_block : FnScope ["_law_disk", "_law_number", "_law_words", "_law_part"] ["_law_disk", "_law_number", "_law_words"] (defScope s__law_put_block) := ⟨rfl, rfl, rfl, by decide +kernel, rfl, by decide +kernel, by decide +kernel⟩
abbrev s__law_do : Stmt := topS 32
theorem sc__law_do : FnScope ["_law_store", "_law_act", "_law_pointer", "_law_words", "e"] ["_law_store", "_law_act", "_law_pointer", "_law_words"] (defScope s__law_do) := ⟨rfl, rfl, rfl, by decide +kernel, rfl, by decide +kernel, by decide +kernel⟩
abbrev s__law_free : Stmt := topS 33
theorem sc__law_free : FnScope ["_law_numbers", "_law_held", "_law_k"] ["_law_numbers", "_law_held"] (defScope s__law_free) := ⟨rfl, rfl, rfl, by decide +kernel, rfl, by decide +kernel, by decide +kernel⟩
abbrev s__law_due : Stmt := topS 34
theorem sc__law_due : FnScope ["_law_numbers", "_law_held", "_law_act", "_law_number", "_law_new"] ["_law_numbers", "_law_held", "_law_act", "_law_number"] (defScope s__law_due) := ⟨rfl, rfl, rfl, by decide +kernel, rfl, by decide +kernel, by decide +kernel⟩
abbrev s__law_same : Stmt := topS 35
theorem sc__law_same : FnScope ["_law_told", "_law_due_here"] ["_law_told", "_law_due_here"] (defScope s__law_same) := ⟨rfl, rfl, rfl, by decide +kernel, rfl, by decide +kernel, by decide +kernel⟩
abbrev s__law_make : Stmt := topS 36
theorem sc__law_make : FnScope ["_law_store", "_law_numbers", "_law_held", "_law_contents", "_law_words", "_law_valid", "_law_generation", "_law_free_here", "_law_due_here"] ["_law_store", "_law_numbers", "_law_held", "_law_contents", "_law_words", "_law_valid", "_law_generation"] (defScope s__law_make) := ⟨rfl, rfl, rfl, by decide +kernel, rfl, by decide +kernel, by decide +kernel⟩
abbrev s__law_old : Stmt := topS 37
theorem sc__law_old : FnScope ["_law_image", "_law_number", "_law_words", "_law_part"] ["_law_image", "_law_number"] (defScope s__law_old) := ⟨rfl, rfl, rfl, by decide +kernel, rfl, by decide +kernel, by decide +kernel⟩
abbrev s__law_end : Stmt := topS 38
theorem sc__law_end : FnScope ["_law_store", "_law_numbers", "_law_held", "_law_contents", "_law_image", "_law_free_here", "_law_many", "_law_due_here", "_law_number", "_law_k"] ["_law_store", "_law_numbers", "_law_held", "_law_contents", "_law_image"] (defScope s__law_end) := ⟨rfl, rfl, rfl, by decide +kernel, rfl, by decide +kernel, by decide +kernel⟩
abbrev s_law : Stmt := topS 39
theorem sc_law : FnScope ["_law_script", "_law_tape_here", "_law_generation", "_law_disk", "_law_contents", "_law_numbers", "_law_number", "_law_image", "_law_held", "_law_store", "_law_recent", "_law_k", "_law_act", "_law_pick", "_law_free_here", "_law_words", "_law_valid", "_law_due_here", "_law_told", "_law_many"] ["_law_script"] (defScope s_law) := ⟨rfl, rfl, rfl, by decide +kernel, rfl, by decide +kernel, by decide +kernel⟩
structure Adr where
  ex : Ex
  f_is_between : Addr
  d_is_between : FuncData
  f_is_word : Addr
  d_is_word : FuncData
  f_are_words : Addr
  d_are_words : FuncData
  f_Disk___init__ : Addr
  d_Disk___init__ : FuncData
  f_Disk_read : Addr
  d_Disk_read : FuncData
  f_Disk_operate : Addr
  d_Disk_operate : FuncData
  f_Disk_write : Addr
  d_Disk_write : FuncData
  f_Disk_flush : Addr
  d_Disk_flush : FuncData
  f_Disk_waiting : Addr
  d_Disk_waiting : FuncData
  f_Disk_image : Addr
  d_Disk_image : FuncData
  f_Disk_lasting : Addr
  d_Disk_lasting : FuncData
  f_Head___init__ : Addr
  d_Head___init__ : FuncData
  f_Space___init__ : Addr
  d_Space___init__ : FuncData
  f_Space_count_spare : Addr
  d_Space_count_spare : FuncData
  f_Space_check_block : Addr
  d_Space_check_block : FuncData
  f_Space_least_free : Addr
  d_Space_least_free : FuncData
  f_Space_take : Addr
  d_Space_take : FuncData
  f_Space_share : Addr
  d_Space_share : FuncData
  f_Space_drop : Addr
  d_Space_drop : FuncData
  f_Space_uses : Addr
  d_Space_uses : FuncData
  f_Space_is_new : Addr
  d_Space_is_new : FuncData
  f_Space_is_free : Addr
  d_Space_is_free : FuncData
  f_Space_free : Addr
  d_Space_free : FuncData
  f_Store___init__ : Addr
  d_Store___init__ : FuncData
  f_Store_generation : Addr
  d_Store_generation : FuncData
  f_Store_use_reserve : Addr
  d_Store_use_reserve : FuncData
  f_Store_read : Addr
  d_Store_read : FuncData
  f_Store_next_pointer : Addr
  d_Store_next_pointer : FuncData
  f_Store_make : Addr
  d_Store_make : FuncData
  f_Store_is_new : Addr
  d_Store_is_new : FuncData
  f_Store_write : Addr
  d_Store_write : FuncData
  f_Store_share : Addr
  d_Store_share : FuncData
  f_Store_drop : Addr
  d_Store_drop : FuncData
  f_Store_uses : Addr
  d_Store_uses : FuncData
  f_Store_require : Addr
  d_Store_require : FuncData
  f_Store_free : Addr
  d_Store_free : FuncData
  f_Store_new_blocks : Addr
  d_Store_new_blocks : FuncData
  f__law_tape : Addr
  d__law_tape : FuncData
  f__law_at : Addr
  d__law_at : FuncData
  f__law_block : Addr
  d__law_block : FuncData
  f__law_is_block : Addr
  d__law_is_block : FuncData
  f__law_put_block : Addr
  d__law_put_block : FuncData
  f__law_do : Addr
  d__law_do : FuncData
  f__law_free : Addr
  d__law_free : FuncData
  f__law_due : Addr
  d__law_due : FuncData
  f__law_same : Addr
  d__law_same : FuncData
  f__law_make : Addr
  d__law_make : FuncData
  f__law_old : Addr
  d__law_old : FuncData
  f__law_end : Addr
  d__law_end : FuncData
  f_law : Addr
  d_law : FuncData
structure Top (K : PySem.W.Frag) (mg : Str → Option Value) (A : Adr) : Prop where
  F_is_between : Fun K "is_between" "is_between" s_is_between A.f_is_between A.d_is_between
  b_is_between : Binds K A.d_is_between ["value", "low", "high"] []
  g_is_between : mg "is_between" = some (.ref A.f_is_between)
  F_is_word : Fun K "is_word" "is_word" s_is_word A.f_is_word A.d_is_word
  b_is_word : Binds K A.d_is_word ["value"] []
  g_is_word : mg "is_word" = some (.ref A.f_is_word)
  F_are_words : Fun K "are_words" "are_words" s_are_words A.f_are_words A.d_are_words
  b_are_words : Binds K A.d_are_words ["values", "many"] []
  g_are_words : mg "are_words" = some (.ref A.f_are_words)
  F_Disk___init__ : Fun K "__init__" "Disk.__init__" s_Disk___init__ A.f_Disk___init__ A.d_Disk___init__
  b_Disk___init__ : Binds K A.d_Disk___init__ ["self", "blocks"] []
  F_Disk_read : Fun K "read" "Disk.read" s_Disk_read A.f_Disk_read A.d_Disk_read
  b_Disk_read : Binds K A.d_Disk_read ["self", "sector"] []
  m_Disk_read : Meth K A.ex.Disk "read" A.f_Disk_read
  F_Disk_operate : Fun K "operate" "Disk.operate" s_Disk_operate A.f_Disk_operate A.d_Disk_operate
  b_Disk_operate : Binds K A.d_Disk_operate ["self"] []
  m_Disk_operate : Meth K A.ex.Disk "operate" A.f_Disk_operate
  F_Disk_write : Fun K "write" "Disk.write" s_Disk_write A.f_Disk_write A.d_Disk_write
  b_Disk_write : Binds K A.d_Disk_write ["self", "sector", "words"] []
  m_Disk_write : Meth K A.ex.Disk "write" A.f_Disk_write
  F_Disk_flush : Fun K "flush" "Disk.flush" s_Disk_flush A.f_Disk_flush A.d_Disk_flush
  b_Disk_flush : Binds K A.d_Disk_flush ["self"] []
  m_Disk_flush : Meth K A.ex.Disk "flush" A.f_Disk_flush
  F_Disk_waiting : Fun K "waiting" "Disk.waiting" s_Disk_waiting A.f_Disk_waiting A.d_Disk_waiting
  b_Disk_waiting : Binds K A.d_Disk_waiting ["self"] []
  m_Disk_waiting : Meth K A.ex.Disk "waiting" A.f_Disk_waiting
  F_Disk_image : Fun K "image" "Disk.image" s_Disk_image A.f_Disk_image A.d_Disk_image
  b_Disk_image : Binds K A.d_Disk_image ["self"] []
  m_Disk_image : Meth K A.ex.Disk "image" A.f_Disk_image
  F_Disk_lasting : Fun K "lasting" "Disk.lasting" s_Disk_lasting A.f_Disk_lasting A.d_Disk_lasting
  b_Disk_lasting : Binds K A.d_Disk_lasting ["self"] []
  m_Disk_lasting : Meth K A.ex.Disk "lasting" A.f_Disk_lasting
  F_Head___init__ : Fun K "__init__" "Head.__init__" s_Head___init__ A.f_Head___init__ A.d_Head___init__
  b_Head___init__ : Binds K A.d_Head___init__ ["self", "generation", "table", "blocks"] []
  F_Space___init__ : Fun K "__init__" "Space.__init__" s_Space___init__ A.f_Space___init__ A.d_Space___init__
  b_Space___init__ : Binds K A.d_Space___init__ ["self", "uses"] []
  F_Space_count_spare : Fun K "count_spare" "Space.count_spare" s_Space_count_spare A.f_Space_count_spare A.d_Space_count_spare
  b_Space_count_spare : Binds K A.d_Space_count_spare ["self"] []
  m_Space_count_spare : Meth K A.ex.Space "count_spare" A.f_Space_count_spare
  F_Space_check_block : Fun K "check_block" "Space.check_block" s_Space_check_block A.f_Space_check_block A.d_Space_check_block
  b_Space_check_block : Binds K A.d_Space_check_block ["self", "block"] []
  m_Space_check_block : Meth K A.ex.Space "check_block" A.f_Space_check_block
  F_Space_least_free : Fun K "least_free" "Space.least_free" s_Space_least_free A.f_Space_least_free A.d_Space_least_free
  b_Space_least_free : Binds K A.d_Space_least_free ["self"] []
  m_Space_least_free : Meth K A.ex.Space "least_free" A.f_Space_least_free
  F_Space_take : Fun K "take" "Space.take" s_Space_take A.f_Space_take A.d_Space_take
  b_Space_take : Binds K A.d_Space_take ["self", "reserve"] []
  m_Space_take : Meth K A.ex.Space "take" A.f_Space_take
  F_Space_share : Fun K "share" "Space.share" s_Space_share A.f_Space_share A.d_Space_share
  b_Space_share : Binds K A.d_Space_share ["self", "block"] []
  m_Space_share : Meth K A.ex.Space "share" A.f_Space_share
  F_Space_drop : Fun K "drop" "Space.drop" s_Space_drop A.f_Space_drop A.d_Space_drop
  b_Space_drop : Binds K A.d_Space_drop ["self", "block"] []
  m_Space_drop : Meth K A.ex.Space "drop" A.f_Space_drop
  F_Space_uses : Fun K "uses" "Space.uses" s_Space_uses A.f_Space_uses A.d_Space_uses
  b_Space_uses : Binds K A.d_Space_uses ["self", "block"] []
  m_Space_uses : Meth K A.ex.Space "uses" A.f_Space_uses
  F_Space_is_new : Fun K "is_new" "Space.is_new" s_Space_is_new A.f_Space_is_new A.d_Space_is_new
  b_Space_is_new : Binds K A.d_Space_is_new ["self", "block"] []
  m_Space_is_new : Meth K A.ex.Space "is_new" A.f_Space_is_new
  F_Space_is_free : Fun K "is_free" "Space.is_free" s_Space_is_free A.f_Space_is_free A.d_Space_is_free
  b_Space_is_free : Binds K A.d_Space_is_free ["self", "block"] []
  m_Space_is_free : Meth K A.ex.Space "is_free" A.f_Space_is_free
  F_Space_free : Fun K "free" "Space.free" s_Space_free A.f_Space_free A.d_Space_free
  b_Space_free : Binds K A.d_Space_free ["self"] []
  m_Space_free : Meth K A.ex.Space "free" A.f_Space_free
  F_Store___init__ : Fun K "__init__" "Store.__init__" s_Store___init__ A.f_Store___init__ A.d_Store___init__
  b_Store___init__ : Binds K A.d_Store___init__ ["self", "disk", "head", "space"] []
  F_Store_generation : Fun K "generation" "Store.generation" s_Store_generation A.f_Store_generation A.d_Store_generation
  b_Store_generation : Binds K A.d_Store_generation ["self"] []
  m_Store_generation : Meth K A.ex.Store "generation" A.f_Store_generation
  F_Store_use_reserve : Fun K "use_reserve" "Store.use_reserve" s_Store_use_reserve A.f_Store_use_reserve A.d_Store_use_reserve
  b_Store_use_reserve : Binds K A.d_Store_use_reserve ["self", "reserve"] []
  m_Store_use_reserve : Meth K A.ex.Store "use_reserve" A.f_Store_use_reserve
  F_Store_read : Fun K "read" "Store.read" s_Store_read A.f_Store_read A.d_Store_read
  b_Store_read : Binds K A.d_Store_read ["self", "pointer"] []
  m_Store_read : Meth K A.ex.Store "read" A.f_Store_read
  F_Store_next_pointer : Fun K "next_pointer" "Store.next_pointer" s_Store_next_pointer A.f_Store_next_pointer A.d_Store_next_pointer
  b_Store_next_pointer : Binds K A.d_Store_next_pointer ["self"] []
  m_Store_next_pointer : Meth K A.ex.Store "next_pointer" A.f_Store_next_pointer
  F_Store_make : Fun K "make" "Store.make" s_Store_make A.f_Store_make A.d_Store_make
  b_Store_make : Binds K A.d_Store_make ["self", "words"] []
  m_Store_make : Meth K A.ex.Store "make" A.f_Store_make
  F_Store_is_new : Fun K "is_new" "Store.is_new" s_Store_is_new A.f_Store_is_new A.d_Store_is_new
  b_Store_is_new : Binds K A.d_Store_is_new ["self", "pointer"] []
  m_Store_is_new : Meth K A.ex.Store "is_new" A.f_Store_is_new
  F_Store_write : Fun K "write" "Store.write" s_Store_write A.f_Store_write A.d_Store_write
  b_Store_write : Binds K A.d_Store_write ["self", "pointer", "words"] []
  m_Store_write : Meth K A.ex.Store "write" A.f_Store_write
  F_Store_share : Fun K "share" "Store.share" s_Store_share A.f_Store_share A.d_Store_share
  b_Store_share : Binds K A.d_Store_share ["self", "pointer"] []
  m_Store_share : Meth K A.ex.Store "share" A.f_Store_share
  F_Store_drop : Fun K "drop" "Store.drop" s_Store_drop A.f_Store_drop A.d_Store_drop
  b_Store_drop : Binds K A.d_Store_drop ["self", "pointer"] []
  m_Store_drop : Meth K A.ex.Store "drop" A.f_Store_drop
  F_Store_uses : Fun K "uses" "Store.uses" s_Store_uses A.f_Store_uses A.d_Store_uses
  b_Store_uses : Binds K A.d_Store_uses ["self", "pointer"] []
  m_Store_uses : Meth K A.ex.Store "uses" A.f_Store_uses
  F_Store_require : Fun K "require" "Store.require" s_Store_require A.f_Store_require A.d_Store_require
  b_Store_require : Binds K A.d_Store_require ["self", "many"] []
  m_Store_require : Meth K A.ex.Store "require" A.f_Store_require
  F_Store_free : Fun K "free" "Store.free" s_Store_free A.f_Store_free A.d_Store_free
  b_Store_free : Binds K A.d_Store_free ["self"] []
  m_Store_free : Meth K A.ex.Store "free" A.f_Store_free
  F_Store_new_blocks : Fun K "new_blocks" "Store.new_blocks" s_Store_new_blocks A.f_Store_new_blocks A.d_Store_new_blocks
  b_Store_new_blocks : Binds K A.d_Store_new_blocks ["self"] []
  m_Store_new_blocks : Meth K A.ex.Store "new_blocks" A.f_Store_new_blocks
  F__law_tape : Fun K "_law_tape" "_law_tape" s__law_tape A.f__law_tape A.d__law_tape
  b__law_tape : Binds K A.d__law_tape ["_law_script"] []
  g__law_tape : mg "_law_tape" = some (.ref A.f__law_tape)
  F__law_at : Fun K "_law_at" "_law_at" s__law_at A.f__law_at A.d__law_at
  b__law_at : Binds K A.d__law_at ["_law_tape_here", "_law_k"] []
  g__law_at : mg "_law_at" = some (.ref A.f__law_at)
  F__law_block : Fun K "_law_block" "_law_block" s__law_block A.f__law_block A.d__law_block
  b__law_block : Binds K A.d__law_block ["_law_number", "_law_extra"] []
  g__law_block : mg "_law_block" = some (.ref A.f__law_block)
  F__law_is_block : Fun K "_law_is_block" "_law_is_block" s__law_is_block A.f__law_is_block A.d__law_is_block
  b__law_is_block : Binds K A.d__law_is_block ["_law_told", "_law_due_here"] []
  g__law_is_block : mg "_law_is_block" = some (.ref A.f__law_is_block)
  F__law_put_block : Fun K "_law_put_block" "_law_put_block" s__law_put_block A.f__law_put_block A.d__law_put_block
  b__law_put_block : Binds K A.d__law_put_block ["_law_disk", "_law_number", "_law_words"] []
  g__law_put_block : mg "_law_put_block" = some (.ref A.f__law_put_block)
  F__law_do : Fun K "_law_do" "_law_do" s__law_do A.f__law_do A.d__law_do
  b__law_do : Binds K A.d__law_do ["_law_store", "_law_act", "_law_pointer", "_law_words"] []
  g__law_do : mg "_law_do" = some (.ref A.f__law_do)
  F__law_free : Fun K "_law_free" "_law_free" s__law_free A.f__law_free A.d__law_free
  b__law_free : Binds K A.d__law_free ["_law_numbers", "_law_held"] []
  g__law_free : mg "_law_free" = some (.ref A.f__law_free)
  F__law_due : Fun K "_law_due" "_law_due" s__law_due A.f__law_due A.d__law_due
  b__law_due : Binds K A.d__law_due ["_law_numbers", "_law_held", "_law_act", "_law_number"] []
  g__law_due : mg "_law_due" = some (.ref A.f__law_due)
  F__law_same : Fun K "_law_same" "_law_same" s__law_same A.f__law_same A.d__law_same
  b__law_same : Binds K A.d__law_same ["_law_told", "_law_due_here"] []
  g__law_same : mg "_law_same" = some (.ref A.f__law_same)
  F__law_make : Fun K "_law_make" "_law_make" s__law_make A.f__law_make A.d__law_make
  b__law_make : Binds K A.d__law_make ["_law_store", "_law_numbers", "_law_held", "_law_contents", "_law_words", "_law_valid", "_law_generation"] []
  g__law_make : mg "_law_make" = some (.ref A.f__law_make)
  F__law_old : Fun K "_law_old" "_law_old" s__law_old A.f__law_old A.d__law_old
  b__law_old : Binds K A.d__law_old ["_law_image", "_law_number"] []
  g__law_old : mg "_law_old" = some (.ref A.f__law_old)
  F__law_end : Fun K "_law_end" "_law_end" s__law_end A.f__law_end A.d__law_end
  b__law_end : Binds K A.d__law_end ["_law_store", "_law_numbers", "_law_held", "_law_contents", "_law_image"] []
  g__law_end : mg "_law_end" = some (.ref A.f__law_end)
  F_law : Fun K "law" "law" s_law A.f_law A.d_law
  b_law : Binds K A.d_law ["_law_script"] []
  g_law : mg "law" = some (.ref A.f_law)
  n_abs : mg "abs" = none
  n_bool : mg "bool" = none
  n_int : mg "int" = none
  n_isinstance : mg "isinstance" = none
  n_len : mg "len" = none
  n_list : mg "list" = none
  n_max : mg "max" = none
  n_min : mg "min" = none
  n_range : mg "range" = none
  n_sorted : mg "sorted" = none
  n_tuple : mg "tuple" = none
  n_zip : mg "zip" = none
  k_ADD : ∃ t, mg "ADD" = some (.int 60 t)
  k_BLOCK_SECTORS : ∃ t, mg "BLOCK_SECTORS" = some (.int 4 t)
  k_BLOCK_WORDS : ∃ t, mg "BLOCK_WORDS" = some (.int 32 t)
  k_FIRST_BLOCK : ∃ t, mg "FIRST_BLOCK" = some (.int 5 t)
  k_MAX_BLOCKS : ∃ t, mg "MAX_BLOCKS" = some (.int 256 t)
  k_MIN_BLOCKS : ∃ t, mg "MIN_BLOCKS" = some (.int 96 t)
  k_SECTOR_WORDS : ∃ t, mg "SECTOR_WORDS" = some (.int 8 t)
  x_LaminaError : Exc K mg "LaminaError" A.ex.LaminaError
  x_NoSpace : Exc K mg "NoSpace" A.ex.NoSpace
  x_NotValid : Exc K mg "NotValid" A.ex.NotValid
  x_PowerOff : Exc K mg "PowerOff" A.ex.PowerOff
  n_Disk_blocks : NoAttr K A.ex.Disk "blocks"
  n_Disk_left : NoAttr K A.ex.Disk "left"
  n_Disk_newest : NoAttr K A.ex.Disk "newest"
  n_Disk_power : NoAttr K A.ex.Disk "power"
  n_Disk_sectors : NoAttr K A.ex.Disk "sectors"
  n_Disk_writes : NoAttr K A.ex.Disk "writes"
  n_Head_blocks : NoAttr K A.ex.Head "blocks"
  n_Head_generation : NoAttr K A.ex.Head "generation"
  n_Head_table : NoAttr K A.ex.Head "table"
  n_Space_blocks : NoAttr K A.ex.Space "blocks"
  n_Space_held : NoAttr K A.ex.Space "held"
  n_Space_low : NoAttr K A.ex.Space "low"
  n_Space_numbers : NoAttr K A.ex.Space "numbers"
  n_Space_spare : NoAttr K A.ex.Space "spare"
  n_Store_disk : NoAttr K A.ex.Store "disk"
  n_Store_head : NoAttr K A.ex.Store "head"
  n_Store_memory : NoAttr K A.ex.Store "memory"
  n_Store_reserve : NoAttr K A.ex.Store "reserve"
  n_Store_space : NoAttr K A.ex.Store "space"
  n_Store_table : NoAttr K A.ex.Store "table"
  c_Disk : Cls K A.ex.Disk
  M_Disk : Mk K A.ex.Disk A.f_Disk___init__
  gC_Disk : mg "Disk" = some (.ref A.ex.Disk)
  c_Head : Cls K A.ex.Head
  M_Head : Mk K A.ex.Head A.f_Head___init__
  gC_Head : mg "Head" = some (.ref A.ex.Head)
  c_Space : Cls K A.ex.Space
  M_Space : Mk K A.ex.Space A.f_Space___init__
  gC_Space : mg "Space" = some (.ref A.ex.Space)
  c_Store : Cls K A.ex.Store
  M_Store : Mk K A.ex.Store A.f_Store___init__
  gC_Store : mg "Store" = some (.ref A.ex.Store)
  fa : Fa K A.ex
section
variable {P : Program} {w : World} {K : PySem.W.Frag} {mg : Str → Option Value} {base : Heap} {A : Adr}
theorem ok_is_between (T : Top K mg A) : FnOk P w K mg base (L2.CX P w) 1 A.f_is_between A.d_is_between ["value", "low", "high"] (sp_is_between K A.ex) := by
  refine T.F_is_between.okX sc_is_between (fun vs H Q E h => len3 h) (fun cdv Ar outer s H vs Q E hr h => ⟨t_is_between K A.ex E, ?_, pure_is_between T.fa h⟩)
  have tk : Takes (cxOf (L2.CX P w) P w K mg base ["value", "low", "high"] "is_between" (defScope s_is_between) A.f_is_between cdv Ar outer s H E) (WB E) := takes_of rfl rfl rfl rfl
  have hu := hu_of hr
  have hl := Nat.lt_of_succ_lt hu
  exact pss_cons (ps_if (PW.pt (pw_or (pt_not (t_tru (pe_callB (c_isi .int) (by rfl) T.n_isinstance (by decide +kernel) (pa_cons (pv 0) (pa_cons (pe_bltn rfl T.n_int (by decide +kernel) rfl) (pa_nil)))))) (pw_or1 (t_tru (pe_callB (c_isi .bool) (by rfl) T.n_isinstance (by decide +kernel) (pa_cons (pv 0) (pa_cons (pe_bltn rfl T.n_bool (by decide +kernel) rfl) (pa_nil)))))))) (pss_one (ps_ret (pe_bl))) (pss_nil))
        (pss_one (ps_ret (pe_chain (o_le hl) (o_le hl) (pv 1) (pv 0) (pv 2))))
theorem ok_is_word (T : Top K mg A) : FnOk P w K mg base (L2.CX P w) 1 A.f_is_word A.d_is_word ["value"] (sp_is_word K A.ex) := by
  refine T.F_is_word.okX sc_is_word (fun vs H Q E h => len1 h) (fun cdv Ar outer s H vs Q E hr h => ⟨t_is_word K A.ex E, ?_, pure_is_word T.fa h⟩)
  have tk : Takes (cxOf (L2.CX P w) P w K mg base ["value"] "is_word" (defScope s_is_word) A.f_is_word cdv Ar outer s H E) (WB E) := takes_of rfl rfl rfl rfl
  have hu := hu_of hr
  have hl := Nat.lt_of_succ_lt hu
  exact pss_cons (ps_if (PW.pt (pw_or (pt_not (t_tru (pe_callB (c_isi .int) (by rfl) T.n_isinstance (by decide +kernel) (pa_cons (pv 0) (pa_cons (pe_bltn rfl T.n_int (by decide +kernel) rfl) (pa_nil)))))) (pw_or1 (t_tru (pe_callB (c_isi .bool) (by rfl) T.n_isinstance (by decide +kernel) (pa_cons (pv 0) (pa_cons (pe_bltn rfl T.n_bool (by decide +kernel) rfl) (pa_nil)))))))) (pss_one (ps_ret (pe_bl))) (pss_nil))
        (pss_one (ps_ret (pe_cmpR (o_ge hl) (pv 0) (pe_int) (nomark _))))
theorem ok_are_words (T : Top K mg A) : FnOk P w K mg base (L2.CX P w) 2 A.f_are_words A.d_are_words ["values", "many"] (sp_are_words K A.ex) := by
  refine T.F_are_words.okX sc_are_words (fun vs H Q E h => len2 h) (fun cdv Ar outer s H vs Q E hr h => ⟨t_are_words K A.ex E, ?_, pure_are_words T.fa h⟩)
  have tk : Takes (cxOf (L2.CX P w) P w K mg base ["values", "many", "value"] "are_words" (defScope s_are_words) A.f_are_words cdv Ar outer s H E) (WB E) := takes_of rfl rfl rfl rfl
  have po : PassesOwn (model P w) (cxOf (L2.CX P w) P w K mg base ["values", "many", "value"] "are_words" (defScope s_are_words) A.f_are_words cdv Ar outer s H E).A (cxOf (L2.CX P w) P w K mg base ["values", "many", "value"] "are_words" (defScope s_are_words) A.f_are_words cdv Ar outer s H E).env (cxOf (L2.CX P w) P w K mg base ["values", "many", "value"] "are_words" (defScope s_are_words) A.f_are_words cdv Ar outer s H E).xe := passes_of rfl
  exact pss_cons (ps_if (PW.pt (pw_or (pt_not (t_tru (pe_callB (c_isi .list) (by rfl) T.n_isinstance (by decide +kernel) (pa_cons (pv 0) (pa_cons (pe_bltn rfl T.n_list (by decide +kernel) rfl) (pa_nil)))))) (pw_or1 (pt_cmpR (o_ne hr.units) (pe_callB (c_len) (by rfl) T.n_len (by decide +kernel) (pa_cons (pv 0) (pa_nil))) (pv 1) (nomark _))))) (pss_one (ps_ret (pe_bl))) (pss_nil))
        (pss_cons (ps_for po rfl (pi_list (pv 0)) (pg_name (i := 2) sc_are_words.nd rfl (Or.inl rfl))
        (pss_one (ps_if (pt_not (t_tru (e_call (ok_is_word T) (hr.mono (by decide)) T.g_is_word T.F_is_word.kp T.b_is_word tk (pa_cons (pv 2) (pa_nil))))) (pss_one (ps_ret (pe_bl))) (pss_nil))))
        (pss_one (ps_ret (pe_bl))))
theorem ok_Disk___init__ (T : Top K mg A) : FnOk P w K mg base (L2.CX P w) 2 A.f_Disk___init__ A.d_Disk___init__ ["self", "blocks"] (sp_Disk___init__ K A.ex) := by
  refine T.F_Disk___init__.okX sc_Disk___init__ (fun vs H Q E h => len2 h) (fun cdv Ar outer s H vs Q E hr h => ⟨t_Disk___init__ K A.ex E, ?_, pure_Disk___init__ T.fa h⟩)
  have tk : Takes (cxOf (L2.CX P w) P w K mg base ["self", "blocks", "sector"] "Disk.__init__" (defScope s_Disk___init__) A.f_Disk___init__ cdv Ar outer s H E) (WB E) := takes_of rfl rfl rfl rfl
  exact pss_cons (ps_if (pt_not (t_tru (e_call (ok_is_between T) (hr.mono (by decide)) T.g_is_between T.F_is_between.kp T.b_is_between tk (pa_cons (pv 1) (pa_cons (pe_glob rfl T.k_MIN_BLOCKS.choose_spec ⟨_, rfl⟩) (pa_cons (pe_glob rfl T.k_MAX_BLOCKS.choose_spec ⟨_, rfl⟩) (pa_nil))))))) (pss_one (s_raise T.x_NotValid tk)) (pss_nil))
        (pss_cons (s_fld T.c_Disk T.n_Disk_blocks (pv 0) (pv 1))
        (pss_cons (s_fld T.c_Disk T.n_Disk_sectors (pv 0) (pe_lc (own := [("sector", 2)]) (by rfl) sc_Disk___init__.nd (pi_range1 (by rfl) T.n_range (pa_cons (pe_op o_mul (pv 1) (pe_glob rfl T.k_BLOCK_SECTORS.choose_spec ⟨_, rfl⟩)) (pa_nil))) (blkOk_by (N := ["self", "blocks", "sector"]) (sc := defScope s_Disk___init__) (by decide +kernel)) (fun _ _ _ _ _ => pg_name (i := 2) sc_Disk___init__.nd rfl (Or.inl rfl)) (fun _ _ _ _ _ => pts_nil) (fun _ _ _ _ _ => pe_op o_mul (pe_lst (pa_cons (pe_int) (pa_nil))) (pe_glob rfl T.k_SECTOR_WORDS.choose_spec ⟨_, rfl⟩))))
        (pss_cons (s_fld T.c_Disk T.n_Disk_writes (pv 0) (pe_lst (pa_nil)))
        (pss_cons (s_fld T.c_Disk T.n_Disk_newest (pv 0) (pe_dnewK))
        (pss_cons (s_fld T.c_Disk T.n_Disk_left (pv 0) (pe_non))
        (pss_one (s_fld T.c_Disk T.n_Disk_power (pv 0) (pe_bl))))))))
theorem ok_Disk_read (T : Top K mg A) : FnOk P w K mg base (L2.CX P w) 2 A.f_Disk_read A.d_Disk_read ["self", "sector"] (sp_Disk_read K A.ex) := by
  refine T.F_Disk_read.okX sc_Disk_read (fun vs H Q E h => len2 h) (fun cdv Ar outer s H vs Q E hr h => ⟨t_Disk_read K A.ex E, ?_, pure_Disk_read T.fa h⟩)
  have tk : Takes (cxOf (L2.CX P w) P w K mg base ["self", "sector"] "Disk.read" (defScope s_Disk_read) A.f_Disk_read cdv Ar outer s H E) (WB E) := takes_of rfl rfl rfl rfl
  have hu := hu_of hr
  exact pss_cons (ps_if (pt_not (t_tru (e_fld T.c_Disk T.n_Disk_power (pv 0)))) (pss_one (s_raise T.x_PowerOff tk)) (pss_nil))
        (pss_cons (ps_if (pt_not (t_tru (e_call (ok_is_between T) (hr.mono (by decide)) T.g_is_between T.F_is_between.kp T.b_is_between tk (pa_cons (pv 1) (pa_cons (pe_int) (pa_cons (pe_op o_sub (pe_callB (c_len) (by rfl) T.n_len (by decide +kernel) (pa_cons (e_fld T.c_Disk T.n_Disk_sectors (pv 0)) (pa_nil))) (pe_int)) (pa_nil))))))) (pss_one (s_raise T.x_NotValid tk)) (pss_nil))
        (pss_cons (ps_if (pt_cmpR (o_in hu) (pv 1) (e_fld T.c_Disk T.n_Disk_newest (pv 0)) (by rfl)) (pss_one (ps_ret (pe_callTy (c_list) (by rfl) T.n_list (by decide +kernel) (pa_cons (e_dg hu (e_fld T.c_Disk T.n_Disk_newest (pv 0)) (pv 1)) (pa_nil))))) (pss_nil))
        (pss_one (ps_ret (pe_callTy (c_list) (by rfl) T.n_list (by decide +kernel) (pa_cons (e_ix (e_fld T.c_Disk T.n_Disk_sectors (pv 0)) (pv 1)) (pa_nil)))))))
theorem ok_Disk_operate (T : Top K mg A) : FnOk P w K mg base (L2.CX P w) 1 A.f_Disk_operate A.d_Disk_operate ["self"] (sp_Disk_operate K A.ex) := by
  refine T.F_Disk_operate.okX sc_Disk_operate (fun vs H Q E h => len1 h) (fun cdv Ar outer s H vs Q E hr h => ⟨t_Disk_operate K A.ex E, ?_, pure_Disk_operate T.fa h⟩)
  have tk : Takes (cxOf (L2.CX P w) P w K mg base ["self"] "Disk.operate" (defScope s_Disk_operate) A.f_Disk_operate cdv Ar outer s H E) (WB E) := takes_of rfl rfl rfl rfl
  exact pss_cut (ps_if (pt_cmpR (o_eq hr.units) (e_fld T.c_Disk T.n_Disk_left (pv 0)) (pe_int) (nomark _)) (pss_one (s_fld T.c_Disk T.n_Disk_power (pv 0) (pe_bl))) (pss_nil))
        (pss_cons (ps_if (pt_not (t_tru (e_fld T.c_Disk T.n_Disk_power (pv 0)))) (pss_one (s_raise T.x_PowerOff tk)) (pss_nil))
        (pss_one (ps_if (pt_cmpR (o_isnt) (e_fld T.c_Disk T.n_Disk_left (pv 0)) (pe_non) (nomark _)) (pss_one (s_augf T.c_Disk T.n_Disk_left (pv 0) (pe_int) in_sub)) (pss_nil))))
theorem ok_Disk_write (T : Top K mg A) : FnOk P w K mg base (L2.CX P w) 3 A.f_Disk_write A.d_Disk_write ["self", "sector", "words"] (sp_Disk_write K A.ex) := by
  refine T.F_Disk_write.okX sc_Disk_write (fun vs H Q E h => len3 h) (fun cdv Ar outer s H vs Q E hr h => ⟨t_Disk_write K A.ex E, ?_, pure_Disk_write T.fa h⟩)
  have tk : Takes (cxOf (L2.CX P w) P w K mg base ["self", "sector", "words"] "Disk.write" (defScope s_Disk_write) A.f_Disk_write cdv Ar outer s H E) (WB E) := takes_of rfl rfl rfl rfl
  have hu := hu_of hr
  exact pss_cons (ps_if (pt_not (t_tru (e_call (ok_is_between T) (hr.mono (by decide)) T.g_is_between T.F_is_between.kp T.b_is_between tk (pa_cons (pv 1) (pa_cons (pe_int) (pa_cons (pe_op o_sub (pe_callB (c_len) (by rfl) T.n_len (by decide +kernel) (pa_cons (e_fld T.c_Disk T.n_Disk_sectors (pv 0)) (pa_nil))) (pe_int)) (pa_nil))))))) (pss_one (s_raise T.x_NotValid tk)) (pss_nil))
        (pss_cons (ps_if (pt_not (t_tru (e_call (ok_are_words T) (hr.mono (by decide)) T.g_are_words T.F_are_words.kp T.b_are_words tk (pa_cons (pv 2) (pa_cons (pe_glob rfl T.k_SECTOR_WORDS.choose_spec ⟨_, rfl⟩) (pa_nil)))))) (pss_one (s_raise T.x_NotValid tk)) (pss_nil))
        (pss_cons (ps_expr (e_meth0 (pv 0) T.c_Disk T.m_Disk_operate (ok_Disk_operate T) (hr.mono (by decide)) T.b_Disk_operate tk))
        (pss_cons (ps_expr (pe_bm PySem.F.plainAttrs_list PySem.F.slot_list_append PySem.F.type_list_append mt_append (e_fld T.c_Disk T.n_Disk_writes (pv 0)) (pa_cons (pe_tup (pa_cons (pv 1) (pa_cons (pe_callTy (c_list) (by rfl) T.n_list (by decide +kernel) (pa_cons (pv 2) (pa_nil))) (pa_nil)))) (pa_nil))))
        (pss_one (ps_dput hu (e_fld T.c_Disk T.n_Disk_newest (pv 0)) (pv 1) (pe_callTy (c_list) (by rfl) T.n_list (by decide +kernel) (pa_cons (pv 2) (pa_nil))) rfl)))))
theorem ok_Disk_flush (T : Top K mg A) : FnOk P w K mg base (L2.CX P w) 2 A.f_Disk_flush A.d_Disk_flush ["self"] (sp_Disk_flush K A.ex) := by
  refine T.F_Disk_flush.okX sc_Disk_flush (fun vs H Q E h => len1 h) (fun cdv Ar outer s H vs Q E hr h => ⟨t_Disk_flush K A.ex E, ?_, pure_Disk_flush T.fa h⟩)
  have tk : Takes (cxOf (L2.CX P w) P w K mg base ["self", "sector", "words"] "Disk.flush" (defScope s_Disk_flush) A.f_Disk_flush cdv Ar outer s H E) (WB E) := takes_of rfl rfl rfl rfl
  have po : PassesOwn (model P w) (cxOf (L2.CX P w) P w K mg base ["self", "sector", "words"] "Disk.flush" (defScope s_Disk_flush) A.f_Disk_flush cdv Ar outer s H E).A (cxOf (L2.CX P w) P w K mg base ["self", "sector", "words"] "Disk.flush" (defScope s_Disk_flush) A.f_Disk_flush cdv Ar outer s H E).env (cxOf (L2.CX P w) P w K mg base ["self", "sector", "words"] "Disk.flush" (defScope s_Disk_flush) A.f_Disk_flush cdv Ar outer s H E).xe := passes_of rfl
  have hu := hu_of hr
  exact pss_cons (ps_expr (e_meth0 (pv 0) T.c_Disk T.m_Disk_operate (ok_Disk_operate T) (hr.mono (by decide)) T.b_Disk_operate tk))
        (pss_cons (ps_for po rfl (pi_list (e_fld T.c_Disk T.n_Disk_writes (pv 0))) (pg_tup rfl (pgs_cons (pg_name (i := 1) sc_Disk_flush.nd rfl (Or.inl rfl)) (pgs_cons (pg_name (i := 2) sc_Disk_flush.nd rfl (Or.inl rfl)) (pgs_nil))))
        (pss_one (ps_asg (pe_callTy (c_list) (by rfl) T.n_list (by decide +kernel) (pa_cons (pv 2) (pa_nil))) (pg_sub (e_fld T.c_Disk T.n_Disk_sectors (pv 0)) (pv 1) (set_u hu)))))
        (pss_cons (s_fld T.c_Disk T.n_Disk_writes (pv 0) (pe_lst (pa_nil)))
        (pss_one (s_fld T.c_Disk T.n_Disk_newest (pv 0) (pe_dnewK)))))
theorem ok_Disk_waiting (T : Top K mg A) : FnOk P w K mg base (L2.CX P w) 1 A.f_Disk_waiting A.d_Disk_waiting ["self"] (sp_Disk_waiting K A.ex) := by
  refine T.F_Disk_waiting.okX sc_Disk_waiting (fun vs H Q E h => len1 h) (fun cdv Ar outer s H vs Q E hr h => ⟨t_Disk_waiting K A.ex E, ?_, pure_Disk_waiting T.fa h⟩)
  have tk : Takes (cxOf (L2.CX P w) P w K mg base ["self", "sector", "words"] "Disk.waiting" (defScope s_Disk_waiting) A.f_Disk_waiting cdv Ar outer s H E) (WB E) := takes_of rfl rfl rfl rfl
  exact pss_one (ps_ret (pe_lc (own := [("sector", 1), ("words", 2)]) (by rfl) sc_Disk_waiting.nd (pi_list (e_fld T.c_Disk T.n_Disk_writes (pv 0))) (blkOk_by (N := ["self", "sector", "words"]) (sc := defScope s_Disk_waiting) (by decide +kernel)) (fun _ _ _ _ _ => pg_tup rfl (pgs_cons (pg_name (i := 1) sc_Disk_waiting.nd rfl (Or.inl rfl)) (pgs_cons (pg_name (i := 2) sc_Disk_waiting.nd rfl (Or.inl rfl)) (pgs_nil)))) (fun _ _ _ _ _ => pts_nil) (fun _ _ _ _ _ => pe_tup (pa_cons (pv 1) (pa_cons (pe_callTy (c_list) (by rfl) T.n_list (by decide +kernel) (pa_cons (pv 2) (pa_nil))) (pa_nil))))))
theorem ok_Disk_lasting (T : Top K mg A) : FnOk P w K mg base (L2.CX P w) 1 A.f_Disk_lasting A.d_Disk_lasting ["self"] (sp_Disk_lasting K A.ex) := by
  refine T.F_Disk_lasting.okX sc_Disk_lasting (fun vs H Q E h => len1 h) (fun cdv Ar outer s H vs Q E hr h => ⟨t_Disk_lasting K A.ex E, ?_, pure_Disk_lasting T.fa h⟩)
  have tk : Takes (cxOf (L2.CX P w) P w K mg base ["self", "words"] "Disk.lasting" (defScope s_Disk_lasting) A.f_Disk_lasting cdv Ar outer s H E) (WB E) := takes_of rfl rfl rfl rfl
  exact pss_one (ps_ret (pe_lc (own := [("words", 1)]) (by rfl) sc_Disk_lasting.nd (pi_list (e_fld T.c_Disk T.n_Disk_sectors (pv 0))) (blkOk_by (N := ["self", "words"]) (sc := defScope s_Disk_lasting) (by decide +kernel)) (fun _ _ _ _ _ => pg_name (i := 1) sc_Disk_lasting.nd rfl (Or.inl rfl)) (fun _ _ _ _ _ => pts_nil) (fun _ _ _ _ _ => pe_callTy (c_list) (by rfl) T.n_list (by decide +kernel) (pa_cons (pv 1) (pa_nil)))))
theorem ok_Disk_image (T : Top K mg A) : FnOk P w K mg base (L2.CX P w) 2 A.f_Disk_image A.d_Disk_image ["self"] (sp_Disk_image K A.ex) := by
  refine T.F_Disk_image.okX sc_Disk_image (fun vs H Q E h => len1 h) (fun cdv Ar outer s H vs Q E hr h => ⟨t_Disk_image K A.ex E, ?_, pure_Disk_image T.fa h⟩)
  have tk : Takes (cxOf (L2.CX P w) P w K mg base ["self", "rows", "sector"] "Disk.image" (defScope s_Disk_image) A.f_Disk_image cdv Ar outer s H E) (WB E) := takes_of rfl rfl rfl rfl
  have po : PassesOwn (model P w) (cxOf (L2.CX P w) P w K mg base ["self", "rows", "sector"] "Disk.image" (defScope s_Disk_image) A.f_Disk_image cdv Ar outer s H E).A (cxOf (L2.CX P w) P w K mg base ["self", "rows", "sector"] "Disk.image" (defScope s_Disk_image) A.f_Disk_image cdv Ar outer s H E).env (cxOf (L2.CX P w) P w K mg base ["self", "rows", "sector"] "Disk.image" (defScope s_Disk_image) A.f_Disk_image cdv Ar outer s H E).xe := passes_of rfl
  have hu := hu_of hr
  exact pss_cons (ps_set (i := 1) sc_Disk_image.nd rfl (Or.inl rfl) (e_meth0 (pv 0) T.c_Disk T.m_Disk_lasting (ok_Disk_lasting T) (hr.mono (by decide)) T.b_Disk_lasting tk))
        (pss_cons (ps_lock (ps_for po rfl (pi_keys (e_fld T.c_Disk T.n_Disk_newest (pv 0))) (pg_name (i := 2) sc_Disk_image.nd rfl (Or.inl rfl))
        (pss_one (ps_asg (pe_callTy (c_list) (by rfl) T.n_list (by decide +kernel) (pa_cons (e_dg hu (e_fld T.c_Disk T.n_Disk_newest (pv 0)) (pv 2)) (pa_nil))) (pg_sub (pv 1) (pv 2) (set_u hu))))))
        (pss_one (ps_ret (pv 1))))
theorem ok_Head___init__ (T : Top K mg A) : FnOk P w K mg base (L2.CX P w) 1 A.f_Head___init__ A.d_Head___init__ ["self", "generation", "table", "blocks"] (sp_Head___init__ K A.ex) := by
  refine T.F_Head___init__.okX sc_Head___init__ (fun vs H Q E h => len4 h) (fun cdv Ar outer s H vs Q E hr h => ⟨t_Head___init__ K A.ex E, ?_, pure_Head___init__ T.fa h⟩)
  have tk : Takes (cxOf (L2.CX P w) P w K mg base ["self", "generation", "table", "blocks"] "Head.__init__" (defScope s_Head___init__) A.f_Head___init__ cdv Ar outer s H E) (WB E) := takes_of rfl rfl rfl rfl
  exact pss_cons (s_fld T.c_Head T.n_Head_generation (pv 0) (pv 1))
        (pss_cons (s_fld T.c_Head T.n_Head_table (pv 0) (pv 2))
        (pss_one (s_fld T.c_Head T.n_Head_blocks (pv 0) (pv 3))))
theorem ok_Space_count_spare (T : Top K mg A) : FnOk P w K mg base (L2.CX P w) 1 A.f_Space_count_spare A.d_Space_count_spare ["self"] (sp_Space_count_spare K A.ex) := by
  refine T.F_Space_count_spare.okX sc_Space_count_spare (fun vs H Q E h => len1 h) (fun cdv Ar outer s H vs Q E hr h => ⟨t_Space_count_spare K A.ex E, ?_, pure_Space_count_spare T.fa h⟩)
  have tk : Takes (cxOf (L2.CX P w) P w K mg base ["self", "many", "held"] "Space.count_spare" (defScope s_Space_count_spare) A.f_Space_count_spare cdv Ar outer s H E) (WB E) := takes_of rfl rfl rfl rfl
  exact pss_cons (s_fld T.c_Space T.n_Space_spare (pv 0) (pe_callB (c_len) (by rfl) T.n_len (by decide +kernel) (pa_cons (pe_lc (own := [("many", 1), ("held", 2)]) (by rfl) sc_Space_count_spare.nd (pi_zip (by rfl) T.n_zip (pa_cons (e_fld T.c_Space T.n_Space_numbers (pv 0)) (pa_cons (e_fld T.c_Space T.n_Space_held (pv 0)) (pa_nil)))) (blkOk_by (N := ["self", "many", "held"]) (sc := defScope s_Space_count_spare) (by decide +kernel)) (fun _ _ _ _ _ => pg_tup rfl (pgs_cons (pg_name (i := 1) sc_Space_count_spare.nd rfl (Or.inl rfl)) (pgs_cons (pg_name (i := 2) sc_Space_count_spare.nd rfl (Or.inl rfl)) (pgs_nil)))) (fun _ _ _ _ _ => pts_one (PW.pt (pw_and (pt_cmpR (o_eq hr.units) (pv 1) (pe_int) (nomark _)) (pw_and1 (pt_not (t_tru (pv 2))))))) (fun _ _ _ _ _ => pv 1)) (pa_nil))))
        (pss_one (s_fld T.c_Space T.n_Space_low (pv 0) (pe_int)))
theorem ok_Space___init__ (T : Top K mg A) : FnOk P w K mg base (L2.CX P w) 2 A.f_Space___init__ A.d_Space___init__ ["self", "uses"] (sp_Space___init__ K A.ex) := by
  refine T.F_Space___init__.okX sc_Space___init__ (fun vs H Q E h => len2 h) (fun cdv Ar outer s H vs Q E hr h => ⟨t_Space___init__ K A.ex E, ?_, pure_Space___init__ T.fa h⟩)
  have tk : Takes (cxOf (L2.CX P w) P w K mg base ["self", "uses", "many"] "Space.__init__" (defScope s_Space___init__) A.f_Space___init__ cdv Ar outer s H E) (WB E) := takes_of rfl rfl rfl rfl
  exact pss_cons (s_fld T.c_Space T.n_Space_blocks (pv 0) (pe_callB (c_len) (by rfl) T.n_len (by decide +kernel) (pa_cons (pv 1) (pa_nil))))
        (pss_cons (s_fld T.c_Space T.n_Space_numbers (pv 0) (pe_callTy (c_list) (by rfl) T.n_list (by decide +kernel) (pa_cons (pv 1) (pa_nil))))
        (pss_cons (s_fld T.c_Space T.n_Space_held (pv 0) (pe_lc (own := [("many", 2)]) (by rfl) sc_Space___init__.nd (pi_list (pv 1)) (blkOk_by (N := ["self", "uses", "many"]) (sc := defScope s_Space___init__) (by decide +kernel)) (fun _ _ _ _ _ => pg_name (i := 2) sc_Space___init__.nd rfl (Or.inl rfl)) (fun _ _ _ _ _ => pts_nil) (fun _ _ _ _ _ => pe_cmpR (o_gt) (pv 2) (pe_int) (nomark _))))
        (pss_cons (s_fld T.c_Space T.n_Space_spare (pv 0) (pe_int))
        (pss_cons (s_fld T.c_Space T.n_Space_low (pv 0) (pe_int))
        (pss_one (ps_expr (e_meth0 (pv 0) T.c_Space T.m_Space_count_spare (ok_Space_count_spare T) (hr.mono (by decide)) T.b_Space_count_spare tk)))))))
theorem ok_Space_check_block (T : Top K mg A) : FnOk P w K mg base (L2.CX P w) 2 A.f_Space_check_block A.d_Space_check_block ["self", "block"] (sp_Space_check_block K A.ex) := by
  refine T.F_Space_check_block.okX sc_Space_check_block (fun vs H Q E h => len2 h) (fun cdv Ar outer s H vs Q E hr h => ⟨t_Space_check_block K A.ex E, ?_, pure_Space_check_block T.fa h⟩)
  have tk : Takes (cxOf (L2.CX P w) P w K mg base ["self", "block"] "Space.check_block" (defScope s_Space_check_block) A.f_Space_check_block cdv Ar outer s H E) (WB E) := takes_of rfl rfl rfl rfl
  exact pss_one (ps_if (pt_not (t_tru (e_call (ok_is_between T) (hr.mono (by decide)) T.g_is_between T.F_is_between.kp T.b_is_between tk (pa_cons (pv 1) (pa_cons (pe_int) (pa_cons (pe_op o_sub (e_fld T.c_Space T.n_Space_blocks (pv 0)) (pe_int)) (pa_nil))))))) (pss_one (s_raise T.x_NotValid tk)) (pss_nil))
theorem ok_Space_least_free (T : Top K mg A) : FnOk P w K mg base (L2.CX P w) 1 A.f_Space_least_free A.d_Space_least_free ["self"] (sp_Space_least_free K A.ex) := by
  refine T.F_Space_least_free.okX sc_Space_least_free (fun vs H Q E h => len1 h) (fun cdv Ar outer s H vs Q E hr h => ⟨t_Space_least_free K A.ex E, ?_, pure_Space_least_free T.fa h⟩)
  have tk : Takes (cxOf (L2.CX P w) P w K mg base ["self"] "Space.least_free" (defScope s_Space_least_free) A.f_Space_least_free cdv Ar outer s H E) (WB E) := takes_of rfl rfl rfl rfl
  have po : PassesOwn (model P w) (cxOf (L2.CX P w) P w K mg base ["self"] "Space.least_free" (defScope s_Space_least_free) A.f_Space_least_free cdv Ar outer s H E).A (cxOf (L2.CX P w) P w K mg base ["self"] "Space.least_free" (defScope s_Space_least_free) A.f_Space_least_free cdv Ar outer s H E).env (cxOf (L2.CX P w) P w K mg base ["self"] "Space.least_free" (defScope s_Space_least_free) A.f_Space_least_free cdv Ar outer s H E).xe := passes_of rfl
  exact pss_cons (ps_if (pt_cmpR (o_eq hr.units) (e_fld T.c_Space T.n_Space_spare (pv 0)) (pe_int) (nomark _)) (pss_one (ps_ret (pe_non))) (pss_nil))
        (pss_cons (ps_while po (PW.pt (pw_or (pt_cmpR (o_gt) (e_ix (e_fld T.c_Space T.n_Space_numbers (pv 0)) (e_fld T.c_Space T.n_Space_low (pv 0))) (pe_int) (nomark _)) (pw_or1 (t_tru (e_ix (e_fld T.c_Space T.n_Space_held (pv 0)) (e_fld T.c_Space T.n_Space_low (pv 0)))))))
        (pss_one (s_augf T.c_Space T.n_Space_low (pv 0) (pe_int) in_add)))
        (pss_one (ps_ret (e_fld T.c_Space T.n_Space_low (pv 0)))))
theorem ok_Space_take (T : Top K mg A) : FnOk P w K mg base (L2.CX P w) 2 A.f_Space_take A.d_Space_take ["self", "reserve"] (sp_Space_take K A.ex) := by
  refine T.F_Space_take.okX sc_Space_take (fun vs H Q E h => len2 h) (fun cdv Ar outer s H vs Q E hr h => ⟨t_Space_take K A.ex E, ?_, pure_Space_take T.fa h⟩)
  have tk : Takes (cxOf (L2.CX P w) P w K mg base ["self", "reserve", "block"] "Space.take" (defScope s_Space_take) A.f_Space_take cdv Ar outer s H E) (WB E) := takes_of rfl rfl rfl rfl
  have hu := hu_of hr
  have hl := Nat.lt_of_succ_lt hu
  exact pss_cons (ps_if (pt_cmpR (o_le hl) (e_fld T.c_Space T.n_Space_spare (pv 0)) (pv 1) (nomark _)) (pss_one (s_raise T.x_NoSpace tk)) (pss_nil))
        (pss_cons (ps_set (i := 2) sc_Space_take.nd rfl (Or.inl rfl) (e_meth0 (pv 0) T.c_Space T.m_Space_least_free (ok_Space_least_free T) (hr.mono (by decide)) T.b_Space_least_free tk))
        (pss_cons (ps_asg (pe_int) (pg_sub (e_fld T.c_Space T.n_Space_numbers (pv 0)) (pv 2) (set_u hu)))
        (pss_cons (s_augf T.c_Space T.n_Space_spare (pv 0) (pe_int) in_sub)
        (pss_one (ps_ret (pv 2))))))
theorem ok_Space_share (T : Top K mg A) : FnOk P w K mg base (L2.CX P w) 3 A.f_Space_share A.d_Space_share ["self", "block"] (sp_Space_share K A.ex) := by
  refine T.F_Space_share.okX sc_Space_share (fun vs H Q E h => len2 h) (fun cdv Ar outer s H vs Q E hr h => ⟨t_Space_share K A.ex E, ?_, pure_Space_share T.fa h⟩)
  have tk : Takes (cxOf (L2.CX P w) P w K mg base ["self", "block"] "Space.share" (defScope s_Space_share) A.f_Space_share cdv Ar outer s H E) (WB E) := takes_of rfl rfl rfl rfl
  have hu := hu_of hr
  have hl := Nat.lt_of_succ_lt hu
  exact pss_cons (ps_expr (e_meth (pv 0) T.c_Space T.m_Space_check_block (ok_Space_check_block T) (hr.mono (by decide)) T.b_Space_check_block tk (pa_cons (pv 1) (pa_nil))))
        (pss_cons (ps_if (PW.pt (pw_or (pt_cmpR (o_lt hl) (pv 1) (pe_glob rfl T.k_FIRST_BLOCK.choose_spec ⟨_, rfl⟩) (nomark _)) (pw_or1 (pt_cmpR (o_eq hr.units) (e_ix (e_fld T.c_Space T.n_Space_numbers (pv 0)) (pv 1)) (pe_int) (nomark _))))) (pss_one (s_raise T.x_NotValid tk)) (pss_nil))
        (pss_one (ps_augS (e_fld T.c_Space T.n_Space_numbers (pv 0)) (pv 1) (get_u hu) (pe_int) ip_add (set_u hu))))
theorem ok_Space_is_free (T : Top K mg A) : FnOk P w K mg base (L2.CX P w) 3 A.f_Space_is_free A.d_Space_is_free ["self", "block"] (sp_Space_is_free K A.ex) := by
  refine T.F_Space_is_free.okX sc_Space_is_free (fun vs H Q E h => len2 h) (fun cdv Ar outer s H vs Q E hr h => ⟨t_Space_is_free K A.ex E, ?_, pure_Space_is_free T.fa h⟩)
  have tk : Takes (cxOf (L2.CX P w) P w K mg base ["self", "block"] "Space.is_free" (defScope s_Space_is_free) A.f_Space_is_free cdv Ar outer s H E) (WB E) := takes_of rfl rfl rfl rfl
  exact pss_cons (ps_expr (e_meth (pv 0) T.c_Space T.m_Space_check_block (ok_Space_check_block T) (hr.mono (by decide)) T.b_Space_check_block tk (pa_cons (pv 1) (pa_nil))))
        (pss_one (ps_ret (pe_and (pe_cmpR (o_eq hr.units) (e_ix (e_fld T.c_Space T.n_Space_numbers (pv 0)) (pv 1)) (pe_int) (nomark _)) (pe_one (pe_not (e_ix (e_fld T.c_Space T.n_Space_held (pv 0)) (pv 1)))))))
theorem ok_Space_drop (T : Top K mg A) : FnOk P w K mg base (L2.CX P w) 4 A.f_Space_drop A.d_Space_drop ["self", "block"] (sp_Space_drop K A.ex) := by
  refine T.F_Space_drop.okX sc_Space_drop (fun vs H Q E h => len2 h) (fun cdv Ar outer s H vs Q E hr h => ⟨t_Space_drop K A.ex E, ?_, pure_Space_drop T.fa h⟩)
  have tk : Takes (cxOf (L2.CX P w) P w K mg base ["self", "block"] "Space.drop" (defScope s_Space_drop) A.f_Space_drop cdv Ar outer s H E) (WB E) := takes_of rfl rfl rfl rfl
  have hu := hu_of hr
  have hl := Nat.lt_of_succ_lt hu
  exact pss_cons (ps_expr (e_meth (pv 0) T.c_Space T.m_Space_check_block (ok_Space_check_block T) (hr.mono (by decide)) T.b_Space_check_block tk (pa_cons (pv 1) (pa_nil))))
        (pss_cons (ps_if (PW.pt (pw_or (pt_cmpR (o_lt hl) (pv 1) (pe_glob rfl T.k_FIRST_BLOCK.choose_spec ⟨_, rfl⟩) (nomark _)) (pw_or1 (pt_cmpR (o_eq hr.units) (e_ix (e_fld T.c_Space T.n_Space_numbers (pv 0)) (pv 1)) (pe_int) (nomark _))))) (pss_one (s_raise T.x_NotValid tk)) (pss_nil))
        (pss_cons (ps_augS (e_fld T.c_Space T.n_Space_numbers (pv 0)) (pv 1) (get_u hu) (pe_int) ip_sub (set_u hu))
        (pss_cut (ps_if (t_tru (e_meth (pv 0) T.c_Space T.m_Space_is_free (ok_Space_is_free T) (hr.mono (by decide)) T.b_Space_is_free tk (pa_cons (pv 1) (pa_nil)))) (pss_cons (s_augf T.c_Space T.n_Space_spare (pv 0) (pe_int) in_add)
        (pss_one (s_fld T.c_Space T.n_Space_low (pv 0) (pe_callB (c_min rfl) (by rfl) T.n_min (by decide +kernel) (pa_cons (e_fld T.c_Space T.n_Space_low (pv 0)) (pa_cons (pv 1) (pa_nil))))))) (pss_nil))
        (pss_one (ps_ret (e_ix (e_fld T.c_Space T.n_Space_numbers (pv 0)) (pv 1)))))))
theorem ok_Space_uses (T : Top K mg A) : FnOk P w K mg base (L2.CX P w) 3 A.f_Space_uses A.d_Space_uses ["self", "block"] (sp_Space_uses K A.ex) := by
  refine T.F_Space_uses.okX sc_Space_uses (fun vs H Q E h => len2 h) (fun cdv Ar outer s H vs Q E hr h => ⟨t_Space_uses K A.ex E, ?_, pure_Space_uses T.fa h⟩)
  have tk : Takes (cxOf (L2.CX P w) P w K mg base ["self", "block"] "Space.uses" (defScope s_Space_uses) A.f_Space_uses cdv Ar outer s H E) (WB E) := takes_of rfl rfl rfl rfl
  exact pss_cons (ps_expr (e_meth (pv 0) T.c_Space T.m_Space_check_block (ok_Space_check_block T) (hr.mono (by decide)) T.b_Space_check_block tk (pa_cons (pv 1) (pa_nil))))
        (pss_one (ps_ret (e_ix (e_fld T.c_Space T.n_Space_numbers (pv 0)) (pv 1))))
theorem ok_Space_is_new (T : Top K mg A) : FnOk P w K mg base (L2.CX P w) 3 A.f_Space_is_new A.d_Space_is_new ["self", "block"] (sp_Space_is_new K A.ex) := by
  refine T.F_Space_is_new.okX sc_Space_is_new (fun vs H Q E h => len2 h) (fun cdv Ar outer s H vs Q E hr h => ⟨t_Space_is_new K A.ex E, ?_, pure_Space_is_new T.fa h⟩)
  have tk : Takes (cxOf (L2.CX P w) P w K mg base ["self", "block"] "Space.is_new" (defScope s_Space_is_new) A.f_Space_is_new cdv Ar outer s H E) (WB E) := takes_of rfl rfl rfl rfl
  exact pss_cons (ps_expr (e_meth (pv 0) T.c_Space T.m_Space_check_block (ok_Space_check_block T) (hr.mono (by decide)) T.b_Space_check_block tk (pa_cons (pv 1) (pa_nil))))
        (pss_one (ps_ret (pe_and (pe_cmpR (o_gt) (e_ix (e_fld T.c_Space T.n_Space_numbers (pv 0)) (pv 1)) (pe_int) (nomark _)) (pe_one (pe_not (e_ix (e_fld T.c_Space T.n_Space_held (pv 0)) (pv 1)))))))
theorem ok_Space_free (T : Top K mg A) : FnOk P w K mg base (L2.CX P w) 1 A.f_Space_free A.d_Space_free ["self"] (sp_Space_free K A.ex) := by
  refine T.F_Space_free.okX sc_Space_free (fun vs H Q E h => len1 h) (fun cdv Ar outer s H vs Q E hr h => ⟨t_Space_free K A.ex E, ?_, pure_Space_free T.fa h⟩)
  have tk : Takes (cxOf (L2.CX P w) P w K mg base ["self"] "Space.free" (defScope s_Space_free) A.f_Space_free cdv Ar outer s H E) (WB E) := takes_of rfl rfl rfl rfl
  exact pss_one (ps_ret (e_fld T.c_Space T.n_Space_spare (pv 0)))
theorem ok_Store___init__ (T : Top K mg A) : FnOk P w K mg base (L2.CX P w) 1 A.f_Store___init__ A.d_Store___init__ ["self", "disk", "head", "space"] (sp_Store___init__ K A.ex) := by
  refine T.F_Store___init__.okX sc_Store___init__ (fun vs H Q E h => len4 h) (fun cdv Ar outer s H vs Q E hr h => ⟨t_Store___init__ K A.ex E, ?_, pure_Store___init__ T.fa h⟩)
  have tk : Takes (cxOf (L2.CX P w) P w K mg base ["self", "disk", "head", "space"] "Store.__init__" (defScope s_Store___init__) A.f_Store___init__ cdv Ar outer s H E) (WB E) := takes_of rfl rfl rfl rfl
  exact pss_cons (s_fld T.c_Store T.n_Store_disk (pv 0) (pv 1))
        (pss_cons (s_fld T.c_Store T.n_Store_head (pv 0) (pv 2))
        (pss_cons (s_fld T.c_Store T.n_Store_space (pv 0) (pv 3))
        (pss_cons (s_fld T.c_Store T.n_Store_table (pv 0) (e_fld T.c_Head T.n_Head_table (pv 2)))
        (pss_cons (s_fld T.c_Store T.n_Store_reserve (pv 0) (pe_glob rfl T.k_ADD.choose_spec ⟨_, rfl⟩))
        (pss_one (s_fld T.c_Store T.n_Store_memory (pv 0) (pe_dnewK)))))))
theorem ok_Store_generation (T : Top K mg A) : FnOk P w K mg base (L2.CX P w) 1 A.f_Store_generation A.d_Store_generation ["self"] (sp_Store_generation K A.ex) := by
  refine T.F_Store_generation.okX sc_Store_generation (fun vs H Q E h => len1 h) (fun cdv Ar outer s H vs Q E hr h => ⟨t_Store_generation K A.ex E, ?_, pure_Store_generation T.fa h⟩)
  have tk : Takes (cxOf (L2.CX P w) P w K mg base ["self"] "Store.generation" (defScope s_Store_generation) A.f_Store_generation cdv Ar outer s H E) (WB E) := takes_of rfl rfl rfl rfl
  exact pss_one (ps_ret (pe_op o_add (e_fld T.c_Head T.n_Head_generation (e_fld T.c_Store T.n_Store_head (pv 0))) (pe_int)))
theorem ok_Store_use_reserve (T : Top K mg A) : FnOk P w K mg base (L2.CX P w) 1 A.f_Store_use_reserve A.d_Store_use_reserve ["self", "reserve"] (sp_Store_use_reserve K A.ex) := by
  refine T.F_Store_use_reserve.okX sc_Store_use_reserve (fun vs H Q E h => len2 h) (fun cdv Ar outer s H vs Q E hr h => ⟨t_Store_use_reserve K A.ex E, ?_, pure_Store_use_reserve T.fa h⟩)
  have tk : Takes (cxOf (L2.CX P w) P w K mg base ["self", "reserve"] "Store.use_reserve" (defScope s_Store_use_reserve) A.f_Store_use_reserve cdv Ar outer s H E) (WB E) := takes_of rfl rfl rfl rfl
  exact pss_one (s_fld T.c_Store T.n_Store_reserve (pv 0) (pv 1))
theorem ok_Store_read (T : Top K mg A) : FnOk P w K mg base (L2.CX P w) 3 A.f_Store_read A.d_Store_read ["self", "pointer"] (sp_Store_read K A.ex) := by
  refine T.F_Store_read.okX sc_Store_read (fun vs H Q E h => len2 h) (fun cdv Ar outer s H vs Q E hr h => ⟨t_Store_read K A.ex E, ?_, pure_Store_read T.fa h⟩)
  have tk : Takes (cxOf (L2.CX P w) P w K mg base ["self", "pointer", "number", "words", "part"] "Store.read" (defScope s_Store_read) A.f_Store_read cdv Ar outer s H E) (WB E) := takes_of rfl rfl rfl rfl
  have po : PassesOwn (model P w) (cxOf (L2.CX P w) P w K mg base ["self", "pointer", "number", "words", "part"] "Store.read" (defScope s_Store_read) A.f_Store_read cdv Ar outer s H E).A (cxOf (L2.CX P w) P w K mg base ["self", "pointer", "number", "words", "part"] "Store.read" (defScope s_Store_read) A.f_Store_read cdv Ar outer s H E).env (cxOf (L2.CX P w) P w K mg base ["self", "pointer", "number", "words", "part"] "Store.read" (defScope s_Store_read) A.f_Store_read cdv Ar outer s H E).xe := passes_of rfl
  have hu := hu_of hr
  exact pss_cons (ps_set (i := 2) sc_Store_read.nd rfl (Or.inl rfl) (e_ix (pv 1) (pe_int)))
        (pss_cons (ps_if (pt_not (t_tru (e_call (ok_is_between T) (hr.mono (by decide)) T.g_is_between T.F_is_between.kp T.b_is_between tk (pa_cons (pv 2) (pa_cons (pe_glob rfl T.k_FIRST_BLOCK.choose_spec ⟨_, rfl⟩) (pa_cons (pe_op o_sub (e_fld T.c_Space T.n_Space_blocks (e_fld T.c_Store T.n_Store_space (pv 0))) (pe_int)) (pa_nil))))))) (pss_one (s_raise T.x_NotValid tk)) (pss_nil))
        (pss_cons (ps_if (pt_cmpR (o_in hu) (pv 2) (e_fld T.c_Store T.n_Store_memory (pv 0)) (by rfl)) (pss_one (ps_ret (pe_callTy (c_list) (by rfl) T.n_list (by decide +kernel) (pa_cons (e_dg hu (e_fld T.c_Store T.n_Store_memory (pv 0)) (pv 2)) (pa_nil))))) (pss_nil))
        (pss_cons (ps_set (i := 3) sc_Store_read.nd rfl (Or.inl rfl) (pe_lst (pa_nil)))
        (pss_cons (ps_for po rfl (pi_range1 (by rfl) T.n_range (pa_cons (pe_glob rfl T.k_BLOCK_SECTORS.choose_spec ⟨_, rfl⟩) (pa_nil))) (pg_name (i := 4) sc_Store_read.nd rfl (Or.inl rfl))
        (pss_one (ps_set (i := 3) sc_Store_read.nd rfl (Or.inl rfl) (pe_op o_add (pv 3) (e_meth (e_fld T.c_Store T.n_Store_disk (pv 0)) T.c_Disk T.m_Disk_read (ok_Disk_read T) (hr.mono (by decide)) T.b_Disk_read tk (pa_cons (pe_op o_add (pe_op o_mul (pe_glob rfl T.k_BLOCK_SECTORS.choose_spec ⟨_, rfl⟩) (pv 2)) (pv 4)) (pa_nil)))))))
        (pss_one (ps_ret (pv 3)))))))
theorem ok_Store_require (T : Top K mg A) : FnOk P w K mg base (L2.CX P w) 2 A.f_Store_require A.d_Store_require ["self", "many"] (sp_Store_require K A.ex) := by
  refine T.F_Store_require.okX sc_Store_require (fun vs H Q E h => len2 h) (fun cdv Ar outer s H vs Q E hr h => ⟨t_Store_require K A.ex E, ?_, pure_Store_require T.fa h⟩)
  have tk : Takes (cxOf (L2.CX P w) P w K mg base ["self", "many"] "Store.require" (defScope s_Store_require) A.f_Store_require cdv Ar outer s H E) (WB E) := takes_of rfl rfl rfl rfl
  have hu := hu_of hr
  have hl := Nat.lt_of_succ_lt hu
  exact pss_one (ps_if (pt_cmpR (o_lt hl) (e_meth0 (e_fld T.c_Store T.n_Store_space (pv 0)) T.c_Space T.m_Space_free (ok_Space_free T) (hr.mono (by decide)) T.b_Space_free tk) (pe_op o_add (pv 1) (e_fld T.c_Store T.n_Store_reserve (pv 0))) (nomark _)) (pss_one (s_raise T.x_NoSpace tk)) (pss_nil))
theorem ok_Store_next_pointer (T : Top K mg A) : FnOk P w K mg base (L2.CX P w) 3 A.f_Store_next_pointer A.d_Store_next_pointer ["self"] (sp_Store_next_pointer K A.ex) := by
  refine T.F_Store_next_pointer.okX sc_Store_next_pointer (fun vs H Q E h => len1 h) (fun cdv Ar outer s H vs Q E hr h => ⟨t_Store_next_pointer K A.ex E, ?_, pure_Store_next_pointer T.fa h⟩)
  have tk : Takes (cxOf (L2.CX P w) P w K mg base ["self"] "Store.next_pointer" (defScope s_Store_next_pointer) A.f_Store_next_pointer cdv Ar outer s H E) (WB E) := takes_of rfl rfl rfl rfl
  exact pss_cons (ps_expr (e_meth (pv 0) T.c_Store T.m_Store_require (ok_Store_require T) (hr.mono (by decide)) T.b_Store_require tk (pa_cons (pe_int) (pa_nil))))
        (pss_one (ps_ret (pe_tup (pa_cons (e_meth0 (e_fld T.c_Store T.n_Store_space (pv 0)) T.c_Space T.m_Space_least_free (ok_Space_least_free T) (hr.mono (by decide)) T.b_Space_least_free tk) (pa_cons (e_meth0 (pv 0) T.c_Store T.m_Store_generation (ok_Store_generation T) (hr.mono (by decide)) T.b_Store_generation tk) (pa_nil))))))
theorem ok_Store_make (T : Top K mg A) : FnOk P w K mg base (L2.CX P w) 3 A.f_Store_make A.d_Store_make ["self", "words"] (sp_Store_make K A.ex) := by
  refine T.F_Store_make.okX sc_Store_make (fun vs H Q E h => len2 h) (fun cdv Ar outer s H vs Q E hr h => ⟨t_Store_make K A.ex E, ?_, pure_Store_make T.fa h⟩)
  have tk : Takes (cxOf (L2.CX P w) P w K mg base ["self", "words", "number"] "Store.make" (defScope s_Store_make) A.f_Store_make cdv Ar outer s H E) (WB E) := takes_of rfl rfl rfl rfl
  have hu := hu_of hr
  exact pss_cons (ps_if (pt_not (t_tru (e_call (ok_are_words T) (hr.mono (by decide)) T.g_are_words T.F_are_words.kp T.b_are_words tk (pa_cons (pv 1) (pa_cons (pe_glob rfl T.k_BLOCK_WORDS.choose_spec ⟨_, rfl⟩) (pa_nil)))))) (pss_one (s_raise T.x_NotValid tk)) (pss_nil))
        (pss_cons (ps_set (i := 2) sc_Store_make.nd rfl (Or.inl rfl) (e_meth (e_fld T.c_Store T.n_Store_space (pv 0)) T.c_Space T.m_Space_take (ok_Space_take T) (hr.mono (by decide)) T.b_Space_take tk (pa_cons (e_fld T.c_Store T.n_Store_reserve (pv 0)) (pa_nil))))
        (pss_cons (ps_dput hu (e_fld T.c_Store T.n_Store_memory (pv 0)) (pv 2) (pe_callTy (c_list) (by rfl) T.n_list (by decide +kernel) (pa_cons (pv 1) (pa_nil))) rfl)
        (pss_one (ps_ret (pe_tup (pa_cons (pv 2) (pa_cons (e_meth0 (pv 0) T.c_Store T.m_Store_generation (ok_Store_generation T) (hr.mono (by decide)) T.b_Store_generation tk) (pa_nil))))))))
theorem ok_Store_is_new (T : Top K mg A) : FnOk P w K mg base (L2.CX P w) 4 A.f_Store_is_new A.d_Store_is_new ["self", "pointer"] (sp_Store_is_new K A.ex) := by
  refine T.F_Store_is_new.okX sc_Store_is_new (fun vs H Q E h => len2 h) (fun cdv Ar outer s H vs Q E hr h => ⟨t_Store_is_new K A.ex E, ?_, pure_Store_is_new T.fa h⟩)
  have tk : Takes (cxOf (L2.CX P w) P w K mg base ["self", "pointer", "number"] "Store.is_new" (defScope s_Store_is_new) A.f_Store_is_new cdv Ar outer s H E) (WB E) := takes_of rfl rfl rfl rfl
  exact pss_cons (ps_set (i := 2) sc_Store_is_new.nd rfl (Or.inl rfl) (e_ix (pv 1) (pe_int)))
        (pss_one (ps_ret (pe_and (e_meth (e_fld T.c_Store T.n_Store_space (pv 0)) T.c_Space T.m_Space_is_new (ok_Space_is_new T) (hr.mono (by decide)) T.b_Space_is_new tk (pa_cons (pv 2) (pa_nil))) (pe_one (pe_cmpR (o_eq hr.units) (e_meth (e_fld T.c_Store T.n_Store_space (pv 0)) T.c_Space T.m_Space_uses (ok_Space_uses T) (hr.mono (by decide)) T.b_Space_uses tk (pa_cons (pv 2) (pa_nil))) (pe_int) (nomark _))))))
theorem ok_Store_write (T : Top K mg A) : FnOk P w K mg base (L2.CX P w) 5 A.f_Store_write A.d_Store_write ["self", "pointer", "words"] (sp_Store_write K A.ex) := by
  refine T.F_Store_write.okX sc_Store_write (fun vs H Q E h => len3 h) (fun cdv Ar outer s H vs Q E hr h => ⟨t_Store_write K A.ex E, ?_, pure_Store_write T.fa h⟩)
  have tk : Takes (cxOf (L2.CX P w) P w K mg base ["self", "pointer", "words"] "Store.write" (defScope s_Store_write) A.f_Store_write cdv Ar outer s H E) (WB E) := takes_of rfl rfl rfl rfl
  have hu := hu_of hr
  exact pss_cons (ps_if (PW.pt (pw_or (pt_not (t_tru (e_meth (pv 0) T.c_Store T.m_Store_is_new (ok_Store_is_new T) (hr.mono (by decide)) T.b_Store_is_new tk (pa_cons (pv 1) (pa_nil))))) (pw_or1 (pt_not (t_tru (e_call (ok_are_words T) (hr.mono (by decide)) T.g_are_words T.F_are_words.kp T.b_are_words tk (pa_cons (pv 2) (pa_cons (pe_glob rfl T.k_BLOCK_WORDS.choose_spec ⟨_, rfl⟩) (pa_nil))))))))) (pss_one (s_raise T.x_NotValid tk)) (pss_nil))
        (pss_one (ps_dput hu (e_fld T.c_Store T.n_Store_memory (pv 0)) (e_ix (pv 1) (pe_int)) (pe_callTy (c_list) (by rfl) T.n_list (by decide +kernel) (pa_cons (pv 2) (pa_nil))) rfl))
theorem ok_Store_share (T : Top K mg A) : FnOk P w K mg base (L2.CX P w) 4 A.f_Store_share A.d_Store_share ["self", "pointer"] (sp_Store_share K A.ex) := by
  refine T.F_Store_share.okX sc_Store_share (fun vs H Q E h => len2 h) (fun cdv Ar outer s H vs Q E hr h => ⟨t_Store_share K A.ex E, ?_, pure_Store_share T.fa h⟩)
  have tk : Takes (cxOf (L2.CX P w) P w K mg base ["self", "pointer"] "Store.share" (defScope s_Store_share) A.f_Store_share cdv Ar outer s H E) (WB E) := takes_of rfl rfl rfl rfl
  exact pss_one (ps_expr (e_meth (e_fld T.c_Store T.n_Store_space (pv 0)) T.c_Space T.m_Space_share (ok_Space_share T) (hr.mono (by decide)) T.b_Space_share tk (pa_cons (e_ix (pv 1) (pe_int)) (pa_nil))))
theorem ok_Store_drop (T : Top K mg A) : FnOk P w K mg base (L2.CX P w) 5 A.f_Store_drop A.d_Store_drop ["self", "pointer"] (sp_Store_drop K A.ex) := by
  refine T.F_Store_drop.okX sc_Store_drop (fun vs H Q E h => len2 h) (fun cdv Ar outer s H vs Q E hr h => ⟨t_Store_drop K A.ex E, ?_, pure_Store_drop T.fa h⟩)
  have tk : Takes (cxOf (L2.CX P w) P w K mg base ["self", "pointer", "number", "left"] "Store.drop" (defScope s_Store_drop) A.f_Store_drop cdv Ar outer s H E) (WB E) := takes_of rfl rfl rfl rfl
  have hu := hu_of hr
  exact pss_cons (ps_set (i := 2) sc_Store_drop.nd rfl (Or.inl rfl) (e_ix (pv 1) (pe_int)))
        (pss_cons (ps_set (i := 3) sc_Store_drop.nd rfl (Or.inl rfl) (e_meth (e_fld T.c_Store T.n_Store_space (pv 0)) T.c_Space T.m_Space_drop (ok_Space_drop T) (hr.mono (by decide)) T.b_Space_drop tk (pa_cons (pv 2) (pa_nil))))
        (pss_cut (ps_if (PW.pt (pw_and (pt_cmpR (o_eq hr.units) (pv 3) (pe_int) (nomark _)) (pw_and1 (pt_cmpR (o_in hu) (pv 2) (e_fld T.c_Store T.n_Store_memory (pv 0)) (by rfl))))) (pss_one (ps_ddel (e_fld T.c_Store T.n_Store_memory (pv 0)) (pv 2))) (pss_nil))
        (pss_one (ps_ret (pv 3)))))
theorem ok_Store_uses (T : Top K mg A) : FnOk P w K mg base (L2.CX P w) 4 A.f_Store_uses A.d_Store_uses ["self", "pointer"] (sp_Store_uses K A.ex) := by
  refine T.F_Store_uses.okX sc_Store_uses (fun vs H Q E h => len2 h) (fun cdv Ar outer s H vs Q E hr h => ⟨t_Store_uses K A.ex E, ?_, pure_Store_uses T.fa h⟩)
  have tk : Takes (cxOf (L2.CX P w) P w K mg base ["self", "pointer"] "Store.uses" (defScope s_Store_uses) A.f_Store_uses cdv Ar outer s H E) (WB E) := takes_of rfl rfl rfl rfl
  exact pss_one (ps_ret (e_meth (e_fld T.c_Store T.n_Store_space (pv 0)) T.c_Space T.m_Space_uses (ok_Space_uses T) (hr.mono (by decide)) T.b_Space_uses tk (pa_cons (e_ix (pv 1) (pe_int)) (pa_nil))))
theorem ok_Store_free (T : Top K mg A) : FnOk P w K mg base (L2.CX P w) 2 A.f_Store_free A.d_Store_free ["self"] (sp_Store_free K A.ex) := by
  refine T.F_Store_free.okX sc_Store_free (fun vs H Q E h => len1 h) (fun cdv Ar outer s H vs Q E hr h => ⟨t_Store_free K A.ex E, ?_, pure_Store_free T.fa h⟩)
  have tk : Takes (cxOf (L2.CX P w) P w K mg base ["self"] "Store.free" (defScope s_Store_free) A.f_Store_free cdv Ar outer s H E) (WB E) := takes_of rfl rfl rfl rfl
  exact pss_one (ps_ret (e_meth0 (e_fld T.c_Store T.n_Store_space (pv 0)) T.c_Space T.m_Space_free (ok_Space_free T) (hr.mono (by decide)) T.b_Space_free tk))
theorem ok_Store_new_blocks (T : Top K mg A) : FnOk P w K mg base (L2.CX P w) 1 A.f_Store_new_blocks A.d_Store_new_blocks ["self"] (sp_Store_new_blocks K A.ex) := by
  refine T.F_Store_new_blocks.okX sc_Store_new_blocks (fun vs H Q E h => len1 h) (fun cdv Ar outer s H vs Q E hr h => ⟨t_Store_new_blocks K A.ex E, ?_, pure_Store_new_blocks T.fa h⟩)
  have tk : Takes (cxOf (L2.CX P w) P w K mg base ["self"] "Store.new_blocks" (defScope s_Store_new_blocks) A.f_Store_new_blocks cdv Ar outer s H E) (WB E) := takes_of rfl rfl rfl rfl
  exact pss_one (ps_ret (pe_callB (c_sortD rfl) (by rfl) T.n_sorted (by decide +kernel) (pa_cons (e_fld T.c_Store T.n_Store_memory (pv 0)) (pa_nil))))
theorem ok__law_tape (T : Top K mg A) : FnOk P w K mg base (L2.CX P w) 1 A.f__law_tape A.d__law_tape ["_law_script"] (sp__law_tape K A.ex) := by
  refine T.F__law_tape.okX sc__law_tape (fun vs H Q E h => len1 h) (fun cdv Ar outer s H vs Q E hr h => ⟨t__law_tape K A.ex E, ?_, pure__law_tape T.fa h⟩)
  have tk : Takes (cxOf (L2.CX P w) P w K mg base ["_law_script", "_law_tape_here", "_law_k", "_law_value", "_law_step"] "_law_tape" (defScope s__law_tape) A.f__law_tape cdv Ar outer s H E) (WB E) := takes_of rfl rfl rfl rfl
  have po : PassesOwn (model P w) (cxOf (L2.CX P w) P w K mg base ["_law_script", "_law_tape_here", "_law_k", "_law_value", "_law_step"] "_law_tape" (defScope s__law_tape) A.f__law_tape cdv Ar outer s H E).A (cxOf (L2.CX P w) P w K mg base ["_law_script", "_law_tape_here", "_law_k", "_law_value", "_law_step"] "_law_tape" (defScope s__law_tape) A.f__law_tape cdv Ar outer s H E).env (cxOf (L2.CX P w) P w K mg base ["_law_script", "_law_tape_here", "_law_k", "_law_value", "_law_step"] "_law_tape" (defScope s__law_tape) A.f__law_tape cdv Ar outer s H E).xe := passes_of rfl
  have hu := hu_of hr
  have hl := Nat.lt_of_succ_lt hu
  exact pss_cons (ps_set (i := 1) sc__law_tape.nd rfl (Or.inl rfl) (pe_lst (pa_nil)))
        (pss_cons (ps_for po rfl (pi_range1 (by rfl) T.n_range (pa_cons (pe_callB (c_len) (by rfl) T.n_len (by decide +kernel) (pa_cons (pv 0) (pa_nil))) (pa_nil))) (pg_name (i := 2) sc__law_tape.nd rfl (Or.inl rfl))
        (pss_cons (ps_set (i := 3) sc__law_tape.nd rfl (Or.inl rfl) (pe_callB (c_abs) (by rfl) T.n_abs (by decide +kernel) (pa_cons (pe_callTy (c_int) (by rfl) T.n_int (by decide +kernel) (pa_cons (e_ix (pv 0) (pv 2)) (pa_nil))) (pa_nil))))
        (pss_one (ps_if (pt_cmpR (o_ge hl) (pv 3) (pe_op o_pow (pe_int) (pe_int)) (nomark _)) (pss_one (ps_for po rfl (pi_range1 (by rfl) T.n_range (pa_cons (pe_int) (pa_nil))) (pg_name (i := 4) sc__law_tape.nd rfl (Or.inl rfl))
        (pss_one (ps_if (pt_cmpR (o_gt) (pv 3) (pe_int) (nomark _)) (pss_cons (ps_expr (pe_bm PySem.F.plainAttrs_list PySem.F.slot_list_append PySem.F.type_list_append mt_append (pv 1) (pa_cons (pe_op o_mod (pv 3) (pe_int)) (pa_nil))))
        (pss_one (ps_set (i := 3) sc__law_tape.nd rfl (Or.inl rfl) (pe_op o_div (pv 3) (pe_int))))) (pss_nil))))) (pss_one (ps_for po rfl (pi_range1 (by rfl) T.n_range (pa_cons (pe_int) (pa_nil))) (pg_name (i := 4) sc__law_tape.nd rfl (Or.inl rfl))
        (pss_cons (ps_set (i := 3) sc__law_tape.nd rfl (Or.inl rfl) (pe_op o_mod (pe_op o_add (pe_op o_add (pe_op o_mul (pv 3) (pe_int)) (pe_op o_mul (pe_int) (pe_op o_add (pv 2) (pe_int)))) (pe_op o_mul (pe_int) (pv 4))) (pe_int)))
        (pss_cons (ps_set (i := 3) sc__law_tape.nd rfl (Or.inl rfl) (pe_op o_mod (pe_op o_mul (pv 3) (pe_int)) (pe_int)))
        (pss_one (ps_expr (pe_bm PySem.F.plainAttrs_list PySem.F.slot_list_append PySem.F.type_list_append mt_append (pv 1) (pa_cons (pe_op o_mod (pe_op o_div (pv 3) (pe_int)) (pe_int)) (pa_nil)))))))))))))
        (pss_one (ps_ret (pv 1))))
theorem ok__law_at (T : Top K mg A) : FnOk P w K mg base (L2.CX P w) 1 A.f__law_at A.d__law_at ["_law_tape_here", "_law_k"] (sp__law_at K A.ex) := by
  refine T.F__law_at.okX sc__law_at (fun vs H Q E h => len2 h) (fun cdv Ar outer s H vs Q E hr h => ⟨t__law_at K A.ex E, ?_, pure__law_at T.fa h⟩)
  have tk : Takes (cxOf (L2.CX P w) P w K mg base ["_law_tape_here", "_law_k"] "_law_at" (defScope s__law_at) A.f__law_at cdv Ar outer s H E) (WB E) := takes_of rfl rfl rfl rfl
  have hu := hu_of hr
  have hl := Nat.lt_of_succ_lt hu
  exact pss_cons (ps_if (pt_cmpR (o_lt hl) (pv 1) (pe_callB (c_len) (by rfl) T.n_len (by decide +kernel) (pa_cons (pv 0) (pa_nil))) (nomark _)) (pss_one (ps_ret (e_ix (pv 0) (pv 1)))) (pss_nil))
        (pss_one (ps_ret (pe_int)))
theorem ok__law_block (T : Top K mg A) : FnOk P w K mg base (L2.CX P w) 1 A.f__law_block A.d__law_block ["_law_number", "_law_extra"] (sp__law_block K A.ex) := by
  refine T.F__law_block.okX sc__law_block (fun vs H Q E h => len2 h) (fun cdv Ar outer s H vs Q E hr h => ⟨t__law_block K A.ex E, ?_, pure__law_block T.fa h⟩)
  have tk : Takes (cxOf (L2.CX P w) P w K mg base ["_law_number", "_law_extra", "_law_j"] "_law_block" (defScope s__law_block) A.f__law_block cdv Ar outer s H E) (WB E) := takes_of rfl rfl rfl rfl
  exact pss_one (ps_ret (pe_lc (own := [("_law_j", 2)]) (by rfl) sc__law_block.nd (pi_range1 (by rfl) T.n_range (pa_cons (pe_int) (pa_nil))) (blkOk_by (N := ["_law_number", "_law_extra", "_law_j"]) (sc := defScope s__law_block) (by decide +kernel)) (fun _ _ _ _ _ => pg_name (i := 2) sc__law_block.nd rfl (Or.inl rfl)) (fun _ _ _ _ _ => pts_nil) (fun _ _ _ _ _ => pe_op o_mod (pe_callTy (c_int) (by rfl) T.n_int (by decide +kernel) (pa_cons (pe_op o_add (pe_op o_add (pe_op o_mul (pv 0) (pe_op o_add (pv 2) (pe_int))) (pe_op o_mul (pe_op o_mul (pv 1) (pv 2)) (pv 2))) (pv 2)) (pa_nil))) (pe_int))))
theorem ok__law_is_block (T : Top K mg A) : FnOk P w K mg base (L2.CX P w) 1 A.f__law_is_block A.d__law_is_block ["_law_told", "_law_due_here"] (sp__law_is_block K A.ex) := by
  refine T.F__law_is_block.okX sc__law_is_block (fun vs H Q E h => len2 h) (fun cdv Ar outer s H vs Q E hr h => ⟨t__law_is_block K A.ex E, ?_, pure__law_is_block T.fa h⟩)
  have tk : Takes (cxOf (L2.CX P w) P w K mg base ["_law_told", "_law_due_here", "_law_j"] "_law_is_block" (defScope s__law_is_block) A.f__law_is_block cdv Ar outer s H E) (WB E) := takes_of rfl rfl rfl rfl
  have po : PassesOwn (model P w) (cxOf (L2.CX P w) P w K mg base ["_law_told", "_law_due_here", "_law_j"] "_law_is_block" (defScope s__law_is_block) A.f__law_is_block cdv Ar outer s H E).A (cxOf (L2.CX P w) P w K mg base ["_law_told", "_law_due_here", "_law_j"] "_law_is_block" (defScope s__law_is_block) A.f__law_is_block cdv Ar outer s H E).env (cxOf (L2.CX P w) P w K mg base ["_law_told", "_law_due_here", "_law_j"] "_law_is_block" (defScope s__law_is_block) A.f__law_is_block cdv Ar outer s H E).xe := passes_of rfl
  exact pss_cons (ps_if (PW.pt (pw_or (pt_not (t_tru (pe_callB (c_isi .list) (by rfl) T.n_isinstance (by decide +kernel) (pa_cons (pv 0) (pa_cons (pe_bltn rfl T.n_list (by decide +kernel) rfl) (pa_nil)))))) (pw_or1 (pt_cmpR (o_ne hr.units) (pe_callB (c_len) (by rfl) T.n_len (by decide +kernel) (pa_cons (pv 0) (pa_nil))) (pe_int) (nomark _))))) (pss_one (ps_ret (pe_bl))) (pss_nil))
        (pss_cons (ps_for po rfl (pi_range1 (by rfl) T.n_range (pa_cons (pe_int) (pa_nil))) (pg_name (i := 2) sc__law_is_block.nd rfl (Or.inl rfl))
        (pss_one (ps_if (PW.pt (pw_or (pt_not (t_tru (pe_callB (c_isi .int) (by rfl) T.n_isinstance (by decide +kernel) (pa_cons (e_ix (pv 0) (pv 2)) (pa_cons (pe_bltn rfl T.n_int (by decide +kernel) rfl) (pa_nil)))))) (pw_or (t_tru (pe_callB (c_isi .bool) (by rfl) T.n_isinstance (by decide +kernel) (pa_cons (e_ix (pv 0) (pv 2)) (pa_cons (pe_bltn rfl T.n_bool (by decide +kernel) rfl) (pa_nil))))) (pw_or1 (pt_cmpR (o_ne hr.units) (e_ix (pv 0) (pv 2)) (e_ix (pv 1) (pv 2)) (nomark _)))))) (pss_one (ps_ret (pe_bl))) (pss_nil))))
        (pss_one (ps_ret (pe_bl))))
theorem ok__law_put_block (T : Top K mg A) : FnOk P w K mg base (L2.CX P w) 4 A.f__law_put_block A.d__law_put_block ["_law_disk", "_law_number", "_law_words"] (sp__law_put_block K A.ex) := by
  refine T.F__law_put_block.okX sc__law_put_block (fun vs H Q E h => len3 h) (fun cdv Ar outer s H vs Q E hr h => ⟨t__law_put_block K A.ex E, ?_, pure__law_put_block T.fa h⟩)
  have tk : Takes (cxOf (L2.CX P w) P w K mg base ["_law_disk", "_law_number", "_law_words", "_law_part"] "_law_put_block" (defScope s__law_put_block) A.f__law_put_block cdv Ar outer s H E) (WB E) := takes_of rfl rfl rfl rfl
  have po : PassesOwn (model P w) (cxOf (L2.CX P w) P w K mg base ["_law_disk", "_law_number", "_law_words", "_law_part"] "_law_put_block" (defScope s__law_put_block) A.f__law_put_block cdv Ar outer s H E).A (cxOf (L2.CX P w) P w K mg base ["_law_disk", "_law_number", "_law_words", "_law_part"] "_law_put_block" (defScope s__law_put_block) A.f__law_put_block cdv Ar outer s H E).env (cxOf (L2.CX P w) P w K mg base ["_law_disk", "_law_number", "_law_words", "_law_part"] "_law_put_block" (defScope s__law_put_block) A.f__law_put_block cdv Ar outer s H E).xe := passes_of rfl
  exact pss_one (ps_for po rfl (pi_range1 (by rfl) T.n_range (pa_cons (pe_int) (pa_nil))) (pg_name (i := 3) sc__law_put_block.nd rfl (Or.inl rfl))
        (pss_one (ps_expr (e_meth (pv 0) T.c_Disk T.m_Disk_write (ok_Disk_write T) (hr.mono (by decide)) T.b_Disk_write tk (pa_cons (pe_op o_add (pe_op o_mul (pe_int) (pv 1)) (pv 3)) (pa_cons (e_sl (pv 2) (po_some (pe_op o_mul (pe_int) (pv 3))) (po_some (pe_op o_add (pe_op o_mul (pe_int) (pv 3)) (pe_int)))) (pa_nil)))))))
theorem ok__law_do (T : Top K mg A) : FnOk P w K mg base (L2.CX P w) 6 A.f__law_do A.d__law_do ["_law_store", "_law_act", "_law_pointer", "_law_words"] (sp__law_do K A.ex) := by
  refine T.F__law_do.okX sc__law_do (fun vs H Q E h => len4 h) (fun cdv Ar outer s H vs Q E hr h => ⟨t__law_do K A.ex E, ?_, pure__law_do T.fa h⟩)
  have tk : Takes (cxOf (L2.CX P w) P w K mg base ["_law_store", "_law_act", "_law_pointer", "_law_words", "e"] "_law_do" (defScope s__law_do) A.f__law_do cdv Ar outer s H E) (WB E) := takes_of rfl rfl rfl rfl
  exact pss_one (s_tryAs (i := 4) rfl rfl sc__law_do.nd rfl rfl ⟨rfl, by decide, Or.inl T.x_LaminaError.g⟩ tk (fun W pn xe tk po => pss_cons (ps_if (pt_cmpR (o_eq hr.units) (pv 1) (pe_str) (nomark _)) (pss_one (ps_ret (e_meth (pv 0) T.c_Store T.m_Store_make (ok_Store_make T) (hr.mono (by decide)) T.b_Store_make tk (pa_cons (pv 3) (pa_nil))))) (pss_nil))
        (pss_cons (ps_if (pt_cmpR (o_eq hr.units) (pv 1) (pe_str) (nomark _)) (pss_one (ps_ret (e_meth0 (pv 0) T.c_Store T.m_Store_next_pointer (ok_Store_next_pointer T) (hr.mono (by decide)) T.b_Store_next_pointer tk))) (pss_nil))
        (pss_cons (ps_if (pt_cmpR (o_eq hr.units) (pv 1) (pe_str) (nomark _)) (pss_one (ps_ret (e_meth (pv 0) T.c_Store T.m_Store_write (ok_Store_write T) (hr.mono (by decide)) T.b_Store_write tk (pa_cons (pv 2) (pa_cons (pv 3) (pa_nil)))))) (pss_nil))
        (pss_cons (ps_if (pt_cmpR (o_eq hr.units) (pv 1) (pe_str) (nomark _)) (pss_one (ps_ret (e_meth (pv 0) T.c_Store T.m_Store_read (ok_Store_read T) (hr.mono (by decide)) T.b_Store_read tk (pa_cons (pv 2) (pa_nil))))) (pss_nil))
        (pss_cons (ps_if (pt_cmpR (o_eq hr.units) (pv 1) (pe_str) (nomark _)) (pss_one (ps_ret (e_meth (pv 0) T.c_Store T.m_Store_share (ok_Store_share T) (hr.mono (by decide)) T.b_Store_share tk (pa_cons (pv 2) (pa_nil))))) (pss_nil))
        (pss_cons (ps_if (pt_cmpR (o_eq hr.units) (pv 1) (pe_str) (nomark _)) (pss_one (ps_ret (e_meth (pv 0) T.c_Store T.m_Store_drop (ok_Store_drop T) (hr.mono (by decide)) T.b_Store_drop tk (pa_cons (pv 2) (pa_nil))))) (pss_nil))
        (pss_cons (ps_if (pt_cmpR (o_eq hr.units) (pv 1) (pe_str) (nomark _)) (pss_one (ps_ret (e_meth (pv 0) T.c_Store T.m_Store_is_new (ok_Store_is_new T) (hr.mono (by decide)) T.b_Store_is_new tk (pa_cons (pv 2) (pa_nil))))) (pss_nil))
        (pss_cons (ps_if (pt_cmpR (o_eq hr.units) (pv 1) (pe_str) (nomark _)) (pss_one (ps_ret (e_meth (pv 0) T.c_Store T.m_Store_require (ok_Store_require T) (hr.mono (by decide)) T.b_Store_require tk (pa_cons (pv 2) (pa_nil))))) (pss_nil))
        (pss_one (ps_ret (e_meth (pv 0) T.c_Store T.m_Store_uses (ok_Store_uses T) (hr.mono (by decide)) T.b_Store_uses tk (pa_cons (pv 2) (pa_nil))))))))))))) (fun a oe cls d pn hz hf => pss_cons (ps_if (t_tru (pe_callB (c_isE hz hf) (by rfl) T.n_isinstance (by decide +kernel) (pa_cons (pv 4) (pa_cons (pe_glob rfl T.x_NoSpace.g rfl) (pa_nil))))) (pss_one (ps_ret (pe_lst (pa_cons (pe_str) (pa_cons (pe_str) (pa_nil)))))) (pss_nil))
        (pss_cons (ps_if (t_tru (pe_callB (c_isE hz hf) (by rfl) T.n_isinstance (by decide +kernel) (pa_cons (pv 4) (pa_cons (pe_glob rfl T.x_NotValid.g rfl) (pa_nil))))) (pss_one (ps_ret (pe_lst (pa_cons (pe_str) (pa_cons (pe_str) (pa_nil)))))) (pss_nil))
        (pss_one (ps_ret (pe_lst (pa_cons (pe_str) (pa_cons (pe_str) (pa_nil)))))))))
theorem ok__law_free (T : Top K mg A) : FnOk P w K mg base (L2.CX P w) 1 A.f__law_free A.d__law_free ["_law_numbers", "_law_held"] (sp__law_free K A.ex) := by
  refine T.F__law_free.okX sc__law_free (fun vs H Q E h => len2 h) (fun cdv Ar outer s H vs Q E hr h => ⟨t__law_free K A.ex E, ?_, pure__law_free T.fa h⟩)
  have tk : Takes (cxOf (L2.CX P w) P w K mg base ["_law_numbers", "_law_held", "_law_k"] "_law_free" (defScope s__law_free) A.f__law_free cdv Ar outer s H E) (WB E) := takes_of rfl rfl rfl rfl
  exact pss_one (ps_ret (pe_lc (own := [("_law_k", 2)]) (by rfl) sc__law_free.nd (pi_range1 (by rfl) T.n_range (pa_cons (pe_int) (pa_nil))) (blkOk_by (N := ["_law_numbers", "_law_held", "_law_k"]) (sc := defScope s__law_free) (by decide +kernel)) (fun _ _ _ _ _ => pg_name (i := 2) sc__law_free.nd rfl (Or.inl rfl)) (fun _ _ _ _ _ => pts_one (PW.pt (pw_and (pt_cmpR (o_eq hr.units) (e_ix (pv 0) (pv 2)) (pe_int) (nomark _)) (pw_and1 (pt_not (t_tru (e_ix (pv 1) (pv 2)))))))) (fun _ _ _ _ _ => pv 2)))
theorem ok__law_due (T : Top K mg A) : FnOk P w K mg base (L2.CX P w) 1 A.f__law_due A.d__law_due ["_law_numbers", "_law_held", "_law_act", "_law_number"] (sp__law_due K A.ex) := by
  refine T.F__law_due.okX sc__law_due (fun vs H Q E h => len4 h) (fun cdv Ar outer s H vs Q E hr h => ⟨t__law_due K A.ex E, ?_, pure__law_due T.fa h⟩)
  have tk : Takes (cxOf (L2.CX P w) P w K mg base ["_law_numbers", "_law_held", "_law_act", "_law_number", "_law_new"] "_law_due" (defScope s__law_due) A.f__law_due cdv Ar outer s H E) (WB E) := takes_of rfl rfl rfl rfl
  have hu := hu_of hr
  have hl := Nat.lt_of_succ_lt hu
  exact pss_cons (ps_if (PW.pt (pw_or (pt_cmpR (o_lt hl) (pv 3) (pe_int) (nomark _)) (pw_or (pt_cmpR (o_gt) (pv 3) (pe_int) (nomark _)) (pw_or1 (PW.pt (pw_and (pt_cmpR (o_eq hr.units) (pv 2) (pe_str) (nomark _)) (pw_and1 (pt_cmpR (o_lt hl) (pv 3) (pe_int) (nomark _))))))))) (pss_one (ps_ret (pe_lst (pa_cons (pe_str) (pa_cons (pe_str) (pa_nil)))))) (pss_nil))
        (pss_cons (ps_set (i := 4) sc__law_due.nd rfl (Or.inl rfl) (pe_and (pe_cmpR (o_gt) (e_ix (pv 0) (pv 3)) (pe_int) (nomark _)) (pe_and (pe_not (e_ix (pv 1) (pv 3))) (pe_one (pe_cmpR (o_eq hr.units) (e_ix (pv 0) (pv 3)) (pe_int) (nomark _))))))
        (pss_cons (ps_if (pt_cmpR (o_eq hr.units) (pv 2) (pe_str) (nomark _)) (pss_one (ps_ret (pv 4))) (pss_nil))
        (pss_cons (ps_if (pt_cmpR (o_eq hr.units) (pv 2) (pe_str) (nomark _)) (pss_one (ps_ret (e_ix (pv 0) (pv 3)))) (pss_nil))
        (pss_cons (ps_if (pt_cmpR (o_eq hr.units) (pv 2) (pe_str) (nomark _)) (pss_cons (ps_if (t_tru (pv 4)) (pss_one (ps_ret (pe_non))) (pss_nil))
        (pss_one (ps_ret (pe_lst (pa_cons (pe_str) (pa_cons (pe_str) (pa_nil))))))) (pss_nil))
        (pss_cut (ps_if (PW.pt (pw_or (pt_cmpR (o_eq hr.units) (pv 2) (pe_str) (nomark _)) (pw_or1 (pt_cmpR (o_eq hr.units) (pv 2) (pe_str) (nomark _))))) (pss_cons (ps_if (PW.pt (pw_or (pt_cmpR (o_lt hl) (pv 3) (pe_int) (nomark _)) (pw_or1 (pt_cmpR (o_eq hr.units) (e_ix (pv 0) (pv 3)) (pe_int) (nomark _))))) (pss_one (ps_ret (pe_lst (pa_cons (pe_str) (pa_cons (pe_str) (pa_nil)))))) (pss_nil))
        (pss_one (ps_if (pt_cmpR (o_eq hr.units) (pv 2) (pe_str) (nomark _)) (pss_one (ps_ret (pe_op o_sub (e_ix (pv 0) (pv 3)) (pe_int)))) (pss_nil)))) (pss_nil))
        (pss_one (ps_ret (pe_non))))))))
theorem ok__law_same (T : Top K mg A) : FnOk P w K mg base (L2.CX P w) 1 A.f__law_same A.d__law_same ["_law_told", "_law_due_here"] (sp__law_same K A.ex) := by
  refine T.F__law_same.okX sc__law_same (fun vs H Q E h => len2 h) (fun cdv Ar outer s H vs Q E hr h => ⟨t__law_same K A.ex E, ?_, pure__law_same T.fa h⟩)
  have tk : Takes (cxOf (L2.CX P w) P w K mg base ["_law_told", "_law_due_here"] "_law_same" (defScope s__law_same) A.f__law_same cdv Ar outer s H E) (WB E) := takes_of rfl rfl rfl rfl
  exact pss_cons (ps_if (pt_cmpR (o_is) (pv 1) (pe_non) (nomark _)) (pss_one (ps_ret (pe_cmpR (o_is) (pv 0) (pe_non) (nomark _)))) (pss_nil))
        (pss_one (ps_ret (pe_and (pe_cmpR (o_eq hr.units) (pe_callB (c_isi .bool) (by rfl) T.n_isinstance (by decide +kernel) (pa_cons (pv 0) (pa_cons (pe_bltn rfl T.n_bool (by decide +kernel) rfl) (pa_nil)))) (pe_callB (c_isi .bool) (by rfl) T.n_isinstance (by decide +kernel) (pa_cons (pv 1) (pa_cons (pe_bltn rfl T.n_bool (by decide +kernel) rfl) (pa_nil)))) (nomark _)) (pe_one (pe_cmpR (o_eq hr.units) (pv 0) (pv 1) (nomark _))))))
theorem ok__law_make (T : Top K mg A) : FnOk P w K mg base (L2.CX P w) 7 A.f__law_make A.d__law_make ["_law_store", "_law_numbers", "_law_held", "_law_contents", "_law_words", "_law_valid", "_law_generation"] (sp__law_make K A.ex) := by
  refine T.F__law_make.okX sc__law_make (fun vs H Q E h => len7 h) (fun cdv Ar outer s H vs Q E hr h => ⟨t__law_make K A.ex E, ?_, pure__law_make T.fa h⟩)
  have tk : Takes (cxOf (L2.CX P w) P w K mg base ["_law_store", "_law_numbers", "_law_held", "_law_contents", "_law_words", "_law_valid", "_law_generation", "_law_free_here", "_law_due_here"] "_law_make" (defScope s__law_make) A.f__law_make cdv Ar outer s H E) (WB E) := takes_of rfl rfl rfl rfl
  have hu := hu_of hr
  exact pss_cons (ps_set (i := 7) sc__law_make.nd rfl (Or.inl rfl) (e_call (ok__law_free T) (hr.mono (by decide)) T.g__law_free T.F__law_free.kp T.b__law_free tk (pa_cons (pv 1) (pa_cons (pv 2) (pa_nil)))))
        (pss_cons (ps_set (i := 8) sc__law_make.nd rfl (Or.inl rfl) (pe_lst (pa_cons (pe_str) (pa_cons (pe_str) (pa_nil)))))
        (pss_cut (ps_if (pt_cmpR (o_gt) (pe_callB (c_len) (by rfl) T.n_len (by decide +kernel) (pa_cons (pv 7) (pa_nil))) (e_fld T.c_Store T.n_Store_reserve (pv 0)) (nomark _)) (pss_one (ps_set (i := 8) sc__law_make.nd rfl (Or.inl rfl) (pe_tup (pa_cons (e_ix (pv 7) (pe_int)) (pa_cons (pv 6) (pa_nil)))))) (pss_nil))
        (pss_cons (ps_if (pt_cmpR (o_ne hr.units) (e_call (ok__law_do T) (hr.mono (by decide)) T.g__law_do T.F__law_do.kp T.b__law_do tk (pa_cons (pv 0) (pa_cons (pe_str) (pa_cons (pe_non) (pa_cons (pe_non) (pa_nil)))))) (pv 8) (nomark _)) (pss_one (ps_ret (pe_bl))) (pss_nil))
        (pss_cut (ps_if (pt_not (t_tru (pv 5))) (pss_one (ps_set (i := 8) sc__law_make.nd rfl (Or.inl rfl) (pe_lst (pa_cons (pe_str) (pa_cons (pe_str) (pa_nil)))))) (pss_nil))
        (pss_cons (ps_if (pt_cmpR (o_ne hr.units) (e_call (ok__law_do T) (hr.mono (by decide)) T.g__law_do T.F__law_do.kp T.b__law_do tk (pa_cons (pv 0) (pa_cons (pe_str) (pa_cons (pe_non) (pa_cons (pv 4) (pa_nil)))))) (pv 8) (nomark _)) (pss_one (ps_ret (pe_bl))) (pss_nil))
        (pss_cut (ps_if (t_tru (pe_callB (c_isi .tuple) (by rfl) T.n_isinstance (by decide +kernel) (pa_cons (pv 8) (pa_cons (pe_bltn rfl T.n_tuple (by decide +kernel) rfl) (pa_nil))))) (pss_cons (ps_asg (pe_int) (pg_sub (pv 1) (e_ix (pv 8) (pe_int)) (set_u hu)))
        (pss_cons (ps_dput hu (pv 3) (e_ix (pv 8) (pe_int)) (pe_callTy (c_list) (by rfl) T.n_list (by decide +kernel) (pa_cons (pv 4) (pa_nil))) rfl)
        (pss_one (ps_asg (pe_op o_add (e_ix (pv 4) (pe_int)) (pe_int)) (pg_sub (pv 4) (pe_int) (set_u hu)))))) (pss_nil))
        (pss_one (ps_ret (pe_bl)))))))))
theorem ok__law_old (T : Top K mg A) : FnOk P w K mg base (L2.CX P w) 1 A.f__law_old A.d__law_old ["_law_image", "_law_number"] (sp__law_old K A.ex) := by
  refine T.F__law_old.okX sc__law_old (fun vs H Q E h => len2 h) (fun cdv Ar outer s H vs Q E hr h => ⟨t__law_old K A.ex E, ?_, pure__law_old T.fa h⟩)
  have tk : Takes (cxOf (L2.CX P w) P w K mg base ["_law_image", "_law_number", "_law_words", "_law_part"] "_law_old" (defScope s__law_old) A.f__law_old cdv Ar outer s H E) (WB E) := takes_of rfl rfl rfl rfl
  have po : PassesOwn (model P w) (cxOf (L2.CX P w) P w K mg base ["_law_image", "_law_number", "_law_words", "_law_part"] "_law_old" (defScope s__law_old) A.f__law_old cdv Ar outer s H E).A (cxOf (L2.CX P w) P w K mg base ["_law_image", "_law_number", "_law_words", "_law_part"] "_law_old" (defScope s__law_old) A.f__law_old cdv Ar outer s H E).env (cxOf (L2.CX P w) P w K mg base ["_law_image", "_law_number", "_law_words", "_law_part"] "_law_old" (defScope s__law_old) A.f__law_old cdv Ar outer s H E).xe := passes_of rfl
  exact pss_cons (ps_set (i := 2) sc__law_old.nd rfl (Or.inl rfl) (pe_lst (pa_nil)))
        (pss_cons (ps_for po rfl (pi_range1 (by rfl) T.n_range (pa_cons (pe_int) (pa_nil))) (pg_name (i := 3) sc__law_old.nd rfl (Or.inl rfl))
        (pss_one (ps_set (i := 2) sc__law_old.nd rfl (Or.inl rfl) (pe_op o_add (pv 2) (e_ix (pv 0) (pe_op o_add (pe_op o_mul (pe_int) (pv 1)) (pv 3)))))))
        (pss_one (ps_ret (pv 2))))
theorem ok__law_end (T : Top K mg A) : FnOk P w K mg base (L2.CX P w) 7 A.f__law_end A.d__law_end ["_law_store", "_law_numbers", "_law_held", "_law_contents", "_law_image"] (sp__law_end K A.ex) := by
  refine T.F__law_end.okX sc__law_end (fun vs H Q E h => len5 h) (fun cdv Ar outer s H vs Q E hr h => ⟨t__law_end K A.ex E, ?_, pure__law_end T.fa h⟩)
  have tk : Takes (cxOf (L2.CX P w) P w K mg base ["_law_store", "_law_numbers", "_law_held", "_law_contents", "_law_image", "_law_free_here", "_law_many", "_law_due_here", "_law_number", "_law_k"] "_law_end" (defScope s__law_end) A.f__law_end cdv Ar outer s H E) (WB E) := takes_of rfl rfl rfl rfl
  have po : PassesOwn (model P w) (cxOf (L2.CX P w) P w K mg base ["_law_store", "_law_numbers", "_law_held", "_law_contents", "_law_image", "_law_free_here", "_law_many", "_law_due_here", "_law_number", "_law_k"] "_law_end" (defScope s__law_end) A.f__law_end cdv Ar outer s H E).A (cxOf (L2.CX P w) P w K mg base ["_law_store", "_law_numbers", "_law_held", "_law_contents", "_law_image", "_law_free_here", "_law_many", "_law_due_here", "_law_number", "_law_k"] "_law_end" (defScope s__law_end) A.f__law_end cdv Ar outer s H E).env (cxOf (L2.CX P w) P w K mg base ["_law_store", "_law_numbers", "_law_held", "_law_contents", "_law_image", "_law_free_here", "_law_many", "_law_due_here", "_law_number", "_law_k"] "_law_end" (defScope s__law_end) A.f__law_end cdv Ar outer s H E).xe := passes_of rfl
  have hu := hu_of hr
  have hl := Nat.lt_of_succ_lt hu
  exact pss_cons (ps_set (i := 5) sc__law_end.nd rfl (Or.inl rfl) (pe_callB (c_len) (by rfl) T.n_len (by decide +kernel) (pa_cons (e_call (ok__law_free T) (hr.mono (by decide)) T.g__law_free T.F__law_free.kp T.b__law_free tk (pa_cons (pv 1) (pa_cons (pv 2) (pa_nil)))) (pa_nil))))
        (pss_cons (ps_if (PW.pt (pw_or (pt_cmpR (o_ne hr.units) (e_meth0 (pv 0) T.c_Store T.m_Store_free (ok_Store_free T) (hr.mono (by decide)) T.b_Store_free tk) (pv 5) (nomark _)) (pw_or (pt_cmpR (o_ne hr.units) (e_meth0 (e_fld T.c_Store T.n_Store_disk (pv 0)) T.c_Disk T.m_Disk_image (ok_Disk_image T) (hr.mono (by decide)) T.b_Disk_image tk) (pv 4) (nomark _)) (pw_or1 (pt_cmpR (o_ne hr.units) (e_meth0 (e_fld T.c_Store T.n_Store_disk (pv 0)) T.c_Disk T.m_Disk_waiting (ok_Disk_waiting T) (hr.mono (by decide)) T.b_Disk_waiting tk) (pe_lst (pa_nil)) (nomark _)))))) (pss_one (ps_ret (pe_bl))) (pss_nil))
        (pss_cons (ps_if (pt_cmpR (o_ne hr.units) (e_meth0 (pv 0) T.c_Store T.m_Store_new_blocks (ok_Store_new_blocks T) (hr.mono (by decide)) T.b_Store_new_blocks tk) (pe_lc (own := [("_law_k", 9)]) (by rfl) sc__law_end.nd (pi_range1 (by rfl) T.n_range (pa_cons (pe_int) (pa_nil))) (blkOk_by (N := ["_law_store", "_law_numbers", "_law_held", "_law_contents", "_law_image", "_law_free_here", "_law_many", "_law_due_here", "_law_number", "_law_k"]) (sc := defScope s__law_end) (by decide +kernel)) (fun _ _ _ _ _ => pg_name (i := 9) sc__law_end.nd rfl (Or.inl rfl)) (fun _ _ _ _ _ => pts_one (PW.pt (pw_and (pt_cmpR (o_gt) (e_ix (pv 1) (pv 9)) (pe_int) (nomark _)) (pw_and1 (pt_not (t_tru (e_ix (pv 2) (pv 9)))))))) (fun _ _ _ _ _ => pv 9)) (nomark _)) (pss_one (ps_ret (pe_bl))) (pss_nil))
        (pss_cons (ps_expr (e_meth (pv 0) T.c_Store T.m_Store_use_reserve (ok_Store_use_reserve T) (hr.mono (by decide)) T.b_Store_use_reserve tk (pa_cons (pe_op o_div (pv 5) (pe_int)) (pa_nil))))
        (pss_cons (ps_for po rfl (pi_list (pe_lst (pa_cons (pe_int) (pa_cons (pe_op o_sub (pv 5) (e_fld T.c_Store T.n_Store_reserve (pv 0))) (pa_cons (pe_op o_add (pe_op o_sub (pv 5) (e_fld T.c_Store T.n_Store_reserve (pv 0))) (pe_int)) (pa_nil)))))) (pg_name (i := 6) sc__law_end.nd rfl (Or.inl rfl))
        (pss_cons (ps_set (i := 7) sc__law_end.nd rfl (Or.inl rfl) (pe_non))
        (pss_cut (ps_if (pt_cmpR (o_lt hl) (pv 5) (pe_op o_add (pv 6) (e_fld T.c_Store T.n_Store_reserve (pv 0))) (nomark _)) (pss_one (ps_set (i := 7) sc__law_end.nd rfl (Or.inl rfl) (pe_lst (pa_cons (pe_str) (pa_cons (pe_str) (pa_nil)))))) (pss_nil))
        (pss_one (ps_if (pt_cmpR (o_ne hr.units) (e_call (ok__law_do T) (hr.mono (by decide)) T.g__law_do T.F__law_do.kp T.b__law_do tk (pa_cons (pv 0) (pa_cons (pe_str) (pa_cons (pv 6) (pa_cons (pe_non) (pa_nil)))))) (pv 7) (nomark _)) (pss_one (ps_ret (pe_bl))) (pss_nil))))))
        (pss_cons (ps_for po rfl (pi_range2 (by rfl) T.n_range (pa_cons (pe_int) (pa_cons (pe_int) (pa_nil)))) (pg_name (i := 8) sc__law_end.nd rfl (Or.inl rfl))
        (pss_one (ps_if (pt_not (t_tru (e_call (ok__law_is_block T) (hr.mono (by decide)) T.g__law_is_block T.F__law_is_block.kp T.b__law_is_block tk (pa_cons (e_meth (pv 0) T.c_Store T.m_Store_read (ok_Store_read T) (hr.mono (by decide)) T.b_Store_read tk (pa_cons (pe_tup (pa_cons (pv 8) (pa_cons (pe_int) (pa_nil)))) (pa_nil))) (pa_cons (e_dg hu (pv 3) (pv 8)) (pa_nil)))))) (pss_one (ps_ret (pe_bl))) (pss_nil))))
        (pss_one (ps_ret (pe_bl))))))))
theorem ok_law (T : Top K mg A) : FnOk P w K mg base (L2.CX P w) 8 A.f_law A.d_law ["_law_script"] (sp_law K A.ex) := by
  refine T.F_law.okX sc_law (fun vs H Q E h => len1 (show spLaw K vs H Q E from h)) (fun cdv Ar outer s H vs Q E hr h => ⟨t_law K A.ex E, ?_, pure_law T.fa h⟩)
  have tk : Takes (cxOf (L2.CX P w) P w K mg base ["_law_script", "_law_tape_here", "_law_generation", "_law_disk", "_law_contents", "_law_numbers", "_law_number", "_law_image", "_law_held", "_law_store", "_law_recent", "_law_k", "_law_act", "_law_pick", "_law_free_here", "_law_words", "_law_valid", "_law_due_here", "_law_told", "_law_many"] "law" (defScope s_law) A.f_law cdv Ar outer s H E) (WB E) := takes_of rfl rfl rfl rfl
  have po : PassesOwn (model P w) (cxOf (L2.CX P w) P w K mg base ["_law_script", "_law_tape_here", "_law_generation", "_law_disk", "_law_contents", "_law_numbers", "_law_number", "_law_image", "_law_held", "_law_store", "_law_recent", "_law_k", "_law_act", "_law_pick", "_law_free_here", "_law_words", "_law_valid", "_law_due_here", "_law_told", "_law_many"] "law" (defScope s_law) A.f_law cdv Ar outer s H E).A (cxOf (L2.CX P w) P w K mg base ["_law_script", "_law_tape_here", "_law_generation", "_law_disk", "_law_contents", "_law_numbers", "_law_number", "_law_image", "_law_held", "_law_store", "_law_recent", "_law_k", "_law_act", "_law_pick", "_law_free_here", "_law_words", "_law_valid", "_law_due_here", "_law_told", "_law_many"] "law" (defScope s_law) A.f_law cdv Ar outer s H E).env (cxOf (L2.CX P w) P w K mg base ["_law_script", "_law_tape_here", "_law_generation", "_law_disk", "_law_contents", "_law_numbers", "_law_number", "_law_image", "_law_held", "_law_store", "_law_recent", "_law_k", "_law_act", "_law_pick", "_law_free_here", "_law_words", "_law_valid", "_law_due_here", "_law_told", "_law_many"] "law" (defScope s_law) A.f_law cdv Ar outer s H E).xe := passes_of rfl
  have hu := hu_of hr
  have hl := Nat.lt_of_succ_lt hu
  exact pss_cons (ps_set (i := 1) sc_law.nd rfl (Or.inl rfl) (e_call (ok__law_tape T) (hr.mono (by decide)) T.g__law_tape T.F__law_tape.kp T.b__law_tape tk (pa_cons (pv 0) (pa_nil))))
        (pss_cons (ps_set (i := 2) sc_law.nd rfl (Or.inl rfl) (pe_op o_add (pe_int) (pe_op o_mod (e_call (ok__law_at T) (hr.mono (by decide)) T.g__law_at T.F__law_at.kp T.b__law_at tk (pa_cons (pv 1) (pa_cons (pe_int) (pa_nil)))) (pe_int))))
        (pss_cons (ps_set (i := 3) sc_law.nd rfl (Or.inl rfl) (e_mk T.M_Disk (ok_Disk___init__ T) (hr.mono (by decide)) T.gC_Disk T.b_Disk___init__ tk (pa_cons (pe_int) (pa_nil))))
        (pss_cons (ps_set (i := 4) sc_law.nd rfl (Or.inl rfl) (pe_dnewK))
        (pss_cons (ps_set (i := 5) sc_law.nd rfl (Or.inl rfl) (pe_op o_add (pe_op o_mul (pe_lst (pa_cons (pe_int) (pa_nil))) (pe_int)) (pe_op o_mul (pe_lst (pa_cons (pe_int) (pa_nil))) (pe_int))))
        (pss_cons (ps_for po rfl (pi_range2 (by rfl) T.n_range (pa_cons (pe_int) (pa_cons (pe_int) (pa_nil)))) (pg_name (i := 6) sc_law.nd rfl (Or.inl rfl))
        (pss_cons (ps_dput hu (pv 4) (pv 6) (pe_op o_mul (pe_lst (pa_cons (pe_int) (pa_nil))) (pe_int)) rfl)
        (pss_one (ps_if (pt_cmpR (o_lt hl) (pv 6) (pe_int) (nomark _)) (pss_cons (ps_dput hu (pv 4) (pv 6) (e_call (ok__law_block T) (hr.mono (by decide)) T.g__law_block T.F__law_block.kp T.b__law_block tk (pa_cons (pv 6) (pa_cons (e_call (ok__law_at T) (hr.mono (by decide)) T.g__law_at T.F__law_at.kp T.b__law_at tk (pa_cons (pv 1) (pa_cons (pe_int) (pa_nil)))) (pa_nil)))) rfl)
        (pss_cons (ps_expr (e_call (ok__law_put_block T) (hr.mono (by decide)) T.g__law_put_block T.F__law_put_block.kp T.b__law_put_block tk (pa_cons (pv 3) (pa_cons (pv 6) (pa_cons (e_dg hu (pv 4) (pv 6)) (pa_nil))))))
        (pss_one (ps_asg (e_ix (pe_lst (pa_cons (pe_int) (pa_cons (pe_int) (pa_cons (pe_int) (pa_cons (pe_int) (pa_nil)))))) (pe_op o_mod (pe_op o_add (e_call (ok__law_at T) (hr.mono (by decide)) T.g__law_at T.F__law_at.kp T.b__law_at tk (pa_cons (pv 1) (pa_cons (pe_op o_add (pe_int) (pe_op o_mod (pv 6) (pe_int))) (pa_nil)))) (pv 6)) (pe_int))) (pg_sub (pv 5) (pv 6) (set_u hu)))))) (pss_nil)))))
        (pss_cons (ps_expr (e_meth0 (pv 3) T.c_Disk T.m_Disk_flush (ok_Disk_flush T) (hr.mono (by decide)) T.b_Disk_flush tk))
        (pss_cons (ps_set (i := 7) sc_law.nd rfl (Or.inl rfl) (e_meth0 (pv 3) T.c_Disk T.m_Disk_image (ok_Disk_image T) (hr.mono (by decide)) T.b_Disk_image tk))
        (pss_cons (ps_setLc (i := 8) (own := [("_law_many", 19)]) (by rfl) sc_law.nd rfl rfl (sw_true rfl rfl rfl (by decide +kernel)) (pi_list (pv 5)) (blkOk_by (N := ["_law_script", "_law_tape_here", "_law_generation", "_law_disk", "_law_contents", "_law_numbers", "_law_number", "_law_image", "_law_held", "_law_store", "_law_recent", "_law_k", "_law_act", "_law_pick", "_law_free_here", "_law_words", "_law_valid", "_law_due_here", "_law_told", "_law_many"]) (sc := defScope s_law) (by decide +kernel)) (fun _ _ _ _ _ => pg_name (i := 19) sc_law.nd rfl (Or.inl rfl)) (fun _ _ _ _ _ => pts_nil) (fun _ _ _ _ _ => pe_cmpR (o_gt) (pv 19) (pe_int) (nomark _)))
        (pss_cons (ps_set (i := 9) sc_law.nd rfl (Or.inl rfl) (e_mk T.M_Store (ok_Store___init__ T) (hr.mono (by decide)) T.gC_Store T.b_Store___init__ tk (pa_cons (pv 3) (pa_cons (e_mk T.M_Head (ok_Head___init__ T) (hr.mono (by decide)) T.gC_Head T.b_Head___init__ tk (pa_cons (pe_op o_sub (pv 2) (pe_int)) (pa_cons (pe_tup (pa_cons (pe_int) (pa_cons (pe_int) (pa_nil)))) (pa_cons (pe_int) (pa_nil))))) (pa_cons (e_mk T.M_Space (ok_Space___init__ T) (hr.mono (by decide)) T.gC_Space T.b_Space___init__ tk (pa_cons (pv 5) (pa_nil))) (pa_nil))))))
        (pss_cons (ps_if (PW.pt (pw_or (pt_cmpR (o_ne hr.units) (e_meth0 (pv 9) T.c_Store T.m_Store_generation (ok_Store_generation T) (hr.mono (by decide)) T.b_Store_generation tk) (pv 2) (nomark _)) (pw_or (pt_cmpR (o_ne hr.units) (e_fld T.c_Store T.n_Store_table (pv 9)) (pe_tup (pa_cons (pe_int) (pa_cons (pe_int) (pa_nil)))) (nomark _)) (pw_or1 (pt_cmpR (o_ne hr.units) (e_fld T.c_Store T.n_Store_reserve (pv 9)) (pe_int) (nomark _)))))) (pss_one (ps_ret (pe_bl))) (pss_nil))
        (pss_cons (ps_set (i := 10) sc_law.nd rfl (Or.inl rfl) (pe_lst (pa_cons (pe_int) (pa_cons (pe_int) (pa_cons (pe_int) (pa_cons (pe_int) (pa_cons (pe_int) (pa_cons (pe_int) (pa_cons (pe_int) (pa_cons (pe_int) (pa_cons (pe_un o_neg (pe_int)) (pa_nil))))))))))))
        (pss_cons (ps_for po rfl (pi_range1 (by rfl) T.n_range (pa_cons (pe_callB (c_min rfl) (by rfl) T.n_min (by decide +kernel) (pa_cons (pe_int) (pa_cons (pe_op o_div (pe_callB (c_len) (by rfl) T.n_len (by decide +kernel) (pa_cons (pv 1) (pa_nil))) (pe_int)) (pa_nil)))) (pa_nil))) (pg_name (i := 11) sc_law.nd rfl (Or.inl rfl))
        (pss_cons (ps_set (i := 12) sc_law.nd rfl (Or.inl rfl) (e_ix (pe_lst (pa_cons (pe_str) (pa_cons (pe_str) (pa_cons (pe_str) (pa_cons (pe_str) (pa_cons (pe_str) (pa_cons (pe_str) (pa_cons (pe_str) (pa_cons (pe_str) (pa_cons (pe_str) (pa_cons (pe_str) (pa_cons (pe_str) (pa_nil))))))))))))) (pe_op o_mod (e_call (ok__law_at T) (hr.mono (by decide)) T.g__law_at T.F__law_at.kp T.b__law_at tk (pa_cons (pv 1) (pa_cons (pe_op o_mul (pe_int) (pv 11)) (pa_nil)))) (pe_int))))
        (pss_cons (ps_set (i := 13) sc_law.nd rfl (Or.inl rfl) (e_call (ok__law_at T) (hr.mono (by decide)) T.g__law_at T.F__law_at.kp T.b__law_at tk (pa_cons (pv 1) (pa_cons (pe_op o_add (pe_op o_mul (pe_int) (pv 11)) (pe_int)) (pa_nil)))))
        (pss_cons (ps_set (i := 14) sc_law.nd rfl (Or.inl rfl) (pe_callB (c_len) (by rfl) T.n_len (by decide +kernel) (pa_cons (e_call (ok__law_free T) (hr.mono (by decide)) T.g__law_free T.F__law_free.kp T.b__law_free tk (pa_cons (pv 5) (pa_cons (pv 8) (pa_nil)))) (pa_nil))))
        (pss_cons (ps_expr (e_meth (pv 9) T.c_Store T.m_Store_use_reserve (ok_Store_use_reserve T) (hr.mono (by decide)) T.b_Store_use_reserve tk (pa_cons (e_ix (pe_lst (pa_cons (pe_int) (pa_cons (pe_int) (pa_cons (pe_int) (pa_cons (pe_int) (pa_cons (pv 14) (pa_cons (pe_callB (c_max rfl) (by rfl) T.n_max (by decide +kernel) (pa_cons (pe_int) (pa_cons (pe_op o_sub (pv 14) (pe_int)) (pa_nil)))) (pa_nil)))))))) (pe_op o_mod (pv 13) (pe_int))) (pa_nil))))
        (pss_cons (ps_set (i := 6) sc_law.nd rfl (Or.inl rfl) (e_ix (pv 10) (pe_op o_mod (pe_op o_div (pv 13) (pe_int)) (pe_callB (c_len) (by rfl) T.n_len (by decide +kernel) (pa_cons (pv 10) (pa_nil))))))
        (pss_cons (ps_set (i := 15) sc_law.nd rfl (Or.inl rfl) (e_call (ok__law_block T) (hr.mono (by decide)) T.g__law_block T.F__law_block.kp T.b__law_block tk (pa_cons (pv 11) (pa_cons (pv 13) (pa_nil)))))
        (pss_cons (ps_set (i := 16) sc_law.nd rfl (Or.inl rfl) (pe_cmpR (o_ne hr.units) (pe_op o_mod (pv 13) (pe_int)) (pe_int) (nomark _)))
        (pss_cut (ps_if (pt_not (t_tru (pv 16))) (pss_one (ps_set (i := 15) sc_law.nd rfl (Or.inl rfl) (e_ix (pe_lst (pa_cons (e_sl (pv 15) (po_some (pe_int)) (po_none)) (pa_cons (pe_op o_add (pv 15) (pe_lst (pa_cons (pe_int) (pa_nil)))) (pa_cons (pe_op o_add (e_sl (pv 15) (po_none) (po_some (pe_int))) (pe_lst (pa_cons (pe_un o_neg (pe_int)) (pa_nil)))) (pa_cons (pe_callTy (c_tuple) (by rfl) T.n_tuple (by decide +kernel) (pa_cons (pv 15) (pa_nil))) (pa_cons (pe_op o_add (e_sl (pv 15) (po_none) (po_some (pe_int))) (pe_lst (pa_cons (pe_bl) (pa_nil)))) (pa_nil))))))) (pe_op o_mod (pe_op o_div (pv 13) (pe_int)) (pe_int))))) (pss_nil))
        (pss_cons (ps_if (pt_cmpR (o_eq hr.units) (pv 12) (pe_str) (nomark _)) (pss_cons (ps_if (pt_not (t_tru (e_call (ok__law_make T) (hr.mono (by decide)) T.g__law_make T.F__law_make.kp T.b__law_make tk (pa_cons (pv 9) (pa_cons (pv 5) (pa_cons (pv 8) (pa_cons (pv 4) (pa_cons (pv 15) (pa_cons (pv 16) (pa_cons (pv 2) (pa_nil))))))))))) (pss_one (ps_ret (pe_bl))) (pss_nil))
        (pss_cons (ps_set (i := 10) sc_law.nd rfl (Or.inl rfl) (pe_op o_add (pv 10) (e_sl (e_meth0 (pv 9) T.c_Store T.m_Store_new_blocks (ok_Store_new_blocks T) (hr.mono (by decide)) T.b_Store_new_blocks tk) (po_some (pe_un o_neg (pe_int))) (po_none))))
        (pss_one (ps_continue)))) (pss_nil))
        (pss_cons (ps_set (i := 17) sc_law.nd rfl (Or.inl rfl) (e_call (ok__law_due T) (hr.mono (by decide)) T.g__law_due T.F__law_due.kp T.b__law_due tk (pa_cons (pv 5) (pa_cons (pv 8) (pa_cons (pv 12) (pa_cons (pv 6) (pa_nil)))))))
        (pss_cut (ps_if (PW.pt (pw_and (pt_cmpR (o_eq hr.units) (pv 12) (pe_str) (nomark _)) (pw_and1 (pt_not (t_tru (pv 16)))))) (pss_one (ps_set (i := 17) sc_law.nd rfl (Or.inl rfl) (pe_lst (pa_cons (pe_str) (pa_cons (pe_str) (pa_nil)))))) (pss_nil))
        (pss_cons (ps_set (i := 18) sc_law.nd rfl (Or.inl rfl) (e_call (ok__law_do T) (hr.mono (by decide)) T.g__law_do T.F__law_do.kp T.b__law_do tk (pa_cons (pv 9) (pa_cons (pv 12) (pa_cons (pe_tup (pa_cons (pv 6) (pa_cons (pv 2) (pa_nil)))) (pa_cons (pv 15) (pa_nil)))))))
        (pss_cons (ps_if (PW.pt (pw_and (pt_cmpR (o_eq hr.units) (pv 12) (pe_str) (nomark _)) (pw_and1 (pt_cmpR (o_is) (pv 17) (pe_non) (nomark _))))) (pss_cons (ps_if (pt_not (t_tru (e_call (ok__law_is_block T) (hr.mono (by decide)) T.g__law_is_block T.F__law_is_block.kp T.b__law_is_block tk (pa_cons (pv 18) (pa_cons (e_dg hu (pv 4) (pv 6)) (pa_nil)))))) (pss_one (ps_ret (pe_bl))) (pss_nil))
        (pss_cons (ps_asg (pe_op o_add (e_ix (pv 18) (pe_int)) (pe_int)) (pg_sub (pv 18) (pe_int) (set_u hu)))
        (pss_one (ps_continue)))) (pss_nil))
        (pss_cons (ps_if (pt_not (t_tru (e_call (ok__law_same T) (hr.mono (by decide)) T.g__law_same T.F__law_same.kp T.b__law_same tk (pa_cons (pv 18) (pa_cons (pv 17) (pa_nil)))))) (pss_one (ps_ret (pe_bl))) (pss_nil))
        (pss_cut (ps_if (PW.pt (pw_and (pt_cmpR (o_eq hr.units) (pv 12) (pe_str) (nomark _)) (pw_and1 (pt_cmpR (o_is) (pv 17) (pe_non) (nomark _))))) (pss_one (ps_dput hu (pv 4) (pv 6) (pe_callTy (c_list) (by rfl) T.n_list (by decide +kernel) (pa_cons (pv 15) (pa_nil))) rfl)) (pss_nil))
        (pss_cut (ps_if (PW.pt (pw_and (pt_cmpR (o_eq hr.units) (pv 12) (pe_str) (nomark _)) (pw_and1 (pt_cmpR (o_is) (pv 17) (pe_non) (nomark _))))) (pss_one (ps_asg (pe_op o_add (e_ix (pv 5) (pv 6)) (pe_int)) (pg_sub (pv 5) (pv 6) (set_u hu)))) (pss_nil))
        (pss_one (ps_if (PW.pt (pw_and (pt_cmpR (o_eq hr.units) (pv 12) (pe_str) (nomark _)) (pw_and1 (pt_cmpR (o_ne hr.units) (pv 17) (pe_lst (pa_cons (pe_str) (pa_cons (pe_str) (pa_nil)))) (nomark _))))) (pss_cut (ps_if (PW.pt (pw_and (pt_cmpR (o_eq hr.units) (pv 17) (pe_int) (nomark _)) (pw_and1 (pt_not (t_tru (e_ix (pv 8) (pv 6))))))) (pss_one (ps_dput hu (pv 4) (pv 6) (e_call (ok__law_old T) (hr.mono (by decide)) T.g__law_old T.F__law_old.kp T.b__law_old tk (pa_cons (pv 7) (pa_cons (pv 6) (pa_nil)))) rfl)) (pss_nil))
        (pss_one (ps_asg (pv 17) (pg_sub (pv 5) (pv 6) (set_u hu))))) (pss_nil))))))))))))))))))))
        (pss_one (ps_ret (e_call (ok__law_end T) (hr.mono (by decide)) T.g__law_end T.F__law_end.kp T.b__law_end tk (pa_cons (pv 9) (pa_cons (pv 5) (pa_cons (pv 8) (pa_cons (pv 4) (pa_cons (pv 7) (pa_nil)))))))))))))))))))))
end
theorem all_mk {P : Program} {w : World} {K : PySem.W.Frag} {h : Heap} {mg : Str → Option Value} {fa : Addr} (X : K.In h) (G : h.Ns mainGlobals mg) (hfa : mg "law" = some (.ref fa))
    {f_is_between f_is_word f_are_words f_Disk___init__ f_Disk_read f_Disk_operate f_Disk_write f_Disk_flush f_Disk_waiting f_Disk_image f_Disk_lasting f_Head___init__ f_Space___init__ f_Space_count_spare f_Space_check_block f_Space_least_free f_Space_take f_Space_share f_Space_drop f_Space_uses f_Space_is_new f_Space_is_free f_Space_free f_Store___init__ f_Store_generation f_Store_use_reserve f_Store_read f_Store_next_pointer f_Store_make f_Store_is_new f_Store_write f_Store_share f_Store_drop f_Store_uses f_Store_require f_Store_free f_Store_new_blocks f__law_tape f__law_at f__law_block f__law_is_block f__law_put_block f__law_do f__law_free f__law_due f__law_same f__law_make f__law_old f__law_end f_law : Addr}
    {C_Disk C_Head C_Space C_Store C_LaminaError C_NotValid C_PowerOff C_NoSpace : Addr}
    {od_is_between an_is_between : Option Addr} {sl_is_between : Array (Option Value)} {oc_is_between kV_is_between dc_is_between pm_is_between cd_is_between ct_is_between : Value}
    {od_is_word an_is_word : Option Addr} {sl_is_word : Array (Option Value)} {oc_is_word kV_is_word dc_is_word pm_is_word cd_is_word ct_is_word : Value}
    {od_are_words an_are_words : Option Addr} {sl_are_words : Array (Option Value)} {oc_are_words kV_are_words dc_are_words pm_are_words cd_are_words ct_are_words : Value}
    {od_Disk___init__ an_Disk___init__ : Option Addr} {sl_Disk___init__ : Array (Option Value)} {oc_Disk___init__ kV_Disk___init__ dc_Disk___init__ pm_Disk___init__ cd_Disk___init__ ct_Disk___init__ : Value}
    {od_Disk_read an_Disk_read : Option Addr} {sl_Disk_read : Array (Option Value)} {oc_Disk_read kV_Disk_read dc_Disk_read pm_Disk_read cd_Disk_read ct_Disk_read : Value}
    {od_Disk_operate an_Disk_operate : Option Addr} {sl_Disk_operate : Array (Option Value)} {oc_Disk_operate kV_Disk_operate dc_Disk_operate pm_Disk_operate cd_Disk_operate ct_Disk_operate : Value}
    {od_Disk_write an_Disk_write : Option Addr} {sl_Disk_write : Array (Option Value)} {oc_Disk_write kV_Disk_write dc_Disk_write pm_Disk_write cd_Disk_write ct_Disk_write : Value}
    {od_Disk_flush an_Disk_flush : Option Addr} {sl_Disk_flush : Array (Option Value)} {oc_Disk_flush kV_Disk_flush dc_Disk_flush pm_Disk_flush cd_Disk_flush ct_Disk_flush : Value}
    {od_Disk_waiting an_Disk_waiting : Option Addr} {sl_Disk_waiting : Array (Option Value)} {oc_Disk_waiting kV_Disk_waiting dc_Disk_waiting pm_Disk_waiting cd_Disk_waiting ct_Disk_waiting : Value}
    {od_Disk_image an_Disk_image : Option Addr} {sl_Disk_image : Array (Option Value)} {oc_Disk_image kV_Disk_image dc_Disk_image pm_Disk_image cd_Disk_image ct_Disk_image : Value}
    {od_Disk_lasting an_Disk_lasting : Option Addr} {sl_Disk_lasting : Array (Option Value)} {oc_Disk_lasting kV_Disk_lasting dc_Disk_lasting pm_Disk_lasting cd_Disk_lasting ct_Disk_lasting : Value}
    {od_Head___init__ an_Head___init__ : Option Addr} {sl_Head___init__ : Array (Option Value)} {oc_Head___init__ kV_Head___init__ dc_Head___init__ pm_Head___init__ cd_Head___init__ ct_Head___init__ : Value}
    {od_Space___init__ an_Space___init__ : Option Addr} {sl_Space___init__ : Array (Option Value)} {oc_Space___init__ kV_Space___init__ dc_Space___init__ pm_Space___init__ cd_Space___init__ ct_Space___init__ : Value}
    {od_Space_count_spare an_Space_count_spare : Option Addr} {sl_Space_count_spare : Array (Option Value)} {oc_Space_count_spare kV_Space_count_spare dc_Space_count_spare pm_Space_count_spare cd_Space_count_spare ct_Space_count_spare : Value}
    {od_Space_check_block an_Space_check_block : Option Addr} {sl_Space_check_block : Array (Option Value)} {oc_Space_check_block kV_Space_check_block dc_Space_check_block pm_Space_check_block cd_Space_check_block ct_Space_check_block : Value}
    {od_Space_least_free an_Space_least_free : Option Addr} {sl_Space_least_free : Array (Option Value)} {oc_Space_least_free kV_Space_least_free dc_Space_least_free pm_Space_least_free cd_Space_least_free ct_Space_least_free : Value}
    {od_Space_take an_Space_take : Option Addr} {sl_Space_take : Array (Option Value)} {oc_Space_take kV_Space_take dc_Space_take pm_Space_take cd_Space_take ct_Space_take : Value}
    {od_Space_share an_Space_share : Option Addr} {sl_Space_share : Array (Option Value)} {oc_Space_share kV_Space_share dc_Space_share pm_Space_share cd_Space_share ct_Space_share : Value}
    {od_Space_drop an_Space_drop : Option Addr} {sl_Space_drop : Array (Option Value)} {oc_Space_drop kV_Space_drop dc_Space_drop pm_Space_drop cd_Space_drop ct_Space_drop : Value}
    {od_Space_uses an_Space_uses : Option Addr} {sl_Space_uses : Array (Option Value)} {oc_Space_uses kV_Space_uses dc_Space_uses pm_Space_uses cd_Space_uses ct_Space_uses : Value}
    {od_Space_is_new an_Space_is_new : Option Addr} {sl_Space_is_new : Array (Option Value)} {oc_Space_is_new kV_Space_is_new dc_Space_is_new pm_Space_is_new cd_Space_is_new ct_Space_is_new : Value}
    {od_Space_is_free an_Space_is_free : Option Addr} {sl_Space_is_free : Array (Option Value)} {oc_Space_is_free kV_Space_is_free dc_Space_is_free pm_Space_is_free cd_Space_is_free ct_Space_is_free : Value}
    {od_Space_free an_Space_free : Option Addr} {sl_Space_free : Array (Option Value)} {oc_Space_free kV_Space_free dc_Space_free pm_Space_free cd_Space_free ct_Space_free : Value}
    {od_Store___init__ an_Store___init__ : Option Addr} {sl_Store___init__ : Array (Option Value)} {oc_Store___init__ kV_Store___init__ dc_Store___init__ pm_Store___init__ cd_Store___init__ ct_Store___init__ : Value}
    {od_Store_generation an_Store_generation : Option Addr} {sl_Store_generation : Array (Option Value)} {oc_Store_generation kV_Store_generation dc_Store_generation pm_Store_generation cd_Store_generation ct_Store_generation : Value}
    {od_Store_use_reserve an_Store_use_reserve : Option Addr} {sl_Store_use_reserve : Array (Option Value)} {oc_Store_use_reserve kV_Store_use_reserve dc_Store_use_reserve pm_Store_use_reserve cd_Store_use_reserve ct_Store_use_reserve : Value}
    {od_Store_read an_Store_read : Option Addr} {sl_Store_read : Array (Option Value)} {oc_Store_read kV_Store_read dc_Store_read pm_Store_read cd_Store_read ct_Store_read : Value}
    {od_Store_next_pointer an_Store_next_pointer : Option Addr} {sl_Store_next_pointer : Array (Option Value)} {oc_Store_next_pointer kV_Store_next_pointer dc_Store_next_pointer pm_Store_next_pointer cd_Store_next_pointer ct_Store_next_pointer : Value}
    {od_Store_make an_Store_make : Option Addr} {sl_Store_make : Array (Option Value)} {oc_Store_make kV_Store_make dc_Store_make pm_Store_make cd_Store_make ct_Store_make : Value}
    {od_Store_is_new an_Store_is_new : Option Addr} {sl_Store_is_new : Array (Option Value)} {oc_Store_is_new kV_Store_is_new dc_Store_is_new pm_Store_is_new cd_Store_is_new ct_Store_is_new : Value}
    {od_Store_write an_Store_write : Option Addr} {sl_Store_write : Array (Option Value)} {oc_Store_write kV_Store_write dc_Store_write pm_Store_write cd_Store_write ct_Store_write : Value}
    {od_Store_share an_Store_share : Option Addr} {sl_Store_share : Array (Option Value)} {oc_Store_share kV_Store_share dc_Store_share pm_Store_share cd_Store_share ct_Store_share : Value}
    {od_Store_drop an_Store_drop : Option Addr} {sl_Store_drop : Array (Option Value)} {oc_Store_drop kV_Store_drop dc_Store_drop pm_Store_drop cd_Store_drop ct_Store_drop : Value}
    {od_Store_uses an_Store_uses : Option Addr} {sl_Store_uses : Array (Option Value)} {oc_Store_uses kV_Store_uses dc_Store_uses pm_Store_uses cd_Store_uses ct_Store_uses : Value}
    {od_Store_require an_Store_require : Option Addr} {sl_Store_require : Array (Option Value)} {oc_Store_require kV_Store_require dc_Store_require pm_Store_require cd_Store_require ct_Store_require : Value}
    {od_Store_free an_Store_free : Option Addr} {sl_Store_free : Array (Option Value)} {oc_Store_free kV_Store_free dc_Store_free pm_Store_free cd_Store_free ct_Store_free : Value}
    {od_Store_new_blocks an_Store_new_blocks : Option Addr} {sl_Store_new_blocks : Array (Option Value)} {oc_Store_new_blocks kV_Store_new_blocks dc_Store_new_blocks pm_Store_new_blocks cd_Store_new_blocks ct_Store_new_blocks : Value}
    {od__law_tape an__law_tape : Option Addr} {sl__law_tape : Array (Option Value)} {oc__law_tape kV__law_tape dc__law_tape pm__law_tape cd__law_tape ct__law_tape : Value}
    {od__law_at an__law_at : Option Addr} {sl__law_at : Array (Option Value)} {oc__law_at kV__law_at dc__law_at pm__law_at cd__law_at ct__law_at : Value}
    {od__law_block an__law_block : Option Addr} {sl__law_block : Array (Option Value)} {oc__law_block kV__law_block dc__law_block pm__law_block cd__law_block ct__law_block : Value}
    {od__law_is_block an__law_is_block : Option Addr} {sl__law_is_block : Array (Option Value)} {oc__law_is_block kV__law_is_block dc__law_is_block pm__law_is_block cd__law_is_block ct__law_is_block : Value}
    {od__law_put_block an__law_put_block : Option Addr} {sl__law_put_block : Array (Option Value)} {oc__law_put_block kV__law_put_block dc__law_put_block pm__law_put_block cd__law_put_block ct__law_put_block : Value}
    {od__law_do an__law_do : Option Addr} {sl__law_do : Array (Option Value)} {oc__law_do kV__law_do dc__law_do pm__law_do cd__law_do ct__law_do : Value}
    {od__law_free an__law_free : Option Addr} {sl__law_free : Array (Option Value)} {oc__law_free kV__law_free dc__law_free pm__law_free cd__law_free ct__law_free : Value}
    {od__law_due an__law_due : Option Addr} {sl__law_due : Array (Option Value)} {oc__law_due kV__law_due dc__law_due pm__law_due cd__law_due ct__law_due : Value}
    {od__law_same an__law_same : Option Addr} {sl__law_same : Array (Option Value)} {oc__law_same kV__law_same dc__law_same pm__law_same cd__law_same ct__law_same : Value}
    {od__law_make an__law_make : Option Addr} {sl__law_make : Array (Option Value)} {oc__law_make kV__law_make dc__law_make pm__law_make cd__law_make ct__law_make : Value}
    {od__law_old an__law_old : Option Addr} {sl__law_old : Array (Option Value)} {oc__law_old kV__law_old dc__law_old pm__law_old cd__law_old ct__law_old : Value}
    {od__law_end an__law_end : Option Addr} {sl__law_end : Array (Option Value)} {oc__law_end kV__law_end dc__law_end pm__law_end cd__law_end ct__law_end : Value}
    {od_law an_law : Option Addr} {sl_law : Array (Option Value)} {oc_law kV_law dc_law pm_law cd_law ct_law : Value}
    {t_ADD : Tok}
    {t_BLOCK_SECTORS : Tok}
    {t_BLOCK_WORDS : Tok}
    {t_FIRST_BLOCK : Tok}
    {t_MAX_BLOCKS : Tok}
    {t_MIN_BLOCKS : Tok}
    {t_SECTOR_WORDS : Tok}
    (aC_Disk : PySem.W.nsIn K mainGlobals "Disk" = some (some (.ref C_Disk)))
    (aC_Head : PySem.W.nsIn K mainGlobals "Head" = some (some (.ref C_Head)))
    (aC_Space : PySem.W.nsIn K mainGlobals "Space" = some (some (.ref C_Space)))
    (aC_Store : PySem.W.nsIn K mainGlobals "Store" = some (some (.ref C_Store)))
    (aC_LaminaError : PySem.W.nsIn K mainGlobals "LaminaError" = some (some (.ref C_LaminaError)))
    (aC_NoSpace : PySem.W.nsIn K mainGlobals "NoSpace" = some (some (.ref C_NoSpace)))
    (aC_NotValid : PySem.W.nsIn K mainGlobals "NotValid" = some (some (.ref C_NotValid)))
    (aC_PowerOff : PySem.W.nsIn K mainGlobals "PowerOff" = some (some (.ref C_PowerOff)))
    (a_is_between : PySem.W.nsIn K mainGlobals "is_between" = some (some (.ref f_is_between)))
    (l_is_between : K.lookup f_is_between = some ⟨oc_is_between, od_is_between, .func (PySem.W.fnOf "is_between" "is_between" (defArgs s_is_between) (defBody s_is_between) (defScope s_is_between) .none kV_is_between dc_is_between pm_is_between an_is_between cd_is_between ct_is_between), sl_is_between⟩)
    (c_is_between : PySem.W.codeIn K cd_is_between "is_between" = true)
    (k_is_between : PySem.W.keepIn K (.ref f_is_between) = true)
    (a_is_word : PySem.W.nsIn K mainGlobals "is_word" = some (some (.ref f_is_word)))
    (l_is_word : K.lookup f_is_word = some ⟨oc_is_word, od_is_word, .func (PySem.W.fnOf "is_word" "is_word" (defArgs s_is_word) (defBody s_is_word) (defScope s_is_word) .none kV_is_word dc_is_word pm_is_word an_is_word cd_is_word ct_is_word), sl_is_word⟩)
    (c_is_word : PySem.W.codeIn K cd_is_word "is_word" = true)
    (k_is_word : PySem.W.keepIn K (.ref f_is_word) = true)
    (a_are_words : PySem.W.nsIn K mainGlobals "are_words" = some (some (.ref f_are_words)))
    (l_are_words : K.lookup f_are_words = some ⟨oc_are_words, od_are_words, .func (PySem.W.fnOf "are_words" "are_words" (defArgs s_are_words) (defBody s_are_words) (defScope s_are_words) .none kV_are_words dc_are_words pm_are_words an_are_words cd_are_words ct_are_words), sl_are_words⟩)
    (c_are_words : PySem.W.codeIn K cd_are_words "are_words" = true)
    (k_are_words : PySem.W.keepIn K (.ref f_are_words) = true)
    (a_Disk___init__ : PySem.W.findIn K (.ref C_Disk) "__init__" = some (some (.ref f_Disk___init__)))
    (i_Disk___init__ : PySem.W.isFn K (.ref f_Disk___init__) = true)
    (l_Disk___init__ : K.lookup f_Disk___init__ = some ⟨oc_Disk___init__, od_Disk___init__, .func (PySem.W.fnOf "__init__" "Disk.__init__" (defArgs s_Disk___init__) (defBody s_Disk___init__) (defScope s_Disk___init__) .none kV_Disk___init__ dc_Disk___init__ pm_Disk___init__ an_Disk___init__ cd_Disk___init__ ct_Disk___init__), sl_Disk___init__⟩)
    (c_Disk___init__ : PySem.W.codeIn K cd_Disk___init__ "Disk.__init__" = true)
    (k_Disk___init__ : PySem.W.keepIn K (.ref f_Disk___init__) = true)
    (a_Disk_read : PySem.W.findIn K (.ref C_Disk) "read" = some (some (.ref f_Disk_read)))
    (i_Disk_read : PySem.W.isFn K (.ref f_Disk_read) = true)
    (l_Disk_read : K.lookup f_Disk_read = some ⟨oc_Disk_read, od_Disk_read, .func (PySem.W.fnOf "read" "Disk.read" (defArgs s_Disk_read) (defBody s_Disk_read) (defScope s_Disk_read) .none kV_Disk_read dc_Disk_read pm_Disk_read an_Disk_read cd_Disk_read ct_Disk_read), sl_Disk_read⟩)
    (c_Disk_read : PySem.W.codeIn K cd_Disk_read "Disk.read" = true)
    (k_Disk_read : PySem.W.keepIn K (.ref f_Disk_read) = true)
    (a_Disk_operate : PySem.W.findIn K (.ref C_Disk) "operate" = some (some (.ref f_Disk_operate)))
    (i_Disk_operate : PySem.W.isFn K (.ref f_Disk_operate) = true)
    (l_Disk_operate : K.lookup f_Disk_operate = some ⟨oc_Disk_operate, od_Disk_operate, .func (PySem.W.fnOf "operate" "Disk.operate" (defArgs s_Disk_operate) (defBody s_Disk_operate) (defScope s_Disk_operate) .none kV_Disk_operate dc_Disk_operate pm_Disk_operate an_Disk_operate cd_Disk_operate ct_Disk_operate), sl_Disk_operate⟩)
    (c_Disk_operate : PySem.W.codeIn K cd_Disk_operate "Disk.operate" = true)
    (k_Disk_operate : PySem.W.keepIn K (.ref f_Disk_operate) = true)
    (a_Disk_write : PySem.W.findIn K (.ref C_Disk) "write" = some (some (.ref f_Disk_write)))
    (i_Disk_write : PySem.W.isFn K (.ref f_Disk_write) = true)
    (l_Disk_write : K.lookup f_Disk_write = some ⟨oc_Disk_write, od_Disk_write, .func (PySem.W.fnOf "write" "Disk.write" (defArgs s_Disk_write) (defBody s_Disk_write) (defScope s_Disk_write) .none kV_Disk_write dc_Disk_write pm_Disk_write an_Disk_write cd_Disk_write ct_Disk_write), sl_Disk_write⟩)
    (c_Disk_write : PySem.W.codeIn K cd_Disk_write "Disk.write" = true)
    (k_Disk_write : PySem.W.keepIn K (.ref f_Disk_write) = true)
    (a_Disk_flush : PySem.W.findIn K (.ref C_Disk) "flush" = some (some (.ref f_Disk_flush)))
    (i_Disk_flush : PySem.W.isFn K (.ref f_Disk_flush) = true)
    (l_Disk_flush : K.lookup f_Disk_flush = some ⟨oc_Disk_flush, od_Disk_flush, .func (PySem.W.fnOf "flush" "Disk.flush" (defArgs s_Disk_flush) (defBody s_Disk_flush) (defScope s_Disk_flush) .none kV_Disk_flush dc_Disk_flush pm_Disk_flush an_Disk_flush cd_Disk_flush ct_Disk_flush), sl_Disk_flush⟩)
    (c_Disk_flush : PySem.W.codeIn K cd_Disk_flush "Disk.flush" = true)
    (k_Disk_flush : PySem.W.keepIn K (.ref f_Disk_flush) = true)
    (a_Disk_waiting : PySem.W.findIn K (.ref C_Disk) "waiting" = some (some (.ref f_Disk_waiting)))
    (i_Disk_waiting : PySem.W.isFn K (.ref f_Disk_waiting) = true)
    (l_Disk_waiting : K.lookup f_Disk_waiting = some ⟨oc_Disk_waiting, od_Disk_waiting, .func (PySem.W.fnOf "waiting" "Disk.waiting" (defArgs s_Disk_waiting) (defBody s_Disk_waiting) (defScope s_Disk_waiting) .none kV_Disk_waiting dc_Disk_waiting pm_Disk_waiting an_Disk_waiting cd_Disk_waiting ct_Disk_waiting), sl_Disk_waiting⟩)
    (c_Disk_waiting : PySem.W.codeIn K cd_Disk_waiting "Disk.waiting" = true)
    (k_Disk_waiting : PySem.W.keepIn K (.ref f_Disk_waiting) = true)
    (a_Disk_image : PySem.W.findIn K (.ref C_Disk) "image" = some (some (.ref f_Disk_image)))
    (i_Disk_image : PySem.W.isFn K (.ref f_Disk_image) = true)
    (l_Disk_image : K.lookup f_Disk_image = some ⟨oc_Disk_image, od_Disk_image, .func (PySem.W.fnOf "image" "Disk.image" (defArgs s_Disk_image) (defBody s_Disk_image) (defScope s_Disk_image) .none kV_Disk_image dc_Disk_image pm_Disk_image an_Disk_image cd_Disk_image ct_Disk_image), sl_Disk_image⟩)
    (c_Disk_image : PySem.W.codeIn K cd_Disk_image "Disk.image" = true)
    (k_Disk_image : PySem.W.keepIn K (.ref f_Disk_image) = true)
    (a_Disk_lasting : PySem.W.findIn K (.ref C_Disk) "lasting" = some (some (.ref f_Disk_lasting)))
    (i_Disk_lasting : PySem.W.isFn K (.ref f_Disk_lasting) = true)
    (l_Disk_lasting : K.lookup f_Disk_lasting = some ⟨oc_Disk_lasting, od_Disk_lasting, .func (PySem.W.fnOf "lasting" "Disk.lasting" (defArgs s_Disk_lasting) (defBody s_Disk_lasting) (defScope s_Disk_lasting) .none kV_Disk_lasting dc_Disk_lasting pm_Disk_lasting an_Disk_lasting cd_Disk_lasting ct_Disk_lasting), sl_Disk_lasting⟩)
    (c_Disk_lasting : PySem.W.codeIn K cd_Disk_lasting "Disk.lasting" = true)
    (k_Disk_lasting : PySem.W.keepIn K (.ref f_Disk_lasting) = true)
    (a_Head___init__ : PySem.W.findIn K (.ref C_Head) "__init__" = some (some (.ref f_Head___init__)))
    (i_Head___init__ : PySem.W.isFn K (.ref f_Head___init__) = true)
    (l_Head___init__ : K.lookup f_Head___init__ = some ⟨oc_Head___init__, od_Head___init__, .func (PySem.W.fnOf "__init__" "Head.__init__" (defArgs s_Head___init__) (defBody s_Head___init__) (defScope s_Head___init__) .none kV_Head___init__ dc_Head___init__ pm_Head___init__ an_Head___init__ cd_Head___init__ ct_Head___init__), sl_Head___init__⟩)
    (c_Head___init__ : PySem.W.codeIn K cd_Head___init__ "Head.__init__" = true)
    (k_Head___init__ : PySem.W.keepIn K (.ref f_Head___init__) = true)
    (a_Space___init__ : PySem.W.findIn K (.ref C_Space) "__init__" = some (some (.ref f_Space___init__)))
    (i_Space___init__ : PySem.W.isFn K (.ref f_Space___init__) = true)
    (l_Space___init__ : K.lookup f_Space___init__ = some ⟨oc_Space___init__, od_Space___init__, .func (PySem.W.fnOf "__init__" "Space.__init__" (defArgs s_Space___init__) (defBody s_Space___init__) (defScope s_Space___init__) .none kV_Space___init__ dc_Space___init__ pm_Space___init__ an_Space___init__ cd_Space___init__ ct_Space___init__), sl_Space___init__⟩)
    (c_Space___init__ : PySem.W.codeIn K cd_Space___init__ "Space.__init__" = true)
    (k_Space___init__ : PySem.W.keepIn K (.ref f_Space___init__) = true)
    (a_Space_count_spare : PySem.W.findIn K (.ref C_Space) "count_spare" = some (some (.ref f_Space_count_spare)))
    (i_Space_count_spare : PySem.W.isFn K (.ref f_Space_count_spare) = true)
    (l_Space_count_spare : K.lookup f_Space_count_spare = some ⟨oc_Space_count_spare, od_Space_count_spare, .func (PySem.W.fnOf "count_spare" "Space.count_spare" (defArgs s_Space_count_spare) (defBody s_Space_count_spare) (defScope s_Space_count_spare) .none kV_Space_count_spare dc_Space_count_spare pm_Space_count_spare an_Space_count_spare cd_Space_count_spare ct_Space_count_spare), sl_Space_count_spare⟩)
    (c_Space_count_spare : PySem.W.codeIn K cd_Space_count_spare "Space.count_spare" = true)
    (k_Space_count_spare : PySem.W.keepIn K (.ref f_Space_count_spare) = true)
    (a_Space_check_block : PySem.W.findIn K (.ref C_Space) "check_block" = some (some (.ref f_Space_check_block)))
    (i_Space_check_block : PySem.W.isFn K (.ref f_Space_check_block) = true)
    (l_Space_check_block : K.lookup f_Space_check_block = some ⟨oc_Space_check_block, od_Space_check_block, .func (PySem.W.fnOf "check_block" "Space.check_block" (defArgs s_Space_check_block) (defBody s_Space_check_block) (defScope s_Space_check_block) .none kV_Space_check_block dc_Space_check_block pm_Space_check_block an_Space_check_block cd_Space_check_block ct_Space_check_block), sl_Space_check_block⟩)
    (c_Space_check_block : PySem.W.codeIn K cd_Space_check_block "Space.check_block" = true)
    (k_Space_check_block : PySem.W.keepIn K (.ref f_Space_check_block) = true)
    (a_Space_least_free : PySem.W.findIn K (.ref C_Space) "least_free" = some (some (.ref f_Space_least_free)))
    (i_Space_least_free : PySem.W.isFn K (.ref f_Space_least_free) = true)
    (l_Space_least_free : K.lookup f_Space_least_free = some ⟨oc_Space_least_free, od_Space_least_free, .func (PySem.W.fnOf "least_free" "Space.least_free" (defArgs s_Space_least_free) (defBody s_Space_least_free) (defScope s_Space_least_free) .none kV_Space_least_free dc_Space_least_free pm_Space_least_free an_Space_least_free cd_Space_least_free ct_Space_least_free), sl_Space_least_free⟩)
    (c_Space_least_free : PySem.W.codeIn K cd_Space_least_free "Space.least_free" = true)
    (k_Space_least_free : PySem.W.keepIn K (.ref f_Space_least_free) = true)
    (a_Space_take : PySem.W.findIn K (.ref C_Space) "take" = some (some (.ref f_Space_take)))
    (i_Space_take : PySem.W.isFn K (.ref f_Space_take) = true)
    (l_Space_take : K.lookup f_Space_take = some ⟨oc_Space_take, od_Space_take, .func (PySem.W.fnOf "take" "Space.take" (defArgs s_Space_take) (defBody s_Space_take) (defScope s_Space_take) .none kV_Space_take dc_Space_take pm_Space_take an_Space_take cd_Space_take ct_Space_take), sl_Space_take⟩)
    (c_Space_take : PySem.W.codeIn K cd_Space_take "Space.take" = true)
    (k_Space_take : PySem.W.keepIn K (.ref f_Space_take) = true)
    (a_Space_share : PySem.W.findIn K (.ref C_Space) "share" = some (some (.ref f_Space_share)))
    (i_Space_share : PySem.W.isFn K (.ref f_Space_share) = true)
    (l_Space_share : K.lookup f_Space_share = some ⟨oc_Space_share, od_Space_share, .func (PySem.W.fnOf "share" "Space.share" (defArgs s_Space_share) (defBody s_Space_share) (defScope s_Space_share) .none kV_Space_share dc_Space_share pm_Space_share an_Space_share cd_Space_share ct_Space_share), sl_Space_share⟩)
    (c_Space_share : PySem.W.codeIn K cd_Space_share "Space.share" = true)
    (k_Space_share : PySem.W.keepIn K (.ref f_Space_share) = true)
    (a_Space_drop : PySem.W.findIn K (.ref C_Space) "drop" = some (some (.ref f_Space_drop)))
    (i_Space_drop : PySem.W.isFn K (.ref f_Space_drop) = true)
    (l_Space_drop : K.lookup f_Space_drop = some ⟨oc_Space_drop, od_Space_drop, .func (PySem.W.fnOf "drop" "Space.drop" (defArgs s_Space_drop) (defBody s_Space_drop) (defScope s_Space_drop) .none kV_Space_drop dc_Space_drop pm_Space_drop an_Space_drop cd_Space_drop ct_Space_drop), sl_Space_drop⟩)
    (c_Space_drop : PySem.W.codeIn K cd_Space_drop "Space.drop" = true)
    (k_Space_drop : PySem.W.keepIn K (.ref f_Space_drop) = true)
    (a_Space_uses : PySem.W.findIn K (.ref C_Space) "uses" = some (some (.ref f_Space_uses)))
    (i_Space_uses : PySem.W.isFn K (.ref f_Space_uses) = true)
    (l_Space_uses : K.lookup f_Space_uses = some ⟨oc_Space_uses, od_Space_uses, .func (PySem.W.fnOf "uses" "Space.uses" (defArgs s_Space_uses) (defBody s_Space_uses) (defScope s_Space_uses) .none kV_Space_uses dc_Space_uses pm_Space_uses an_Space_uses cd_Space_uses ct_Space_uses), sl_Space_uses⟩)
    (c_Space_uses : PySem.W.codeIn K cd_Space_uses "Space.uses" = true)
    (k_Space_uses : PySem.W.keepIn K (.ref f_Space_uses) = true)
    (a_Space_is_new : PySem.W.findIn K (.ref C_Space) "is_new" = some (some (.ref f_Space_is_new)))
    (i_Space_is_new : PySem.W.isFn K (.ref f_Space_is_new) = true)
    (l_Space_is_new : K.lookup f_Space_is_new = some ⟨oc_Space_is_new, od_Space_is_new, .func (PySem.W.fnOf "is_new" "Space.is_new" (defArgs s_Space_is_new) (defBody s_Space_is_new) (defScope s_Space_is_new) .none kV_Space_is_new dc_Space_is_new pm_Space_is_new an_Space_is_new cd_Space_is_new ct_Space_is_new), sl_Space_is_new⟩)
    (c_Space_is_new : PySem.W.codeIn K cd_Space_is_new "Space.is_new" = true)
    (k_Space_is_new : PySem.W.keepIn K (.ref f_Space_is_new) = true)
    (a_Space_is_free : PySem.W.findIn K (.ref C_Space) "is_free" = some (some (.ref f_Space_is_free)))
    (i_Space_is_free : PySem.W.isFn K (.ref f_Space_is_free) = true)
    (l_Space_is_free : K.lookup f_Space_is_free = some ⟨oc_Space_is_free, od_Space_is_free, .func (PySem.W.fnOf "is_free" "Space.is_free" (defArgs s_Space_is_free) (defBody s_Space_is_free) (defScope s_Space_is_free) .none kV_Space_is_free dc_Space_is_free pm_Space_is_free an_Space_is_free cd_Space_is_free ct_Space_is_free), sl_Space_is_free⟩)
    (c_Space_is_free : PySem.W.codeIn K cd_Space_is_free "Space.is_free" = true)
    (k_Space_is_free : PySem.W.keepIn K (.ref f_Space_is_free) = true)
    (a_Space_free : PySem.W.findIn K (.ref C_Space) "free" = some (some (.ref f_Space_free)))
    (i_Space_free : PySem.W.isFn K (.ref f_Space_free) = true)
    (l_Space_free : K.lookup f_Space_free = some ⟨oc_Space_free, od_Space_free, .func (PySem.W.fnOf "free" "Space.free" (defArgs s_Space_free) (defBody s_Space_free) (defScope s_Space_free) .none kV_Space_free dc_Space_free pm_Space_free an_Space_free cd_Space_free ct_Space_free), sl_Space_free⟩)
    (c_Space_free : PySem.W.codeIn K cd_Space_free "Space.free" = true)
    (k_Space_free : PySem.W.keepIn K (.ref f_Space_free) = true)
    (a_Store___init__ : PySem.W.findIn K (.ref C_Store) "__init__" = some (some (.ref f_Store___init__)))
    (i_Store___init__ : PySem.W.isFn K (.ref f_Store___init__) = true)
    (l_Store___init__ : K.lookup f_Store___init__ = some ⟨oc_Store___init__, od_Store___init__, .func (PySem.W.fnOf "__init__" "Store.__init__" (defArgs s_Store___init__) (defBody s_Store___init__) (defScope s_Store___init__) .none kV_Store___init__ dc_Store___init__ pm_Store___init__ an_Store___init__ cd_Store___init__ ct_Store___init__), sl_Store___init__⟩)
    (c_Store___init__ : PySem.W.codeIn K cd_Store___init__ "Store.__init__" = true)
    (k_Store___init__ : PySem.W.keepIn K (.ref f_Store___init__) = true)
    (a_Store_generation : PySem.W.findIn K (.ref C_Store) "generation" = some (some (.ref f_Store_generation)))
    (i_Store_generation : PySem.W.isFn K (.ref f_Store_generation) = true)
    (l_Store_generation : K.lookup f_Store_generation = some ⟨oc_Store_generation, od_Store_generation, .func (PySem.W.fnOf "generation" "Store.generation" (defArgs s_Store_generation) (defBody s_Store_generation) (defScope s_Store_generation) .none kV_Store_generation dc_Store_generation pm_Store_generation an_Store_generation cd_Store_generation ct_Store_generation), sl_Store_generation⟩)
    (c_Store_generation : PySem.W.codeIn K cd_Store_generation "Store.generation" = true)
    (k_Store_generation : PySem.W.keepIn K (.ref f_Store_generation) = true)
    (a_Store_use_reserve : PySem.W.findIn K (.ref C_Store) "use_reserve" = some (some (.ref f_Store_use_reserve)))
    (i_Store_use_reserve : PySem.W.isFn K (.ref f_Store_use_reserve) = true)
    (l_Store_use_reserve : K.lookup f_Store_use_reserve = some ⟨oc_Store_use_reserve, od_Store_use_reserve, .func (PySem.W.fnOf "use_reserve" "Store.use_reserve" (defArgs s_Store_use_reserve) (defBody s_Store_use_reserve) (defScope s_Store_use_reserve) .none kV_Store_use_reserve dc_Store_use_reserve pm_Store_use_reserve an_Store_use_reserve cd_Store_use_reserve ct_Store_use_reserve), sl_Store_use_reserve⟩)
    (c_Store_use_reserve : PySem.W.codeIn K cd_Store_use_reserve "Store.use_reserve" = true)
    (k_Store_use_reserve : PySem.W.keepIn K (.ref f_Store_use_reserve) = true)
    (a_Store_read : PySem.W.findIn K (.ref C_Store) "read" = some (some (.ref f_Store_read)))
    (i_Store_read : PySem.W.isFn K (.ref f_Store_read) = true)
    (l_Store_read : K.lookup f_Store_read = some ⟨oc_Store_read, od_Store_read, .func (PySem.W.fnOf "read" "Store.read" (defArgs s_Store_read) (defBody s_Store_read) (defScope s_Store_read) .none kV_Store_read dc_Store_read pm_Store_read an_Store_read cd_Store_read ct_Store_read), sl_Store_read⟩)
    (c_Store_read : PySem.W.codeIn K cd_Store_read "Store.read" = true)
    (k_Store_read : PySem.W.keepIn K (.ref f_Store_read) = true)
    (a_Store_next_pointer : PySem.W.findIn K (.ref C_Store) "next_pointer" = some (some (.ref f_Store_next_pointer)))
    (i_Store_next_pointer : PySem.W.isFn K (.ref f_Store_next_pointer) = true)
    (l_Store_next_pointer : K.lookup f_Store_next_pointer = some ⟨oc_Store_next_pointer, od_Store_next_pointer, .func (PySem.W.fnOf "next_pointer" "Store.next_pointer" (defArgs s_Store_next_pointer) (defBody s_Store_next_pointer) (defScope s_Store_next_pointer) .none kV_Store_next_pointer dc_Store_next_pointer pm_Store_next_pointer an_Store_next_pointer cd_Store_next_pointer ct_Store_next_pointer), sl_Store_next_pointer⟩)
    (c_Store_next_pointer : PySem.W.codeIn K cd_Store_next_pointer "Store.next_pointer" = true)
    (k_Store_next_pointer : PySem.W.keepIn K (.ref f_Store_next_pointer) = true)
    (a_Store_make : PySem.W.findIn K (.ref C_Store) "make" = some (some (.ref f_Store_make)))
    (i_Store_make : PySem.W.isFn K (.ref f_Store_make) = true)
    (l_Store_make : K.lookup f_Store_make = some ⟨oc_Store_make, od_Store_make, .func (PySem.W.fnOf "make" "Store.make" (defArgs s_Store_make) (defBody s_Store_make) (defScope s_Store_make) .none kV_Store_make dc_Store_make pm_Store_make an_Store_make cd_Store_make ct_Store_make), sl_Store_make⟩)
    (c_Store_make : PySem.W.codeIn K cd_Store_make "Store.make" = true)
    (k_Store_make : PySem.W.keepIn K (.ref f_Store_make) = true)
    (a_Store_is_new : PySem.W.findIn K (.ref C_Store) "is_new" = some (some (.ref f_Store_is_new)))
    (i_Store_is_new : PySem.W.isFn K (.ref f_Store_is_new) = true)
    (l_Store_is_new : K.lookup f_Store_is_new = some ⟨oc_Store_is_new, od_Store_is_new, .func (PySem.W.fnOf "is_new" "Store.is_new" (defArgs s_Store_is_new) (defBody s_Store_is_new) (defScope s_Store_is_new) .none kV_Store_is_new dc_Store_is_new pm_Store_is_new an_Store_is_new cd_Store_is_new ct_Store_is_new), sl_Store_is_new⟩)
    (c_Store_is_new : PySem.W.codeIn K cd_Store_is_new "Store.is_new" = true)
    (k_Store_is_new : PySem.W.keepIn K (.ref f_Store_is_new) = true)
    (a_Store_write : PySem.W.findIn K (.ref C_Store) "write" = some (some (.ref f_Store_write)))
    (i_Store_write : PySem.W.isFn K (.ref f_Store_write) = true)
    (l_Store_write : K.lookup f_Store_write = some ⟨oc_Store_write, od_Store_write, .func (PySem.W.fnOf "write" "Store.write" (defArgs s_Store_write) (defBody s_Store_write) (defScope s_Store_write) .none kV_Store_write dc_Store_write pm_Store_write an_Store_write cd_Store_write ct_Store_write), sl_Store_write⟩)
    (c_Store_write : PySem.W.codeIn K cd_Store_write "Store.write" = true)
    (k_Store_write : PySem.W.keepIn K (.ref f_Store_write) = true)
    (a_Store_share : PySem.W.findIn K (.ref C_Store) "share" = some (some (.ref f_Store_share)))
    (i_Store_share : PySem.W.isFn K (.ref f_Store_share) = true)
    (l_Store_share : K.lookup f_Store_share = some ⟨oc_Store_share, od_Store_share, .func (PySem.W.fnOf "share" "Store.share" (defArgs s_Store_share) (defBody s_Store_share) (defScope s_Store_share) .none kV_Store_share dc_Store_share pm_Store_share an_Store_share cd_Store_share ct_Store_share), sl_Store_share⟩)
    (c_Store_share : PySem.W.codeIn K cd_Store_share "Store.share" = true)
    (k_Store_share : PySem.W.keepIn K (.ref f_Store_share) = true)
    (a_Store_drop : PySem.W.findIn K (.ref C_Store) "drop" = some (some (.ref f_Store_drop)))
    (i_Store_drop : PySem.W.isFn K (.ref f_Store_drop) = true)
    (l_Store_drop : K.lookup f_Store_drop = some ⟨oc_Store_drop, od_Store_drop, .func (PySem.W.fnOf "drop" "Store.drop" (defArgs s_Store_drop) (defBody s_Store_drop) (defScope s_Store_drop) .none kV_Store_drop dc_Store_drop pm_Store_drop an_Store_drop cd_Store_drop ct_Store_drop), sl_Store_drop⟩)
    (c_Store_drop : PySem.W.codeIn K cd_Store_drop "Store.drop" = true)
    (k_Store_drop : PySem.W.keepIn K (.ref f_Store_drop) = true)
    (a_Store_uses : PySem.W.findIn K (.ref C_Store) "uses" = some (some (.ref f_Store_uses)))
    (i_Store_uses : PySem.W.isFn K (.ref f_Store_uses) = true)
    (l_Store_uses : K.lookup f_Store_uses = some ⟨oc_Store_uses, od_Store_uses, .func (PySem.W.fnOf "uses" "Store.uses" (defArgs s_Store_uses) (defBody s_Store_uses) (defScope s_Store_uses) .none kV_Store_uses dc_Store_uses pm_Store_uses an_Store_uses cd_Store_uses ct_Store_uses), sl_Store_uses⟩)
    (c_Store_uses : PySem.W.codeIn K cd_Store_uses "Store.uses" = true)
    (k_Store_uses : PySem.W.keepIn K (.ref f_Store_uses) = true)
    (a_Store_require : PySem.W.findIn K (.ref C_Store) "require" = some (some (.ref f_Store_require)))
    (i_Store_require : PySem.W.isFn K (.ref f_Store_require) = true)
    (l_Store_require : K.lookup f_Store_require = some ⟨oc_Store_require, od_Store_require, .func (PySem.W.fnOf "require" "Store.require" (defArgs s_Store_require) (defBody s_Store_require) (defScope s_Store_require) .none kV_Store_require dc_Store_require pm_Store_require an_Store_require cd_Store_require ct_Store_require), sl_Store_require⟩)
    (c_Store_require : PySem.W.codeIn K cd_Store_require "Store.require" = true)
    (k_Store_require : PySem.W.keepIn K (.ref f_Store_require) = true)
    (a_Store_free : PySem.W.findIn K (.ref C_Store) "free" = some (some (.ref f_Store_free)))
    (i_Store_free : PySem.W.isFn K (.ref f_Store_free) = true)
    (l_Store_free : K.lookup f_Store_free = some ⟨oc_Store_free, od_Store_free, .func (PySem.W.fnOf "free" "Store.free" (defArgs s_Store_free) (defBody s_Store_free) (defScope s_Store_free) .none kV_Store_free dc_Store_free pm_Store_free an_Store_free cd_Store_free ct_Store_free), sl_Store_free⟩)
    (c_Store_free : PySem.W.codeIn K cd_Store_free "Store.free" = true)
    (k_Store_free : PySem.W.keepIn K (.ref f_Store_free) = true)
    (a_Store_new_blocks : PySem.W.findIn K (.ref C_Store) "new_blocks" = some (some (.ref f_Store_new_blocks)))
    (i_Store_new_blocks : PySem.W.isFn K (.ref f_Store_new_blocks) = true)
    (l_Store_new_blocks : K.lookup f_Store_new_blocks = some ⟨oc_Store_new_blocks, od_Store_new_blocks, .func (PySem.W.fnOf "new_blocks" "Store.new_blocks" (defArgs s_Store_new_blocks) (defBody s_Store_new_blocks) (defScope s_Store_new_blocks) .none kV_Store_new_blocks dc_Store_new_blocks pm_Store_new_blocks an_Store_new_blocks cd_Store_new_blocks ct_Store_new_blocks), sl_Store_new_blocks⟩)
    (c_Store_new_blocks : PySem.W.codeIn K cd_Store_new_blocks "Store.new_blocks" = true)
    (k_Store_new_blocks : PySem.W.keepIn K (.ref f_Store_new_blocks) = true)
    (a__law_tape : PySem.W.nsIn K mainGlobals "_law_tape" = some (some (.ref f__law_tape)))
    (l__law_tape : K.lookup f__law_tape = some ⟨oc__law_tape, od__law_tape, .func (PySem.W.fnOf "_law_tape" "_law_tape" (defArgs s__law_tape) (defBody s__law_tape) (defScope s__law_tape) .none kV__law_tape dc__law_tape pm__law_tape an__law_tape cd__law_tape ct__law_tape), sl__law_tape⟩)
    (c__law_tape : PySem.W.codeIn K cd__law_tape "_law_tape" = true)
    (k__law_tape : PySem.W.keepIn K (.ref f__law_tape) = true)
    (a__law_at : PySem.W.nsIn K mainGlobals "_law_at" = some (some (.ref f__law_at)))
    (l__law_at : K.lookup f__law_at = some ⟨oc__law_at, od__law_at, .func (PySem.W.fnOf "_law_at" "_law_at" (defArgs s__law_at) (defBody s__law_at) (defScope s__law_at) .none kV__law_at dc__law_at pm__law_at an__law_at cd__law_at ct__law_at), sl__law_at⟩)
    (c__law_at : PySem.W.codeIn K cd__law_at "_law_at" = true)
    (k__law_at : PySem.W.keepIn K (.ref f__law_at) = true)
    (a__law_block : PySem.W.nsIn K mainGlobals "_law_block" = some (some (.ref f__law_block)))
    (l__law_block : K.lookup f__law_block = some ⟨oc__law_block, od__law_block, .func (PySem.W.fnOf "_law_block" "_law_block" (defArgs s__law_block) (defBody s__law_block) (defScope s__law_block) .none kV__law_block dc__law_block pm__law_block an__law_block cd__law_block ct__law_block), sl__law_block⟩)
    (c__law_block : PySem.W.codeIn K cd__law_block "_law_block" = true)
    (k__law_block : PySem.W.keepIn K (.ref f__law_block) = true)
    (a__law_is_block : PySem.W.nsIn K mainGlobals "_law_is_block" = some (some (.ref f__law_is_block)))
    (l__law_is_block : K.lookup f__law_is_block = some ⟨oc__law_is_block, od__law_is_block, .func (PySem.W.fnOf "_law_is_block" "_law_is_block" (defArgs s__law_is_block) (defBody s__law_is_block) (defScope s__law_is_block) .none kV__law_is_block dc__law_is_block pm__law_is_block an__law_is_block cd__law_is_block ct__law_is_block), sl__law_is_block⟩)
    (c__law_is_block : PySem.W.codeIn K cd__law_is_block "_law_is_block" = true)
    (k__law_is_block : PySem.W.keepIn K (.ref f__law_is_block) = true)
    (a__law_put_block : PySem.W.nsIn K mainGlobals "_law_put_block" = some (some (.ref f__law_put_block)))
    (l__law_put_block : K.lookup f__law_put_block = some ⟨oc__law_put_block, od__law_put_block, .func (PySem.W.fnOf "_law_put_block" "_law_put_block" (defArgs s__law_put_block) (defBody s__law_put_block) (defScope s__law_put_block) .none kV__law_put_block dc__law_put_block pm__law_put_block an__law_put_block cd__law_put_block ct__law_put_block), sl__law_put_block⟩)
    (c__law_put_block : PySem.W.codeIn K cd__law_put_block "_law_put_block" = true)
    (k__law_put_block : PySem.W.keepIn K (.ref f__law_put_block) = true)
    (a__law_do : PySem.W.nsIn K mainGlobals "_law_do" = some (some (.ref f__law_do)))
    (l__law_do : K.lookup f__law_do = some ⟨oc__law_do, od__law_do, .func (PySem.W.fnOf "_law_do" "_law_do" (defArgs s__law_do) (defBody s__law_do) (defScope s__law_do) .none kV__law_do dc__law_do pm__law_do an__law_do cd__law_do ct__law_do), sl__law_do⟩)
    (c__law_do : PySem.W.codeIn K cd__law_do "_law_do" = true)
    (k__law_do : PySem.W.keepIn K (.ref f__law_do) = true)
    (a__law_free : PySem.W.nsIn K mainGlobals "_law_free" = some (some (.ref f__law_free)))
    (l__law_free : K.lookup f__law_free = some ⟨oc__law_free, od__law_free, .func (PySem.W.fnOf "_law_free" "_law_free" (defArgs s__law_free) (defBody s__law_free) (defScope s__law_free) .none kV__law_free dc__law_free pm__law_free an__law_free cd__law_free ct__law_free), sl__law_free⟩)
    (c__law_free : PySem.W.codeIn K cd__law_free "_law_free" = true)
    (k__law_free : PySem.W.keepIn K (.ref f__law_free) = true)
    (a__law_due : PySem.W.nsIn K mainGlobals "_law_due" = some (some (.ref f__law_due)))
    (l__law_due : K.lookup f__law_due = some ⟨oc__law_due, od__law_due, .func (PySem.W.fnOf "_law_due" "_law_due" (defArgs s__law_due) (defBody s__law_due) (defScope s__law_due) .none kV__law_due dc__law_due pm__law_due an__law_due cd__law_due ct__law_due), sl__law_due⟩)
    (c__law_due : PySem.W.codeIn K cd__law_due "_law_due" = true)
    (k__law_due : PySem.W.keepIn K (.ref f__law_due) = true)
    (a__law_same : PySem.W.nsIn K mainGlobals "_law_same" = some (some (.ref f__law_same)))
    (l__law_same : K.lookup f__law_same = some ⟨oc__law_same, od__law_same, .func (PySem.W.fnOf "_law_same" "_law_same" (defArgs s__law_same) (defBody s__law_same) (defScope s__law_same) .none kV__law_same dc__law_same pm__law_same an__law_same cd__law_same ct__law_same), sl__law_same⟩)
    (c__law_same : PySem.W.codeIn K cd__law_same "_law_same" = true)
    (k__law_same : PySem.W.keepIn K (.ref f__law_same) = true)
    (a__law_make : PySem.W.nsIn K mainGlobals "_law_make" = some (some (.ref f__law_make)))
    (l__law_make : K.lookup f__law_make = some ⟨oc__law_make, od__law_make, .func (PySem.W.fnOf "_law_make" "_law_make" (defArgs s__law_make) (defBody s__law_make) (defScope s__law_make) .none kV__law_make dc__law_make pm__law_make an__law_make cd__law_make ct__law_make), sl__law_make⟩)
    (c__law_make : PySem.W.codeIn K cd__law_make "_law_make" = true)
    (k__law_make : PySem.W.keepIn K (.ref f__law_make) = true)
    (a__law_old : PySem.W.nsIn K mainGlobals "_law_old" = some (some (.ref f__law_old)))
    (l__law_old : K.lookup f__law_old = some ⟨oc__law_old, od__law_old, .func (PySem.W.fnOf "_law_old" "_law_old" (defArgs s__law_old) (defBody s__law_old) (defScope s__law_old) .none kV__law_old dc__law_old pm__law_old an__law_old cd__law_old ct__law_old), sl__law_old⟩)
    (c__law_old : PySem.W.codeIn K cd__law_old "_law_old" = true)
    (k__law_old : PySem.W.keepIn K (.ref f__law_old) = true)
    (a__law_end : PySem.W.nsIn K mainGlobals "_law_end" = some (some (.ref f__law_end)))
    (l__law_end : K.lookup f__law_end = some ⟨oc__law_end, od__law_end, .func (PySem.W.fnOf "_law_end" "_law_end" (defArgs s__law_end) (defBody s__law_end) (defScope s__law_end) .none kV__law_end dc__law_end pm__law_end an__law_end cd__law_end ct__law_end), sl__law_end⟩)
    (c__law_end : PySem.W.codeIn K cd__law_end "_law_end" = true)
    (k__law_end : PySem.W.keepIn K (.ref f__law_end) = true)
    (a_law : PySem.W.nsIn K mainGlobals "law" = some (some (.ref f_law)))
    (l_law : K.lookup f_law = some ⟨oc_law, od_law, .func (PySem.W.fnOf "law" "law" (defArgs s_law) (defBody s_law) (defScope s_law) .none kV_law dc_law pm_law an_law cd_law ct_law), sl_law⟩)
    (c_law : PySem.W.codeIn K cd_law "law" = true)
    (k_law : PySem.W.keepIn K (.ref f_law) = true)
    (pg_Disk : PySem.W.plainGet K C_Disk Str.empty = true)
    (hd_Disk : PySem.W.hasDictIn K C_Disk = true)
    (po_Disk : PySem.W.plainOver K C_Disk = true)
    (sa_Disk : PySem.W.findIn K (.ref C_Disk) "__setattr__" = some (some (.builtin "object.__setattr__")))
    (mk_Disk : PySem.W.makesIn K C_Disk = true)
    (kc_Disk : PySem.W.keepIn K (.ref C_Disk) = true)
    (pg_Head : PySem.W.plainGet K C_Head Str.empty = true)
    (hd_Head : PySem.W.hasDictIn K C_Head = true)
    (po_Head : PySem.W.plainOver K C_Head = true)
    (sa_Head : PySem.W.findIn K (.ref C_Head) "__setattr__" = some (some (.builtin "object.__setattr__")))
    (mk_Head : PySem.W.makesIn K C_Head = true)
    (kc_Head : PySem.W.keepIn K (.ref C_Head) = true)
    (pg_Space : PySem.W.plainGet K C_Space Str.empty = true)
    (hd_Space : PySem.W.hasDictIn K C_Space = true)
    (po_Space : PySem.W.plainOver K C_Space = true)
    (sa_Space : PySem.W.findIn K (.ref C_Space) "__setattr__" = some (some (.builtin "object.__setattr__")))
    (mk_Space : PySem.W.makesIn K C_Space = true)
    (kc_Space : PySem.W.keepIn K (.ref C_Space) = true)
    (pg_Store : PySem.W.plainGet K C_Store Str.empty = true)
    (hd_Store : PySem.W.hasDictIn K C_Store = true)
    (po_Store : PySem.W.plainOver K C_Store = true)
    (sa_Store : PySem.W.findIn K (.ref C_Store) "__setattr__" = some (some (.builtin "object.__setattr__")))
    (mk_Store : PySem.W.makesIn K C_Store = true)
    (kc_Store : PySem.W.keepIn K (.ref C_Store) = true)
    (n_abs : PySem.W.nsIn K mainGlobals "abs" = some none)
    (n_bool : PySem.W.nsIn K mainGlobals "bool" = some none)
    (n_int : PySem.W.nsIn K mainGlobals "int" = some none)
    (n_isinstance : PySem.W.nsIn K mainGlobals "isinstance" = some none)
    (n_len : PySem.W.nsIn K mainGlobals "len" = some none)
    (n_list : PySem.W.nsIn K mainGlobals "list" = some none)
    (n_max : PySem.W.nsIn K mainGlobals "max" = some none)
    (n_min : PySem.W.nsIn K mainGlobals "min" = some none)
    (n_range : PySem.W.nsIn K mainGlobals "range" = some none)
    (n_sorted : PySem.W.nsIn K mainGlobals "sorted" = some none)
    (n_tuple : PySem.W.nsIn K mainGlobals "tuple" = some none)
    (n_zip : PySem.W.nsIn K mainGlobals "zip" = some none)
    (kc_ADD : PySem.W.nsIn K mainGlobals "ADD" = some (some (.int 60 t_ADD)))
    (kc_BLOCK_SECTORS : PySem.W.nsIn K mainGlobals "BLOCK_SECTORS" = some (some (.int 4 t_BLOCK_SECTORS)))
    (kc_BLOCK_WORDS : PySem.W.nsIn K mainGlobals "BLOCK_WORDS" = some (some (.int 32 t_BLOCK_WORDS)))
    (kc_FIRST_BLOCK : PySem.W.nsIn K mainGlobals "FIRST_BLOCK" = some (some (.int 5 t_FIRST_BLOCK)))
    (kc_MAX_BLOCKS : PySem.W.nsIn K mainGlobals "MAX_BLOCKS" = some (some (.int 256 t_MAX_BLOCKS)))
    (kc_MIN_BLOCKS : PySem.W.nsIn K mainGlobals "MIN_BLOCKS" = some (some (.int 96 t_MIN_BLOCKS)))
    (kc_SECTOR_WORDS : PySem.W.nsIn K mainGlobals "SECTOR_WORDS" = some (some (.int 8 t_SECTOR_WORDS)))
    (ex_LaminaError : PySem.W.excIn K C_LaminaError [.type "ValueError", .type "Exception", .type "BaseException", .type "object"] "ValueError.__new__" = true)
    (kc_LaminaError : PySem.W.keepIn K (.ref C_LaminaError) = true)
    (sb_LaminaError : PySem.W.subIn K (.ref C_LaminaError) (.type "BaseException") = some true)
    (ty_LaminaError : PySem.W.typeIn K (.ref C_LaminaError) = some (.type "type"))
    (ex_NoSpace : PySem.W.excIn K C_NoSpace [.type "ValueError", .type "Exception", .type "BaseException", .type "object"] "ValueError.__new__" = true)
    (kc_NoSpace : PySem.W.keepIn K (.ref C_NoSpace) = true)
    (sb_NoSpace : PySem.W.subIn K (.ref C_NoSpace) (.type "BaseException") = some true)
    (ty_NoSpace : PySem.W.typeIn K (.ref C_NoSpace) = some (.type "type"))
    (ex_NotValid : PySem.W.excIn K C_NotValid [.type "ValueError", .type "Exception", .type "BaseException", .type "object"] "ValueError.__new__" = true)
    (kc_NotValid : PySem.W.keepIn K (.ref C_NotValid) = true)
    (sb_NotValid : PySem.W.subIn K (.ref C_NotValid) (.type "BaseException") = some true)
    (ty_NotValid : PySem.W.typeIn K (.ref C_NotValid) = some (.type "type"))
    (ex_PowerOff : PySem.W.excIn K C_PowerOff [.type "ValueError", .type "Exception", .type "BaseException", .type "object"] "ValueError.__new__" = true)
    (kc_PowerOff : PySem.W.keepIn K (.ref C_PowerOff) = true)
    (sb_PowerOff : PySem.W.subIn K (.ref C_PowerOff) (.type "BaseException") = some true)
    (ty_PowerOff : PySem.W.typeIn K (.ref C_PowerOff) = some (.type "type"))
    (nf_Disk_blocks : PySem.W.findIn K (.ref C_Disk) "blocks" = some none)
    (nf_Disk_left : PySem.W.findIn K (.ref C_Disk) "left" = some none)
    (nf_Disk_newest : PySem.W.findIn K (.ref C_Disk) "newest" = some none)
    (nf_Disk_power : PySem.W.findIn K (.ref C_Disk) "power" = some none)
    (nf_Disk_sectors : PySem.W.findIn K (.ref C_Disk) "sectors" = some none)
    (nf_Disk_writes : PySem.W.findIn K (.ref C_Disk) "writes" = some none)
    (nf_Head_blocks : PySem.W.findIn K (.ref C_Head) "blocks" = some none)
    (nf_Head_generation : PySem.W.findIn K (.ref C_Head) "generation" = some none)
    (nf_Head_table : PySem.W.findIn K (.ref C_Head) "table" = some none)
    (nf_Space_blocks : PySem.W.findIn K (.ref C_Space) "blocks" = some none)
    (nf_Space_held : PySem.W.findIn K (.ref C_Space) "held" = some none)
    (nf_Space_low : PySem.W.findIn K (.ref C_Space) "low" = some none)
    (nf_Space_numbers : PySem.W.findIn K (.ref C_Space) "numbers" = some none)
    (nf_Space_spare : PySem.W.findIn K (.ref C_Space) "spare" = some none)
    (nf_Store_disk : PySem.W.findIn K (.ref C_Store) "disk" = some none)
    (nf_Store_head : PySem.W.findIn K (.ref C_Store) "head" = some none)
    (nf_Store_memory : PySem.W.findIn K (.ref C_Store) "memory" = some none)
    (nf_Store_reserve : PySem.W.findIn K (.ref C_Store) "reserve" = some none)
    (nf_Store_space : PySem.W.findIn K (.ref C_Store) "space" = some none)
    (nf_Store_table : PySem.W.findIn K (.ref C_Store) "table" = some none)
    (su_LaminaError_LaminaError : PySem.W.subIn K (.ref C_LaminaError) (.ref C_LaminaError) = some true)
    (su_LaminaError_NoSpace : PySem.W.subIn K (.ref C_LaminaError) (.ref C_NoSpace) = some false)
    (su_LaminaError_NotValid : PySem.W.subIn K (.ref C_LaminaError) (.ref C_NotValid) = some false)
    (su_NoSpace_LaminaError : PySem.W.subIn K (.ref C_NoSpace) (.ref C_LaminaError) = some true)
    (su_NoSpace_NotValid : PySem.W.subIn K (.ref C_NoSpace) (.ref C_NotValid) = some false)
    (su_NotValid_LaminaError : PySem.W.subIn K (.ref C_NotValid) (.ref C_LaminaError) = some true)
    (su_NotValid_NoSpace : PySem.W.subIn K (.ref C_NotValid) (.ref C_NoSpace) = some false)
    (su_PowerOff_LaminaError : PySem.W.subIn K (.ref C_PowerOff) (.ref C_LaminaError) = some true)
    (su_PowerOff_NoSpace : PySem.W.subIn K (.ref C_PowerOff) (.ref C_NoSpace) = some false)
    (su_PowerOff_NotValid : PySem.W.subIn K (.ref C_PowerOff) (.ref C_NotValid) = some false)
    (hx_LaminaError : PySem.W.hasDictIn K C_LaminaError = true)
    (hx_NoSpace : PySem.W.hasDictIn K C_NoSpace = true)
    (hx_NotValid : PySem.W.hasDictIn K C_NotValid = true)
    (hx_PowerOff : PySem.W.hasDictIn K C_PowerOff = true)
    (ne_LaminaError_NotValid : (Value.ref C_LaminaError == Value.ref C_NotValid) = false)
    (ne_PowerOff_NotValid : (Value.ref C_PowerOff == Value.ref C_NotValid) = false)
    (ne_NoSpace_NotValid : (Value.ref C_NoSpace == Value.ref C_NotValid) = false)
    (ne_LaminaError_NoSpace : (Value.ref C_LaminaError == Value.ref C_NoSpace) = false)
    (ne_NotValid_NoSpace : (Value.ref C_NotValid == Value.ref C_NoSpace) = false)
    (ne_PowerOff_NoSpace : (Value.ref C_PowerOff == Value.ref C_NoSpace) = false)
    (ga_LaminaError : PySem.W.findIn K (.ref C_LaminaError) "__getattribute__" = some (some (.builtin "BaseException.__getattribute__")))
    (gg_LaminaError : PySem.W.findIn K (.ref C_LaminaError) "__getattr__" = some none)
    (cl_LaminaError : PySem.W.findIn K (.ref C_LaminaError) "__class__" = some (some (.builtin "object.__class__")))
    (om_LaminaError : PySem.W.mroIn K C_LaminaError (.type "object") = some true)
    (ga_NotValid : PySem.W.findIn K (.ref C_NotValid) "__getattribute__" = some (some (.builtin "BaseException.__getattribute__")))
    (gg_NotValid : PySem.W.findIn K (.ref C_NotValid) "__getattr__" = some none)
    (cl_NotValid : PySem.W.findIn K (.ref C_NotValid) "__class__" = some (some (.builtin "object.__class__")))
    (om_NotValid : PySem.W.mroIn K C_NotValid (.type "object") = some true)
    (ga_PowerOff : PySem.W.findIn K (.ref C_PowerOff) "__getattribute__" = some (some (.builtin "BaseException.__getattribute__")))
    (gg_PowerOff : PySem.W.findIn K (.ref C_PowerOff) "__getattr__" = some none)
    (cl_PowerOff : PySem.W.findIn K (.ref C_PowerOff) "__class__" = some (some (.builtin "object.__class__")))
    (om_PowerOff : PySem.W.mroIn K C_PowerOff (.type "object") = some true)
    (ga_NoSpace : PySem.W.findIn K (.ref C_NoSpace) "__getattribute__" = some (some (.builtin "BaseException.__getattribute__")))
    (gg_NoSpace : PySem.W.findIn K (.ref C_NoSpace) "__getattr__" = some none)
    (cl_NoSpace : PySem.W.findIn K (.ref C_NoSpace) "__class__" = some (some (.builtin "object.__class__")))
    (om_NoSpace : PySem.W.mroIn K C_NoSpace (.type "object") = some true)
    (sp_cls : PySem.W.specialIn K (.builtin "object.__class__") "__get__" = some (some (.builtin "getset_descriptor.__get__")))
    (tk_cls : PySem.W.takesIn K (.builtin "object.__class__") = some true) :
    ∃ fd : FuncData, (∀ (s : Shared) (v : Value), BindsTo s fd ⟨[v], []⟩ [("_law_script", v)]) ∧ ∀ base : Heap, K.In base → base.Ns mainGlobals mg → FnOk P w K mg base (L2.CX P w) 8 fa fd ["_law_script"] (spLaw K) := by
  have e := hfa.symm.trans (PySem.W.mg_of X G a_law)
  cases e
  have F_is_between := fun_mk (st := s_is_between) l_is_between c_is_between k_is_between
  have F_is_word := fun_mk (st := s_is_word) l_is_word c_is_word k_is_word
  have F_are_words := fun_mk (st := s_are_words) l_are_words c_are_words k_are_words
  have F_Disk___init__ := fun_mk (st := s_Disk___init__) l_Disk___init__ c_Disk___init__ k_Disk___init__
  have F_Disk_read := fun_mk (st := s_Disk_read) l_Disk_read c_Disk_read k_Disk_read
  have F_Disk_operate := fun_mk (st := s_Disk_operate) l_Disk_operate c_Disk_operate k_Disk_operate
  have F_Disk_write := fun_mk (st := s_Disk_write) l_Disk_write c_Disk_write k_Disk_write
  have F_Disk_flush := fun_mk (st := s_Disk_flush) l_Disk_flush c_Disk_flush k_Disk_flush
  have F_Disk_waiting := fun_mk (st := s_Disk_waiting) l_Disk_waiting c_Disk_waiting k_Disk_waiting
  have F_Disk_image := fun_mk (st := s_Disk_image) l_Disk_image c_Disk_image k_Disk_image
  have F_Disk_lasting := fun_mk (st := s_Disk_lasting) l_Disk_lasting c_Disk_lasting k_Disk_lasting
  have F_Head___init__ := fun_mk (st := s_Head___init__) l_Head___init__ c_Head___init__ k_Head___init__
  have F_Space___init__ := fun_mk (st := s_Space___init__) l_Space___init__ c_Space___init__ k_Space___init__
  have F_Space_count_spare := fun_mk (st := s_Space_count_spare) l_Space_count_spare c_Space_count_spare k_Space_count_spare
  have F_Space_check_block := fun_mk (st := s_Space_check_block) l_Space_check_block c_Space_check_block k_Space_check_block
  have F_Space_least_free := fun_mk (st := s_Space_least_free) l_Space_least_free c_Space_least_free k_Space_least_free
  have F_Space_take := fun_mk (st := s_Space_take) l_Space_take c_Space_take k_Space_take
  have F_Space_share := fun_mk (st := s_Space_share) l_Space_share c_Space_share k_Space_share
  have F_Space_drop := fun_mk (st := s_Space_drop) l_Space_drop c_Space_drop k_Space_drop
  have F_Space_uses := fun_mk (st := s_Space_uses) l_Space_uses c_Space_uses k_Space_uses
  have F_Space_is_new := fun_mk (st := s_Space_is_new) l_Space_is_new c_Space_is_new k_Space_is_new
  have F_Space_is_free := fun_mk (st := s_Space_is_free) l_Space_is_free c_Space_is_free k_Space_is_free
  have F_Space_free := fun_mk (st := s_Space_free) l_Space_free c_Space_free k_Space_free
  have F_Store___init__ := fun_mk (st := s_Store___init__) l_Store___init__ c_Store___init__ k_Store___init__
  have F_Store_generation := fun_mk (st := s_Store_generation) l_Store_generation c_Store_generation k_Store_generation
  have F_Store_use_reserve := fun_mk (st := s_Store_use_reserve) l_Store_use_reserve c_Store_use_reserve k_Store_use_reserve
  have F_Store_read := fun_mk (st := s_Store_read) l_Store_read c_Store_read k_Store_read
  have F_Store_next_pointer := fun_mk (st := s_Store_next_pointer) l_Store_next_pointer c_Store_next_pointer k_Store_next_pointer
  have F_Store_make := fun_mk (st := s_Store_make) l_Store_make c_Store_make k_Store_make
  have F_Store_is_new := fun_mk (st := s_Store_is_new) l_Store_is_new c_Store_is_new k_Store_is_new
  have F_Store_write := fun_mk (st := s_Store_write) l_Store_write c_Store_write k_Store_write
  have F_Store_share := fun_mk (st := s_Store_share) l_Store_share c_Store_share k_Store_share
  have F_Store_drop := fun_mk (st := s_Store_drop) l_Store_drop c_Store_drop k_Store_drop
  have F_Store_uses := fun_mk (st := s_Store_uses) l_Store_uses c_Store_uses k_Store_uses
  have F_Store_require := fun_mk (st := s_Store_require) l_Store_require c_Store_require k_Store_require
  have F_Store_free := fun_mk (st := s_Store_free) l_Store_free c_Store_free k_Store_free
  have F_Store_new_blocks := fun_mk (st := s_Store_new_blocks) l_Store_new_blocks c_Store_new_blocks k_Store_new_blocks
  have F__law_tape := fun_mk (st := s__law_tape) l__law_tape c__law_tape k__law_tape
  have F__law_at := fun_mk (st := s__law_at) l__law_at c__law_at k__law_at
  have F__law_block := fun_mk (st := s__law_block) l__law_block c__law_block k__law_block
  have F__law_is_block := fun_mk (st := s__law_is_block) l__law_is_block c__law_is_block k__law_is_block
  have F__law_put_block := fun_mk (st := s__law_put_block) l__law_put_block c__law_put_block k__law_put_block
  have F__law_do := fun_mk (st := s__law_do) l__law_do c__law_do k__law_do
  have F__law_free := fun_mk (st := s__law_free) l__law_free c__law_free k__law_free
  have F__law_due := fun_mk (st := s__law_due) l__law_due c__law_due k__law_due
  have F__law_same := fun_mk (st := s__law_same) l__law_same c__law_same k__law_same
  have F__law_make := fun_mk (st := s__law_make) l__law_make c__law_make k__law_make
  have F__law_old := fun_mk (st := s__law_old) l__law_old c__law_old k__law_old
  have F__law_end := fun_mk (st := s__law_end) l__law_end c__law_end k__law_end
  have F_law := fun_mk (st := s_law) l_law c_law k_law
  let A : Adr := {
    ex := { ({ } : Ex) with Disk := C_Disk, Head := C_Head, Space := C_Space, Store := C_Store, LaminaError := C_LaminaError, NotValid := C_NotValid, PowerOff := C_PowerOff, NoSpace := C_NoSpace },
    f_is_between := f_is_between, d_is_between := PySem.W.fnOf "is_between" "is_between" (defArgs s_is_between) (defBody s_is_between) (defScope s_is_between) .none kV_is_between dc_is_between pm_is_between an_is_between cd_is_between ct_is_between,
    f_is_word := f_is_word, d_is_word := PySem.W.fnOf "is_word" "is_word" (defArgs s_is_word) (defBody s_is_word) (defScope s_is_word) .none kV_is_word dc_is_word pm_is_word an_is_word cd_is_word ct_is_word,
    f_are_words := f_are_words, d_are_words := PySem.W.fnOf "are_words" "are_words" (defArgs s_are_words) (defBody s_are_words) (defScope s_are_words) .none kV_are_words dc_are_words pm_are_words an_are_words cd_are_words ct_are_words,
    f_Disk___init__ := f_Disk___init__, d_Disk___init__ := PySem.W.fnOf "__init__" "Disk.__init__" (defArgs s_Disk___init__) (defBody s_Disk___init__) (defScope s_Disk___init__) .none kV_Disk___init__ dc_Disk___init__ pm_Disk___init__ an_Disk___init__ cd_Disk___init__ ct_Disk___init__,
    f_Disk_read := f_Disk_read, d_Disk_read := PySem.W.fnOf "read" "Disk.read" (defArgs s_Disk_read) (defBody s_Disk_read) (defScope s_Disk_read) .none kV_Disk_read dc_Disk_read pm_Disk_read an_Disk_read cd_Disk_read ct_Disk_read,
    f_Disk_operate := f_Disk_operate, d_Disk_operate := PySem.W.fnOf "operate" "Disk.operate" (defArgs s_Disk_operate) (defBody s_Disk_operate) (defScope s_Disk_operate) .none kV_Disk_operate dc_Disk_operate pm_Disk_operate an_Disk_operate cd_Disk_operate ct_Disk_operate,
    f_Disk_write := f_Disk_write, d_Disk_write := PySem.W.fnOf "write" "Disk.write" (defArgs s_Disk_write) (defBody s_Disk_write) (defScope s_Disk_write) .none kV_Disk_write dc_Disk_write pm_Disk_write an_Disk_write cd_Disk_write ct_Disk_write,
    f_Disk_flush := f_Disk_flush, d_Disk_flush := PySem.W.fnOf "flush" "Disk.flush" (defArgs s_Disk_flush) (defBody s_Disk_flush) (defScope s_Disk_flush) .none kV_Disk_flush dc_Disk_flush pm_Disk_flush an_Disk_flush cd_Disk_flush ct_Disk_flush,
    f_Disk_waiting := f_Disk_waiting, d_Disk_waiting := PySem.W.fnOf "waiting" "Disk.waiting" (defArgs s_Disk_waiting) (defBody s_Disk_waiting) (defScope s_Disk_waiting) .none kV_Disk_waiting dc_Disk_waiting pm_Disk_waiting an_Disk_waiting cd_Disk_waiting ct_Disk_waiting,
    f_Disk_image := f_Disk_image, d_Disk_image := PySem.W.fnOf "image" "Disk.image" (defArgs s_Disk_image) (defBody s_Disk_image) (defScope s_Disk_image) .none kV_Disk_image dc_Disk_image pm_Disk_image an_Disk_image cd_Disk_image ct_Disk_image,
    f_Disk_lasting := f_Disk_lasting, d_Disk_lasting := PySem.W.fnOf "lasting" "Disk.lasting" (defArgs s_Disk_lasting) (defBody s_Disk_lasting) (defScope s_Disk_lasting) .none kV_Disk_lasting dc_Disk_lasting pm_Disk_lasting an_Disk_lasting cd_Disk_lasting ct_Disk_lasting,
    f_Head___init__ := f_Head___init__, d_Head___init__ := PySem.W.fnOf "__init__" "Head.__init__" (defArgs s_Head___init__) (defBody s_Head___init__) (defScope s_Head___init__) .none kV_Head___init__ dc_Head___init__ pm_Head___init__ an_Head___init__ cd_Head___init__ ct_Head___init__,
    f_Space___init__ := f_Space___init__, d_Space___init__ := PySem.W.fnOf "__init__" "Space.__init__" (defArgs s_Space___init__) (defBody s_Space___init__) (defScope s_Space___init__) .none kV_Space___init__ dc_Space___init__ pm_Space___init__ an_Space___init__ cd_Space___init__ ct_Space___init__,
    f_Space_count_spare := f_Space_count_spare, d_Space_count_spare := PySem.W.fnOf "count_spare" "Space.count_spare" (defArgs s_Space_count_spare) (defBody s_Space_count_spare) (defScope s_Space_count_spare) .none kV_Space_count_spare dc_Space_count_spare pm_Space_count_spare an_Space_count_spare cd_Space_count_spare ct_Space_count_spare,
    f_Space_check_block := f_Space_check_block, d_Space_check_block := PySem.W.fnOf "check_block" "Space.check_block" (defArgs s_Space_check_block) (defBody s_Space_check_block) (defScope s_Space_check_block) .none kV_Space_check_block dc_Space_check_block pm_Space_check_block an_Space_check_block cd_Space_check_block ct_Space_check_block,
    f_Space_least_free := f_Space_least_free, d_Space_least_free := PySem.W.fnOf "least_free" "Space.least_free" (defArgs s_Space_least_free) (defBody s_Space_least_free) (defScope s_Space_least_free) .none kV_Space_least_free dc_Space_least_free pm_Space_least_free an_Space_least_free cd_Space_least_free ct_Space_least_free,
    f_Space_take := f_Space_take, d_Space_take := PySem.W.fnOf "take" "Space.take" (defArgs s_Space_take) (defBody s_Space_take) (defScope s_Space_take) .none kV_Space_take dc_Space_take pm_Space_take an_Space_take cd_Space_take ct_Space_take,
    f_Space_share := f_Space_share, d_Space_share := PySem.W.fnOf "share" "Space.share" (defArgs s_Space_share) (defBody s_Space_share) (defScope s_Space_share) .none kV_Space_share dc_Space_share pm_Space_share an_Space_share cd_Space_share ct_Space_share,
    f_Space_drop := f_Space_drop, d_Space_drop := PySem.W.fnOf "drop" "Space.drop" (defArgs s_Space_drop) (defBody s_Space_drop) (defScope s_Space_drop) .none kV_Space_drop dc_Space_drop pm_Space_drop an_Space_drop cd_Space_drop ct_Space_drop,
    f_Space_uses := f_Space_uses, d_Space_uses := PySem.W.fnOf "uses" "Space.uses" (defArgs s_Space_uses) (defBody s_Space_uses) (defScope s_Space_uses) .none kV_Space_uses dc_Space_uses pm_Space_uses an_Space_uses cd_Space_uses ct_Space_uses,
    f_Space_is_new := f_Space_is_new, d_Space_is_new := PySem.W.fnOf "is_new" "Space.is_new" (defArgs s_Space_is_new) (defBody s_Space_is_new) (defScope s_Space_is_new) .none kV_Space_is_new dc_Space_is_new pm_Space_is_new an_Space_is_new cd_Space_is_new ct_Space_is_new,
    f_Space_is_free := f_Space_is_free, d_Space_is_free := PySem.W.fnOf "is_free" "Space.is_free" (defArgs s_Space_is_free) (defBody s_Space_is_free) (defScope s_Space_is_free) .none kV_Space_is_free dc_Space_is_free pm_Space_is_free an_Space_is_free cd_Space_is_free ct_Space_is_free,
    f_Space_free := f_Space_free, d_Space_free := PySem.W.fnOf "free" "Space.free" (defArgs s_Space_free) (defBody s_Space_free) (defScope s_Space_free) .none kV_Space_free dc_Space_free pm_Space_free an_Space_free cd_Space_free ct_Space_free,
    f_Store___init__ := f_Store___init__, d_Store___init__ := PySem.W.fnOf "__init__" "Store.__init__" (defArgs s_Store___init__) (defBody s_Store___init__) (defScope s_Store___init__) .none kV_Store___init__ dc_Store___init__ pm_Store___init__ an_Store___init__ cd_Store___init__ ct_Store___init__,
    f_Store_generation := f_Store_generation, d_Store_generation := PySem.W.fnOf "generation" "Store.generation" (defArgs s_Store_generation) (defBody s_Store_generation) (defScope s_Store_generation) .none kV_Store_generation dc_Store_generation pm_Store_generation an_Store_generation cd_Store_generation ct_Store_generation,
    f_Store_use_reserve := f_Store_use_reserve, d_Store_use_reserve := PySem.W.fnOf "use_reserve" "Store.use_reserve" (defArgs s_Store_use_reserve) (defBody s_Store_use_reserve) (defScope s_Store_use_reserve) .none kV_Store_use_reserve dc_Store_use_reserve pm_Store_use_reserve an_Store_use_reserve cd_Store_use_reserve ct_Store_use_reserve,
    f_Store_read := f_Store_read, d_Store_read := PySem.W.fnOf "read" "Store.read" (defArgs s_Store_read) (defBody s_Store_read) (defScope s_Store_read) .none kV_Store_read dc_Store_read pm_Store_read an_Store_read cd_Store_read ct_Store_read,
    f_Store_next_pointer := f_Store_next_pointer, d_Store_next_pointer := PySem.W.fnOf "next_pointer" "Store.next_pointer" (defArgs s_Store_next_pointer) (defBody s_Store_next_pointer) (defScope s_Store_next_pointer) .none kV_Store_next_pointer dc_Store_next_pointer pm_Store_next_pointer an_Store_next_pointer cd_Store_next_pointer ct_Store_next_pointer,
    f_Store_make := f_Store_make, d_Store_make := PySem.W.fnOf "make" "Store.make" (defArgs s_Store_make) (defBody s_Store_make) (defScope s_Store_make) .none kV_Store_make dc_Store_make pm_Store_make an_Store_make cd_Store_make ct_Store_make,
    f_Store_is_new := f_Store_is_new, d_Store_is_new := PySem.W.fnOf "is_new" "Store.is_new" (defArgs s_Store_is_new) (defBody s_Store_is_new) (defScope s_Store_is_new) .none kV_Store_is_new dc_Store_is_new pm_Store_is_new an_Store_is_new cd_Store_is_new ct_Store_is_new,
    f_Store_write := f_Store_write, d_Store_write := PySem.W.fnOf "write" "Store.write" (defArgs s_Store_write) (defBody s_Store_write) (defScope s_Store_write) .none kV_Store_write dc_Store_write pm_Store_write an_Store_write cd_Store_write ct_Store_write,
    f_Store_share := f_Store_share, d_Store_share := PySem.W.fnOf "share" "Store.share" (defArgs s_Store_share) (defBody s_Store_share) (defScope s_Store_share) .none kV_Store_share dc_Store_share pm_Store_share an_Store_share cd_Store_share ct_Store_share,
    f_Store_drop := f_Store_drop, d_Store_drop := PySem.W.fnOf "drop" "Store.drop" (defArgs s_Store_drop) (defBody s_Store_drop) (defScope s_Store_drop) .none kV_Store_drop dc_Store_drop pm_Store_drop an_Store_drop cd_Store_drop ct_Store_drop,
    f_Store_uses := f_Store_uses, d_Store_uses := PySem.W.fnOf "uses" "Store.uses" (defArgs s_Store_uses) (defBody s_Store_uses) (defScope s_Store_uses) .none kV_Store_uses dc_Store_uses pm_Store_uses an_Store_uses cd_Store_uses ct_Store_uses,
    f_Store_require := f_Store_require, d_Store_require := PySem.W.fnOf "require" "Store.require" (defArgs s_Store_require) (defBody s_Store_require) (defScope s_Store_require) .none kV_Store_require dc_Store_require pm_Store_require an_Store_require cd_Store_require ct_Store_require,
    f_Store_free := f_Store_free, d_Store_free := PySem.W.fnOf "free" "Store.free" (defArgs s_Store_free) (defBody s_Store_free) (defScope s_Store_free) .none kV_Store_free dc_Store_free pm_Store_free an_Store_free cd_Store_free ct_Store_free,
    f_Store_new_blocks := f_Store_new_blocks, d_Store_new_blocks := PySem.W.fnOf "new_blocks" "Store.new_blocks" (defArgs s_Store_new_blocks) (defBody s_Store_new_blocks) (defScope s_Store_new_blocks) .none kV_Store_new_blocks dc_Store_new_blocks pm_Store_new_blocks an_Store_new_blocks cd_Store_new_blocks ct_Store_new_blocks,
    f__law_tape := f__law_tape, d__law_tape := PySem.W.fnOf "_law_tape" "_law_tape" (defArgs s__law_tape) (defBody s__law_tape) (defScope s__law_tape) .none kV__law_tape dc__law_tape pm__law_tape an__law_tape cd__law_tape ct__law_tape,
    f__law_at := f__law_at, d__law_at := PySem.W.fnOf "_law_at" "_law_at" (defArgs s__law_at) (defBody s__law_at) (defScope s__law_at) .none kV__law_at dc__law_at pm__law_at an__law_at cd__law_at ct__law_at,
    f__law_block := f__law_block, d__law_block := PySem.W.fnOf "_law_block" "_law_block" (defArgs s__law_block) (defBody s__law_block) (defScope s__law_block) .none kV__law_block dc__law_block pm__law_block an__law_block cd__law_block ct__law_block,
    f__law_is_block := f__law_is_block, d__law_is_block := PySem.W.fnOf "_law_is_block" "_law_is_block" (defArgs s__law_is_block) (defBody s__law_is_block) (defScope s__law_is_block) .none kV__law_is_block dc__law_is_block pm__law_is_block an__law_is_block cd__law_is_block ct__law_is_block,
    f__law_put_block := f__law_put_block, d__law_put_block := PySem.W.fnOf "_law_put_block" "_law_put_block" (defArgs s__law_put_block) (defBody s__law_put_block) (defScope s__law_put_block) .none kV__law_put_block dc__law_put_block pm__law_put_block an__law_put_block cd__law_put_block ct__law_put_block,
    f__law_do := f__law_do, d__law_do := PySem.W.fnOf "_law_do" "_law_do" (defArgs s__law_do) (defBody s__law_do) (defScope s__law_do) .none kV__law_do dc__law_do pm__law_do an__law_do cd__law_do ct__law_do,
    f__law_free := f__law_free, d__law_free := PySem.W.fnOf "_law_free" "_law_free" (defArgs s__law_free) (defBody s__law_free) (defScope s__law_free) .none kV__law_free dc__law_free pm__law_free an__law_free cd__law_free ct__law_free,
    f__law_due := f__law_due, d__law_due := PySem.W.fnOf "_law_due" "_law_due" (defArgs s__law_due) (defBody s__law_due) (defScope s__law_due) .none kV__law_due dc__law_due pm__law_due an__law_due cd__law_due ct__law_due,
    f__law_same := f__law_same, d__law_same := PySem.W.fnOf "_law_same" "_law_same" (defArgs s__law_same) (defBody s__law_same) (defScope s__law_same) .none kV__law_same dc__law_same pm__law_same an__law_same cd__law_same ct__law_same,
    f__law_make := f__law_make, d__law_make := PySem.W.fnOf "_law_make" "_law_make" (defArgs s__law_make) (defBody s__law_make) (defScope s__law_make) .none kV__law_make dc__law_make pm__law_make an__law_make cd__law_make ct__law_make,
    f__law_old := f__law_old, d__law_old := PySem.W.fnOf "_law_old" "_law_old" (defArgs s__law_old) (defBody s__law_old) (defScope s__law_old) .none kV__law_old dc__law_old pm__law_old an__law_old cd__law_old ct__law_old,
    f__law_end := f__law_end, d__law_end := PySem.W.fnOf "_law_end" "_law_end" (defArgs s__law_end) (defBody s__law_end) (defScope s__law_end) .none kV__law_end dc__law_end pm__law_end an__law_end cd__law_end ct__law_end,
    f_law := fa, d_law := PySem.W.fnOf "law" "law" (defArgs s_law) (defBody s_law) (defScope s_law) .none kV_law dc_law pm_law an_law cd_law ct_law }
  have T : Top K mg A := {
    F_is_between := F_is_between,
    b_is_between := F_is_between.binds (ps := ["value", "low", "high"]) fun _ _ _ _ _ _ us hl => match us, hl with | [_, _, _], _ => rfl,
    g_is_between := PySem.W.mg_of X G a_is_between,
    F_is_word := F_is_word,
    b_is_word := F_is_word.binds (ps := ["value"]) fun _ _ _ _ _ _ us hl => match us, hl with | [_], _ => rfl,
    g_is_word := PySem.W.mg_of X G a_is_word,
    F_are_words := F_are_words,
    b_are_words := F_are_words.binds (ps := ["values", "many"]) fun _ _ _ _ _ _ us hl => match us, hl with | [_, _], _ => rfl,
    g_are_words := PySem.W.mg_of X G a_are_words,
    F_Disk___init__ := F_Disk___init__,
    b_Disk___init__ := F_Disk___init__.binds (ps := ["self", "blocks"]) fun _ _ _ _ _ _ us hl => match us, hl with | [_, _], _ => rfl,
    F_Disk_read := F_Disk_read,
    b_Disk_read := F_Disk_read.binds (ps := ["self", "sector"]) fun _ _ _ _ _ _ us hl => match us, hl with | [_, _], _ => rfl,
    m_Disk_read := ⟨a_Disk_read, i_Disk_read, k_Disk_read⟩,
    F_Disk_operate := F_Disk_operate,
    b_Disk_operate := F_Disk_operate.binds (ps := ["self"]) fun _ _ _ _ _ _ us hl => match us, hl with | [_], _ => rfl,
    m_Disk_operate := ⟨a_Disk_operate, i_Disk_operate, k_Disk_operate⟩,
    F_Disk_write := F_Disk_write,
    b_Disk_write := F_Disk_write.binds (ps := ["self", "sector", "words"]) fun _ _ _ _ _ _ us hl => match us, hl with | [_, _, _], _ => rfl,
    m_Disk_write := ⟨a_Disk_write, i_Disk_write, k_Disk_write⟩,
    F_Disk_flush := F_Disk_flush,
    b_Disk_flush := F_Disk_flush.binds (ps := ["self"]) fun _ _ _ _ _ _ us hl => match us, hl with | [_], _ => rfl,
    m_Disk_flush := ⟨a_Disk_flush, i_Disk_flush, k_Disk_flush⟩,
    F_Disk_waiting := F_Disk_waiting,
    b_Disk_waiting := F_Disk_waiting.binds (ps := ["self"]) fun _ _ _ _ _ _ us hl => match us, hl with | [_], _ => rfl,
    m_Disk_waiting := ⟨a_Disk_waiting, i_Disk_waiting, k_Disk_waiting⟩,
    F_Disk_image := F_Disk_image,
    b_Disk_image := F_Disk_image.binds (ps := ["self"]) fun _ _ _ _ _ _ us hl => match us, hl with | [_], _ => rfl,
    m_Disk_image := ⟨a_Disk_image, i_Disk_image, k_Disk_image⟩,
    F_Disk_lasting := F_Disk_lasting,
    b_Disk_lasting := F_Disk_lasting.binds (ps := ["self"]) fun _ _ _ _ _ _ us hl => match us, hl with | [_], _ => rfl,
    m_Disk_lasting := ⟨a_Disk_lasting, i_Disk_lasting, k_Disk_lasting⟩,
    F_Head___init__ := F_Head___init__,
    b_Head___init__ := F_Head___init__.binds (ps := ["self", "generation", "table", "blocks"]) fun _ _ _ _ _ _ us hl => match us, hl with | [_, _, _, _], _ => rfl,
    F_Space___init__ := F_Space___init__,
    b_Space___init__ := F_Space___init__.binds (ps := ["self", "uses"]) fun _ _ _ _ _ _ us hl => match us, hl with | [_, _], _ => rfl,
    F_Space_count_spare := F_Space_count_spare,
    b_Space_count_spare := F_Space_count_spare.binds (ps := ["self"]) fun _ _ _ _ _ _ us hl => match us, hl with | [_], _ => rfl,
    m_Space_count_spare := ⟨a_Space_count_spare, i_Space_count_spare, k_Space_count_spare⟩,
    F_Space_check_block := F_Space_check_block,
    b_Space_check_block := F_Space_check_block.binds (ps := ["self", "block"]) fun _ _ _ _ _ _ us hl => match us, hl with | [_, _], _ => rfl,
    m_Space_check_block := ⟨a_Space_check_block, i_Space_check_block, k_Space_check_block⟩,
    F_Space_least_free := F_Space_least_free,
    b_Space_least_free := F_Space_least_free.binds (ps := ["self"]) fun _ _ _ _ _ _ us hl => match us, hl with | [_], _ => rfl,
    m_Space_least_free := ⟨a_Space_least_free, i_Space_least_free, k_Space_least_free⟩,
    F_Space_take := F_Space_take,
    b_Space_take := F_Space_take.binds (ps := ["self", "reserve"]) fun _ _ _ _ _ _ us hl => match us, hl with | [_, _], _ => rfl,
    m_Space_take := ⟨a_Space_take, i_Space_take, k_Space_take⟩,
    F_Space_share := F_Space_share,
    b_Space_share := F_Space_share.binds (ps := ["self", "block"]) fun _ _ _ _ _ _ us hl => match us, hl with | [_, _], _ => rfl,
    m_Space_share := ⟨a_Space_share, i_Space_share, k_Space_share⟩,
    F_Space_drop := F_Space_drop,
    b_Space_drop := F_Space_drop.binds (ps := ["self", "block"]) fun _ _ _ _ _ _ us hl => match us, hl with | [_, _], _ => rfl,
    m_Space_drop := ⟨a_Space_drop, i_Space_drop, k_Space_drop⟩,
    F_Space_uses := F_Space_uses,
    b_Space_uses := F_Space_uses.binds (ps := ["self", "block"]) fun _ _ _ _ _ _ us hl => match us, hl with | [_, _], _ => rfl,
    m_Space_uses := ⟨a_Space_uses, i_Space_uses, k_Space_uses⟩,
    F_Space_is_new := F_Space_is_new,
    b_Space_is_new := F_Space_is_new.binds (ps := ["self", "block"]) fun _ _ _ _ _ _ us hl => match us, hl with | [_, _], _ => rfl,
    m_Space_is_new := ⟨a_Space_is_new, i_Space_is_new, k_Space_is_new⟩,
    F_Space_is_free := F_Space_is_free,
    b_Space_is_free := F_Space_is_free.binds (ps := ["self", "block"]) fun _ _ _ _ _ _ us hl => match us, hl with | [_, _], _ => rfl,
    m_Space_is_free := ⟨a_Space_is_free, i_Space_is_free, k_Space_is_free⟩,
    F_Space_free := F_Space_free,
    b_Space_free := F_Space_free.binds (ps := ["self"]) fun _ _ _ _ _ _ us hl => match us, hl with | [_], _ => rfl,
    m_Space_free := ⟨a_Space_free, i_Space_free, k_Space_free⟩,
    F_Store___init__ := F_Store___init__,
    b_Store___init__ := F_Store___init__.binds (ps := ["self", "disk", "head", "space"]) fun _ _ _ _ _ _ us hl => match us, hl with | [_, _, _, _], _ => rfl,
    F_Store_generation := F_Store_generation,
    b_Store_generation := F_Store_generation.binds (ps := ["self"]) fun _ _ _ _ _ _ us hl => match us, hl with | [_], _ => rfl,
    m_Store_generation := ⟨a_Store_generation, i_Store_generation, k_Store_generation⟩,
    F_Store_use_reserve := F_Store_use_reserve,
    b_Store_use_reserve := F_Store_use_reserve.binds (ps := ["self", "reserve"]) fun _ _ _ _ _ _ us hl => match us, hl with | [_, _], _ => rfl,
    m_Store_use_reserve := ⟨a_Store_use_reserve, i_Store_use_reserve, k_Store_use_reserve⟩,
    F_Store_read := F_Store_read,
    b_Store_read := F_Store_read.binds (ps := ["self", "pointer"]) fun _ _ _ _ _ _ us hl => match us, hl with | [_, _], _ => rfl,
    m_Store_read := ⟨a_Store_read, i_Store_read, k_Store_read⟩,
    F_Store_next_pointer := F_Store_next_pointer,
    b_Store_next_pointer := F_Store_next_pointer.binds (ps := ["self"]) fun _ _ _ _ _ _ us hl => match us, hl with | [_], _ => rfl,
    m_Store_next_pointer := ⟨a_Store_next_pointer, i_Store_next_pointer, k_Store_next_pointer⟩,
    F_Store_make := F_Store_make,
    b_Store_make := F_Store_make.binds (ps := ["self", "words"]) fun _ _ _ _ _ _ us hl => match us, hl with | [_, _], _ => rfl,
    m_Store_make := ⟨a_Store_make, i_Store_make, k_Store_make⟩,
    F_Store_is_new := F_Store_is_new,
    b_Store_is_new := F_Store_is_new.binds (ps := ["self", "pointer"]) fun _ _ _ _ _ _ us hl => match us, hl with | [_, _], _ => rfl,
    m_Store_is_new := ⟨a_Store_is_new, i_Store_is_new, k_Store_is_new⟩,
    F_Store_write := F_Store_write,
    b_Store_write := F_Store_write.binds (ps := ["self", "pointer", "words"]) fun _ _ _ _ _ _ us hl => match us, hl with | [_, _, _], _ => rfl,
    m_Store_write := ⟨a_Store_write, i_Store_write, k_Store_write⟩,
    F_Store_share := F_Store_share,
    b_Store_share := F_Store_share.binds (ps := ["self", "pointer"]) fun _ _ _ _ _ _ us hl => match us, hl with | [_, _], _ => rfl,
    m_Store_share := ⟨a_Store_share, i_Store_share, k_Store_share⟩,
    F_Store_drop := F_Store_drop,
    b_Store_drop := F_Store_drop.binds (ps := ["self", "pointer"]) fun _ _ _ _ _ _ us hl => match us, hl with | [_, _], _ => rfl,
    m_Store_drop := ⟨a_Store_drop, i_Store_drop, k_Store_drop⟩,
    F_Store_uses := F_Store_uses,
    b_Store_uses := F_Store_uses.binds (ps := ["self", "pointer"]) fun _ _ _ _ _ _ us hl => match us, hl with | [_, _], _ => rfl,
    m_Store_uses := ⟨a_Store_uses, i_Store_uses, k_Store_uses⟩,
    F_Store_require := F_Store_require,
    b_Store_require := F_Store_require.binds (ps := ["self", "many"]) fun _ _ _ _ _ _ us hl => match us, hl with | [_, _], _ => rfl,
    m_Store_require := ⟨a_Store_require, i_Store_require, k_Store_require⟩,
    F_Store_free := F_Store_free,
    b_Store_free := F_Store_free.binds (ps := ["self"]) fun _ _ _ _ _ _ us hl => match us, hl with | [_], _ => rfl,
    m_Store_free := ⟨a_Store_free, i_Store_free, k_Store_free⟩,
    F_Store_new_blocks := F_Store_new_blocks,
    b_Store_new_blocks := F_Store_new_blocks.binds (ps := ["self"]) fun _ _ _ _ _ _ us hl => match us, hl with | [_], _ => rfl,
    m_Store_new_blocks := ⟨a_Store_new_blocks, i_Store_new_blocks, k_Store_new_blocks⟩,
    F__law_tape := F__law_tape,
    b__law_tape := F__law_tape.binds (ps := ["_law_script"]) fun _ _ _ _ _ _ us hl => match us, hl with | [_], _ => rfl,
    g__law_tape := PySem.W.mg_of X G a__law_tape,
    F__law_at := F__law_at,
    b__law_at := F__law_at.binds (ps := ["_law_tape_here", "_law_k"]) fun _ _ _ _ _ _ us hl => match us, hl with | [_, _], _ => rfl,
    g__law_at := PySem.W.mg_of X G a__law_at,
    F__law_block := F__law_block,
    b__law_block := F__law_block.binds (ps := ["_law_number", "_law_extra"]) fun _ _ _ _ _ _ us hl => match us, hl with | [_, _], _ => rfl,
    g__law_block := PySem.W.mg_of X G a__law_block,
    F__law_is_block := F__law_is_block,
    b__law_is_block := F__law_is_block.binds (ps := ["_law_told", "_law_due_here"]) fun _ _ _ _ _ _ us hl => match us, hl with | [_, _], _ => rfl,
    g__law_is_block := PySem.W.mg_of X G a__law_is_block,
    F__law_put_block := F__law_put_block,
    b__law_put_block := F__law_put_block.binds (ps := ["_law_disk", "_law_number", "_law_words"]) fun _ _ _ _ _ _ us hl => match us, hl with | [_, _, _], _ => rfl,
    g__law_put_block := PySem.W.mg_of X G a__law_put_block,
    F__law_do := F__law_do,
    b__law_do := F__law_do.binds (ps := ["_law_store", "_law_act", "_law_pointer", "_law_words"]) fun _ _ _ _ _ _ us hl => match us, hl with | [_, _, _, _], _ => rfl,
    g__law_do := PySem.W.mg_of X G a__law_do,
    F__law_free := F__law_free,
    b__law_free := F__law_free.binds (ps := ["_law_numbers", "_law_held"]) fun _ _ _ _ _ _ us hl => match us, hl with | [_, _], _ => rfl,
    g__law_free := PySem.W.mg_of X G a__law_free,
    F__law_due := F__law_due,
    b__law_due := F__law_due.binds (ps := ["_law_numbers", "_law_held", "_law_act", "_law_number"]) fun _ _ _ _ _ _ us hl => match us, hl with | [_, _, _, _], _ => rfl,
    g__law_due := PySem.W.mg_of X G a__law_due,
    F__law_same := F__law_same,
    b__law_same := F__law_same.binds (ps := ["_law_told", "_law_due_here"]) fun _ _ _ _ _ _ us hl => match us, hl with | [_, _], _ => rfl,
    g__law_same := PySem.W.mg_of X G a__law_same,
    F__law_make := F__law_make,
    b__law_make := F__law_make.binds (ps := ["_law_store", "_law_numbers", "_law_held", "_law_contents", "_law_words", "_law_valid", "_law_generation"]) fun _ _ _ _ _ _ us hl => match us, hl with | [_, _, _, _, _, _, _], _ => rfl,
    g__law_make := PySem.W.mg_of X G a__law_make,
    F__law_old := F__law_old,
    b__law_old := F__law_old.binds (ps := ["_law_image", "_law_number"]) fun _ _ _ _ _ _ us hl => match us, hl with | [_, _], _ => rfl,
    g__law_old := PySem.W.mg_of X G a__law_old,
    F__law_end := F__law_end,
    b__law_end := F__law_end.binds (ps := ["_law_store", "_law_numbers", "_law_held", "_law_contents", "_law_image"]) fun _ _ _ _ _ _ us hl => match us, hl with | [_, _, _, _, _], _ => rfl,
    g__law_end := PySem.W.mg_of X G a__law_end,
    F_law := F_law,
    b_law := F_law.binds (ps := ["_law_script"]) fun _ _ _ _ _ _ us hl => match us, hl with | [_], _ => rfl,
    g_law := PySem.W.mg_of X G a_law,
    c_Disk := ⟨pg_Disk, hd_Disk, po_Disk, sa_Disk⟩,
    M_Disk := ⟨mk_Disk, a_Disk___init__, i_Disk___init__, kc_Disk⟩,
    gC_Disk := PySem.W.mg_of X G aC_Disk,
    c_Head := ⟨pg_Head, hd_Head, po_Head, sa_Head⟩,
    M_Head := ⟨mk_Head, a_Head___init__, i_Head___init__, kc_Head⟩,
    gC_Head := PySem.W.mg_of X G aC_Head,
    c_Space := ⟨pg_Space, hd_Space, po_Space, sa_Space⟩,
    M_Space := ⟨mk_Space, a_Space___init__, i_Space___init__, kc_Space⟩,
    gC_Space := PySem.W.mg_of X G aC_Space,
    c_Store := ⟨pg_Store, hd_Store, po_Store, sa_Store⟩,
    M_Store := ⟨mk_Store, a_Store___init__, i_Store___init__, kc_Store⟩,
    gC_Store := PySem.W.mg_of X G aC_Store,
    n_abs := PySem.W.mg_none_of X G n_abs,
    n_bool := PySem.W.mg_none_of X G n_bool,
    n_int := PySem.W.mg_none_of X G n_int,
    n_isinstance := PySem.W.mg_none_of X G n_isinstance,
    n_len := PySem.W.mg_none_of X G n_len,
    n_list := PySem.W.mg_none_of X G n_list,
    n_max := PySem.W.mg_none_of X G n_max,
    n_min := PySem.W.mg_none_of X G n_min,
    n_range := PySem.W.mg_none_of X G n_range,
    n_sorted := PySem.W.mg_none_of X G n_sorted,
    n_tuple := PySem.W.mg_none_of X G n_tuple,
    n_zip := PySem.W.mg_none_of X G n_zip,
    k_ADD := ⟨_, PySem.W.mg_of X G kc_ADD⟩,
    k_BLOCK_SECTORS := ⟨_, PySem.W.mg_of X G kc_BLOCK_SECTORS⟩,
    k_BLOCK_WORDS := ⟨_, PySem.W.mg_of X G kc_BLOCK_WORDS⟩,
    k_FIRST_BLOCK := ⟨_, PySem.W.mg_of X G kc_FIRST_BLOCK⟩,
    k_MAX_BLOCKS := ⟨_, PySem.W.mg_of X G kc_MAX_BLOCKS⟩,
    k_MIN_BLOCKS := ⟨_, PySem.W.mg_of X G kc_MIN_BLOCKS⟩,
    k_SECTOR_WORDS := ⟨_, PySem.W.mg_of X G kc_SECTOR_WORDS⟩,
    x_LaminaError := ⟨ex_LaminaError, PySem.W.mg_of X G aC_LaminaError, kc_LaminaError, sb_LaminaError, ty_LaminaError⟩,
    x_NoSpace := ⟨ex_NoSpace, PySem.W.mg_of X G aC_NoSpace, kc_NoSpace, sb_NoSpace, ty_NoSpace⟩,
    x_NotValid := ⟨ex_NotValid, PySem.W.mg_of X G aC_NotValid, kc_NotValid, sb_NotValid, ty_NotValid⟩,
    x_PowerOff := ⟨ex_PowerOff, PySem.W.mg_of X G aC_PowerOff, kc_PowerOff, sb_PowerOff, ty_PowerOff⟩,
    n_Disk_blocks := nf_Disk_blocks,
    n_Disk_left := nf_Disk_left,
    n_Disk_newest := nf_Disk_newest,
    n_Disk_power := nf_Disk_power,
    n_Disk_sectors := nf_Disk_sectors,
    n_Disk_writes := nf_Disk_writes,
    n_Head_blocks := nf_Head_blocks,
    n_Head_generation := nf_Head_generation,
    n_Head_table := nf_Head_table,
    n_Space_blocks := nf_Space_blocks,
    n_Space_held := nf_Space_held,
    n_Space_low := nf_Space_low,
    n_Space_numbers := nf_Space_numbers,
    n_Space_spare := nf_Space_spare,
    n_Store_disk := nf_Store_disk,
    n_Store_head := nf_Store_head,
    n_Store_memory := nf_Store_memory,
    n_Store_reserve := nf_Store_reserve,
    n_Store_space := nf_Store_space,
    n_Store_table := nf_Store_table,
    fa := { fa0 := trivial, te_LaminaError_LaminaError := PySem.W.exm_ref sb_LaminaError hx_LaminaError ty_LaminaError su_LaminaError_LaminaError, te_NotValid_LaminaError := PySem.W.exm_ref sb_LaminaError hx_LaminaError ty_LaminaError su_NotValid_LaminaError, te_PowerOff_LaminaError := PySem.W.exm_ref sb_LaminaError hx_LaminaError ty_LaminaError su_PowerOff_LaminaError, te_NoSpace_LaminaError := PySem.W.exm_ref sb_LaminaError hx_LaminaError ty_LaminaError su_NoSpace_LaminaError, kt_LaminaError_NotValid := kit_ne ne_LaminaError_NotValid sb_NotValid hx_NotValid ty_NotValid su_LaminaError_NotValid, kt_NotValid_NotValid := kit_same, kt_PowerOff_NotValid := kit_ne ne_PowerOff_NotValid sb_NotValid hx_NotValid ty_NotValid su_PowerOff_NotValid, kt_NoSpace_NotValid := kit_ne ne_NoSpace_NotValid sb_NotValid hx_NotValid ty_NotValid su_NoSpace_NotValid, kt_LaminaError_NoSpace := kit_ne ne_LaminaError_NoSpace sb_NoSpace hx_NoSpace ty_NoSpace su_LaminaError_NoSpace, kt_NotValid_NoSpace := kit_ne ne_NotValid_NoSpace sb_NoSpace hx_NoSpace ty_NoSpace su_NotValid_NoSpace, kt_PowerOff_NoSpace := kit_ne ne_PowerOff_NoSpace sb_NoSpace hx_NoSpace ty_NoSpace su_PowerOff_NoSpace, kt_NoSpace_NoSpace := kit_same, xc_LaminaError := ⟨ga_LaminaError, gg_LaminaError, sb_LaminaError, hx_LaminaError, cl_LaminaError, sp_cls, tk_cls, om_LaminaError⟩, xc_NotValid := ⟨ga_NotValid, gg_NotValid, sb_NotValid, hx_NotValid, cl_NotValid, sp_cls, tk_cls, om_NotValid⟩, xc_PowerOff := ⟨ga_PowerOff, gg_PowerOff, sb_PowerOff, hx_PowerOff, cl_PowerOff, sp_cls, tk_cls, om_PowerOff⟩, xc_NoSpace := ⟨ga_NoSpace, gg_NoSpace, sb_NoSpace, hx_NoSpace, cl_NoSpace, sp_cls, tk_cls, om_NoSpace⟩ } }
  exact ⟨_, fun s v => .of_eq rfl, fun base _ _ => ok_law (A := A) T⟩
theorem walk {l : PySem.W.OpenLaw} {q : Program} {loose : List Str} {XP : (Str → Option Value) → Heap → Prop} {YP : World → Heap → Prop} {d : DefRec} {K : Params → PySem.W.Frag} (hn : l.most = some 63) (hdf : d.params.defaults = [])
    (hY : ∀ (w : World) (h : Heap), YP w h → (K w.params).In h)
    (F : ∀ (w : World) (mg : Str → Option Value) (fa : Addr) (h : Heap), (K w.params).In h → h.Ns mainGlobals mg → mg d.name = some (.ref fa) →
      ∃ fd : FuncData, (∀ (s : Shared) (u : Value), BindsTo s fd ⟨[u], []⟩ [("_law_script", u)]) ∧ ∀ base : Heap, (K w.params).In base → base.Ns mainGlobals mg → FnOk l.prog w (K w.params) mg base (L2.CX l.prog w) 8 fa fd ["_law_script"] (spLaw (K w.params))) :
    PySem.W.WalkO q loose XP YP l.row.toRowW d [] (fun f vs => PySem.call f vs) :=
  L2.walk_of (n := 63) (k := 8) (x := "_law_script") (CX := fun w => L2.CX l.prog w) (sp := fun w => spLaw (K w.params)) hn (by decide) hdf ⟨rfl, by decide, by decide⟩ hY F (fun _ _ a ns hl _ hS => ⟨_, rfl, a, ns, rfl, hS, hl, fun _ => rfl⟩) fun _ _ _ _ _ ⟨_, _, _, _, _, _, _, _, _, _, _, _, z⟩ => z
end Lam
open PySem PySem.W PyProof.Rows
set_option maxRecDepth 100000 in
set_option maxHeartbeats 0 in
theorem PySem.Challenge.cw_laminae_k23_store_holds : PySem.Challenge.rw_laminae_k23_store.Holds := by
  w_on; o_law; k_head; (case hw => w_witness2)
  k_fill
  refine Lam.walk (l := PySem.Challenge.rw_laminae_k23_store) rfl rfl (fun w h Y => PySem.W.kIn_of Y) ?F
  case F =>
    intro w mg fa h KX G hmg
    refine' Lam.all_mk KX G hmg ?aC_Disk ?aC_Head ?aC_Space ?aC_Store ?aC_LaminaError ?aC_NoSpace ?aC_NotValid ?aC_PowerOff ?a_is_between ?l_is_between ?c_is_between ?k_is_between ?a_is_word ?l_is_word ?c_is_word ?k_is_word ?a_are_words ?l_are_words ?c_are_words ?k_are_words ?a_Disk___init__ ?i_Disk___init__ ?l_Disk___init__ ?c_Disk___init__ ?k_Disk___init__ ?a_Disk_read ?i_Disk_read ?l_Disk_read ?c_Disk_read ?k_Disk_read ?a_Disk_operate ?i_Disk_operate ?l_Disk_operate ?c_Disk_operate ?k_Disk_operate ?a_Disk_write ?i_Disk_write ?l_Disk_write ?c_Disk_write ?k_Disk_write ?a_Disk_flush ?i_Disk_flush ?l_Disk_flush ?c_Disk_flush ?k_Disk_flush ?a_Disk_waiting ?i_Disk_waiting ?l_Disk_waiting ?c_Disk_waiting ?k_Disk_waiting ?a_Disk_image ?i_Disk_image ?l_Disk_image ?c_Disk_image ?k_Disk_image ?a_Disk_lasting ?i_Disk_lasting ?l_Disk_lasting ?c_Disk_lasting ?k_Disk_lasting ?a_Head___init__ ?i_Head___init__ ?l_Head___init__ ?c_Head___init__ ?k_Head___init__ ?a_Space___init__ ?i_Space___init__ ?l_Space___init__ ?c_Space___init__ ?k_Space___init__ ?a_Space_count_spare ?i_Space_count_spare ?l_Space_count_spare ?c_Space_count_spare ?k_Space_count_spare ?a_Space_check_block ?i_Space_check_block ?l_Space_check_block ?c_Space_check_block ?k_Space_check_block ?a_Space_least_free ?i_Space_least_free ?l_Space_least_free ?c_Space_least_free ?k_Space_least_free ?a_Space_take ?i_Space_take ?l_Space_take ?c_Space_take ?k_Space_take ?a_Space_share ?i_Space_share ?l_Space_share ?c_Space_share ?k_Space_share ?a_Space_drop ?i_Space_drop ?l_Space_drop ?c_Space_drop ?k_Space_drop ?a_Space_uses ?i_Space_uses ?l_Space_uses ?c_Space_uses ?k_Space_uses ?a_Space_is_new ?i_Space_is_new ?l_Space_is_new ?c_Space_is_new ?k_Space_is_new ?a_Space_is_free ?i_Space_is_free ?l_Space_is_free ?c_Space_is_free ?k_Space_is_free ?a_Space_free ?i_Space_free ?l_Space_free ?c_Space_free ?k_Space_free ?a_Store___init__ ?i_Store___init__ ?l_Store___init__ ?c_Store___init__ ?k_Store___init__ ?a_Store_generation ?i_Store_generation ?l_Store_generation ?c_Store_generation ?k_Store_generation ?a_Store_use_reserve ?i_Store_use_reserve ?l_Store_use_reserve ?c_Store_use_reserve ?k_Store_use_reserve ?a_Store_read ?i_Store_read ?l_Store_read ?c_Store_read ?k_Store_read ?a_Store_next_pointer ?i_Store_next_pointer ?l_Store_next_pointer ?c_Store_next_pointer ?k_Store_next_pointer ?a_Store_make ?i_Store_make ?l_Store_make ?c_Store_make ?k_Store_make ?a_Store_is_new ?i_Store_is_new ?l_Store_is_new ?c_Store_is_new ?k_Store_is_new ?a_Store_write ?i_Store_write ?l_Store_write ?c_Store_write ?k_Store_write ?a_Store_share ?i_Store_share ?l_Store_share ?c_Store_share ?k_Store_share ?a_Store_drop ?i_Store_drop ?l_Store_drop ?c_Store_drop ?k_Store_drop ?a_Store_uses ?i_Store_uses ?l_Store_uses ?c_Store_uses ?k_Store_uses ?a_Store_require ?i_Store_require ?l_Store_require ?c_Store_require ?k_Store_require ?a_Store_free ?i_Store_free ?l_Store_free ?c_Store_free ?k_Store_free ?a_Store_new_blocks ?i_Store_new_blocks ?l_Store_new_blocks ?c_Store_new_blocks ?k_Store_new_blocks ?a__law_tape ?l__law_tape ?c__law_tape ?k__law_tape ?a__law_at ?l__law_at ?c__law_at ?k__law_at ?a__law_block ?l__law_block ?c__law_block ?k__law_block ?a__law_is_block ?l__law_is_block ?c__law_is_block ?k__law_is_block ?a__law_put_block ?l__law_put_block ?c__law_put_block ?k__law_put_block ?a__law_do ?l__law_do ?c__law_do ?k__law_do ?a__law_free ?l__law_free ?c__law_free ?k__law_free ?a__law_due ?l__law_due ?c__law_due ?k__law_due ?a__law_same ?l__law_same ?c__law_same ?k__law_same ?a__law_make ?l__law_make ?c__law_make ?k__law_make ?a__law_old ?l__law_old ?c__law_old ?k__law_old ?a__law_end ?l__law_end ?c__law_end ?k__law_end ?a_law ?l_law ?c_law ?k_law ?pg_Disk ?hd_Disk ?po_Disk ?sa_Disk ?mk_Disk ?kc_Disk ?pg_Head ?hd_Head ?po_Head ?sa_Head ?mk_Head ?kc_Head ?pg_Space ?hd_Space ?po_Space ?sa_Space ?mk_Space ?kc_Space ?pg_Store ?hd_Store ?po_Store ?sa_Store ?mk_Store ?kc_Store ?n_abs ?n_bool ?n_int ?n_isinstance ?n_len ?n_list ?n_max ?n_min ?n_range ?n_sorted ?n_tuple ?n_zip ?kc_ADD ?kc_BLOCK_SECTORS ?kc_BLOCK_WORDS ?kc_FIRST_BLOCK ?kc_MAX_BLOCKS ?kc_MIN_BLOCKS ?kc_SECTOR_WORDS ?ex_LaminaError ?kc_LaminaError ?sb_LaminaError ?ty_LaminaError ?ex_NoSpace ?kc_NoSpace ?sb_NoSpace ?ty_NoSpace ?ex_NotValid ?kc_NotValid ?sb_NotValid ?ty_NotValid ?ex_PowerOff ?kc_PowerOff ?sb_PowerOff ?ty_PowerOff ?nf_Disk_blocks ?nf_Disk_left ?nf_Disk_newest ?nf_Disk_power ?nf_Disk_sectors ?nf_Disk_writes ?nf_Head_blocks ?nf_Head_generation ?nf_Head_table ?nf_Space_blocks ?nf_Space_held ?nf_Space_low ?nf_Space_numbers ?nf_Space_spare ?nf_Store_disk ?nf_Store_head ?nf_Store_memory ?nf_Store_reserve ?nf_Store_space ?nf_Store_table ?su_LaminaError_LaminaError ?su_LaminaError_NoSpace ?su_LaminaError_NotValid ?su_NoSpace_LaminaError ?su_NoSpace_NotValid ?su_NotValid_LaminaError ?su_NotValid_NoSpace ?su_PowerOff_LaminaError ?su_PowerOff_NoSpace ?su_PowerOff_NotValid ?hx_LaminaError ?hx_NoSpace ?hx_NotValid ?hx_PowerOff ?ne_LaminaError_NotValid ?ne_PowerOff_NotValid ?ne_NoSpace_NotValid ?ne_LaminaError_NoSpace ?ne_NotValid_NoSpace ?ne_PowerOff_NoSpace ?ga_LaminaError ?gg_LaminaError ?cl_LaminaError ?om_LaminaError ?ga_NotValid ?gg_NotValid ?cl_NotValid ?om_NotValid ?ga_PowerOff ?gg_PowerOff ?cl_PowerOff ?om_PowerOff ?ga_NoSpace ?gg_NoSpace ?cl_NoSpace ?om_NoSpace ?sp_cls ?tk_cls
    (case aC_Disk => k_is); (case aC_Head => k_is); (case aC_Space => k_is); (case aC_Store => k_is); (case aC_LaminaError => k_is); (case aC_NoSpace => k_is)
    (case aC_NotValid => k_is); (case aC_PowerOff => k_is); (case a_is_between => k_is); (case l_is_between => k_is); (case c_is_between => k_is); (case k_is_between => k_is)
    (case a_is_word => k_is); (case l_is_word => k_is); (case c_is_word => k_is); (case k_is_word => k_is); (case a_are_words => k_is); (case l_are_words => k_is)
    (case c_are_words => k_is); (case k_are_words => k_is); (case a_Disk___init__ => k_is); (case i_Disk___init__ => k_is); (case l_Disk___init__ => k_is); (case c_Disk___init__ => k_is)
    (case k_Disk___init__ => k_is); (case a_Disk_read => k_is); (case i_Disk_read => k_is); (case l_Disk_read => k_is); (case c_Disk_read => k_is); (case k_Disk_read => k_is)
    (case a_Disk_operate => k_is); (case i_Disk_operate => k_is); (case l_Disk_operate => k_is); (case c_Disk_operate => k_is); (case k_Disk_operate => k_is); (case a_Disk_write => k_is)
    (case i_Disk_write => k_is); (case l_Disk_write => k_is); (case c_Disk_write => k_is); (case k_Disk_write => k_is); (case a_Disk_flush => k_is); (case i_Disk_flush => k_is)
    (case l_Disk_flush => k_is); (case c_Disk_flush => k_is); (case k_Disk_flush => k_is); (case a_Disk_waiting => k_is); (case i_Disk_waiting => k_is); (case l_Disk_waiting => k_is)
    (case c_Disk_waiting => k_is); (case k_Disk_waiting => k_is); (case a_Disk_image => k_is); (case i_Disk_image => k_is); (case l_Disk_image => k_is); (case c_Disk_image => k_is)
    (case k_Disk_image => k_is); (case a_Disk_lasting => k_is); (case i_Disk_lasting => k_is); (case l_Disk_lasting => k_is); (case c_Disk_lasting => k_is); (case k_Disk_lasting => k_is)
    (case a_Head___init__ => k_is); (case i_Head___init__ => k_is); (case l_Head___init__ => k_is); (case c_Head___init__ => k_is); (case k_Head___init__ => k_is); (case a_Space___init__ => k_is)
    (case i_Space___init__ => k_is); (case l_Space___init__ => k_is); (case c_Space___init__ => k_is); (case k_Space___init__ => k_is); (case a_Space_count_spare => k_is); (case i_Space_count_spare => k_is)
    (case l_Space_count_spare => k_is); (case c_Space_count_spare => k_is); (case k_Space_count_spare => k_is); (case a_Space_check_block => k_is); (case i_Space_check_block => k_is); (case l_Space_check_block => k_is)
    (case c_Space_check_block => k_is); (case k_Space_check_block => k_is); (case a_Space_least_free => k_is); (case i_Space_least_free => k_is); (case l_Space_least_free => k_is); (case c_Space_least_free => k_is)
    (case k_Space_least_free => k_is); (case a_Space_take => k_is); (case i_Space_take => k_is); (case l_Space_take => k_is); (case c_Space_take => k_is); (case k_Space_take => k_is)
    (case a_Space_share => k_is); (case i_Space_share => k_is); (case l_Space_share => k_is); (case c_Space_share => k_is); (case k_Space_share => k_is); (case a_Space_drop => k_is)
    (case i_Space_drop => k_is); (case l_Space_drop => k_is); (case c_Space_drop => k_is); (case k_Space_drop => k_is); (case a_Space_uses => k_is); (case i_Space_uses => k_is)
    (case l_Space_uses => k_is); (case c_Space_uses => k_is); (case k_Space_uses => k_is); (case a_Space_is_new => k_is); (case i_Space_is_new => k_is); (case l_Space_is_new => k_is)
    (case c_Space_is_new => k_is); (case k_Space_is_new => k_is); (case a_Space_is_free => k_is); (case i_Space_is_free => k_is); (case l_Space_is_free => k_is); (case c_Space_is_free => k_is)
    (case k_Space_is_free => k_is); (case a_Space_free => k_is); (case i_Space_free => k_is); (case l_Space_free => k_is); (case c_Space_free => k_is); (case k_Space_free => k_is)
    (case a_Store___init__ => k_is); (case i_Store___init__ => k_is); (case l_Store___init__ => k_is); (case c_Store___init__ => k_is); (case k_Store___init__ => k_is); (case a_Store_generation => k_is)
    (case i_Store_generation => k_is); (case l_Store_generation => k_is); (case c_Store_generation => k_is); (case k_Store_generation => k_is); (case a_Store_use_reserve => k_is); (case i_Store_use_reserve => k_is)
    (case l_Store_use_reserve => k_is); (case c_Store_use_reserve => k_is); (case k_Store_use_reserve => k_is); (case a_Store_read => k_is); (case i_Store_read => k_is); (case l_Store_read => k_is)
    (case c_Store_read => k_is); (case k_Store_read => k_is); (case a_Store_next_pointer => k_is); (case i_Store_next_pointer => k_is); (case l_Store_next_pointer => k_is); (case c_Store_next_pointer => k_is)
    (case k_Store_next_pointer => k_is); (case a_Store_make => k_is); (case i_Store_make => k_is); (case l_Store_make => k_is); (case c_Store_make => k_is); (case k_Store_make => k_is)
    (case a_Store_is_new => k_is); (case i_Store_is_new => k_is); (case l_Store_is_new => k_is); (case c_Store_is_new => k_is); (case k_Store_is_new => k_is); (case a_Store_write => k_is)
    (case i_Store_write => k_is); (case l_Store_write => k_is); (case c_Store_write => k_is); (case k_Store_write => k_is); (case a_Store_share => k_is); (case i_Store_share => k_is)
    (case l_Store_share => k_is); (case c_Store_share => k_is); (case k_Store_share => k_is); (case a_Store_drop => k_is); (case i_Store_drop => k_is); (case l_Store_drop => k_is)
    (case c_Store_drop => k_is); (case k_Store_drop => k_is); (case a_Store_uses => k_is); (case i_Store_uses => k_is); (case l_Store_uses => k_is); (case c_Store_uses => k_is)
    (case k_Store_uses => k_is); (case a_Store_require => k_is); (case i_Store_require => k_is); (case l_Store_require => k_is); (case c_Store_require => k_is); (case k_Store_require => k_is)
    (case a_Store_free => k_is); (case i_Store_free => k_is); (case l_Store_free => k_is); (case c_Store_free => k_is); (case k_Store_free => k_is); (case a_Store_new_blocks => k_is)
    (case i_Store_new_blocks => k_is); (case l_Store_new_blocks => k_is); (case c_Store_new_blocks => k_is); (case k_Store_new_blocks => k_is); (case a__law_tape => k_is); (case l__law_tape => k_is)
    (case c__law_tape => k_is); (case k__law_tape => k_is); (case a__law_at => k_is); (case l__law_at => k_is); (case c__law_at => k_is); (case k__law_at => k_is)
    (case a__law_block => k_is); (case l__law_block => k_is); (case c__law_block => k_is); (case k__law_block => k_is); (case a__law_is_block => k_is); (case l__law_is_block => k_is)
    (case c__law_is_block => k_is); (case k__law_is_block => k_is); (case a__law_put_block => k_is); (case l__law_put_block => k_is); (case c__law_put_block => k_is); (case k__law_put_block => k_is)
    (case a__law_do => k_is); (case l__law_do => k_is); (case c__law_do => k_is); (case k__law_do => k_is); (case a__law_free => k_is); (case l__law_free => k_is)
    (case c__law_free => k_is); (case k__law_free => k_is); (case a__law_due => k_is); (case l__law_due => k_is); (case c__law_due => k_is); (case k__law_due => k_is)
    (case a__law_same => k_is); (case l__law_same => k_is); (case c__law_same => k_is); (case k__law_same => k_is); (case a__law_make => k_is); (case l__law_make => k_is)
    (case c__law_make => k_is); (case k__law_make => k_is); (case a__law_old => k_is); (case l__law_old => k_is); (case c__law_old => k_is); (case k__law_old => k_is)
    (case a__law_end => k_is); (case l__law_end => k_is); (case c__law_end => k_is); (case k__law_end => k_is); (case a_law => k_is); (case l_law => k_is)
    (case c_law => k_is); (case k_law => k_is); (case pg_Disk => k_is); (case hd_Disk => k_is); (case po_Disk => k_is); (case sa_Disk => k_is)
    (case mk_Disk => k_is); (case kc_Disk => k_is); (case pg_Head => k_is); (case hd_Head => k_is); (case po_Head => k_is); (case sa_Head => k_is)
    (case mk_Head => k_is); (case kc_Head => k_is); (case pg_Space => k_is); (case hd_Space => k_is); (case po_Space => k_is); (case sa_Space => k_is)
    (case mk_Space => k_is); (case kc_Space => k_is); (case pg_Store => k_is); (case hd_Store => k_is); (case po_Store => k_is); (case sa_Store => k_is)
    (case mk_Store => k_is); (case kc_Store => k_is); (case n_abs => k_is); (case n_bool => k_is); (case n_int => k_is); (case n_isinstance => k_is)
    (case n_len => k_is); (case n_list => k_is); (case n_max => k_is); (case n_min => k_is); (case n_range => k_is); (case n_sorted => k_is)
    (case n_tuple => k_is); (case n_zip => k_is); (case kc_ADD => k_is); (case kc_BLOCK_SECTORS => k_is); (case kc_BLOCK_WORDS => k_is); (case kc_FIRST_BLOCK => k_is)
    (case kc_MAX_BLOCKS => k_is); (case kc_MIN_BLOCKS => k_is); (case kc_SECTOR_WORDS => k_is); (case ex_LaminaError => k_exc); (case kc_LaminaError => k_is); (case sb_LaminaError => k_is)
    (case ty_LaminaError => k_is); (case ex_NoSpace => k_exc); (case kc_NoSpace => k_is); (case sb_NoSpace => k_is); (case ty_NoSpace => k_is); (case ex_NotValid => k_exc)
    (case kc_NotValid => k_is); (case sb_NotValid => k_is); (case ty_NotValid => k_is); (case ex_PowerOff => k_exc); (case kc_PowerOff => k_is); (case sb_PowerOff => k_is)
    (case ty_PowerOff => k_is); (case nf_Disk_blocks => k_is); (case nf_Disk_left => k_is); (case nf_Disk_newest => k_is); (case nf_Disk_power => k_is); (case nf_Disk_sectors => k_is)
    (case nf_Disk_writes => k_is); (case nf_Head_blocks => k_is); (case nf_Head_generation => k_is); (case nf_Head_table => k_is); (case nf_Space_blocks => k_is); (case nf_Space_held => k_is)
    (case nf_Space_low => k_is); (case nf_Space_numbers => k_is); (case nf_Space_spare => k_is); (case nf_Store_disk => k_is); (case nf_Store_head => k_is); (case nf_Store_memory => k_is)
    (case nf_Store_reserve => k_is); (case nf_Store_space => k_is); (case nf_Store_table => k_is); (case su_LaminaError_LaminaError => k_is); (case su_LaminaError_NoSpace => k_is); (case su_LaminaError_NotValid => k_is)
    (case su_NoSpace_LaminaError => k_is); (case su_NoSpace_NotValid => k_is); (case su_NotValid_LaminaError => k_is); (case su_NotValid_NoSpace => k_is); (case su_PowerOff_LaminaError => k_is); (case su_PowerOff_NoSpace => k_is)
    (case su_PowerOff_NotValid => k_is); (case hx_LaminaError => k_is); (case hx_NoSpace => k_is); (case hx_NotValid => k_is); (case hx_PowerOff => k_is); (case ne_LaminaError_NotValid => decide)
    (case ne_PowerOff_NotValid => decide); (case ne_NoSpace_NotValid => decide); (case ne_LaminaError_NoSpace => decide); (case ne_NotValid_NoSpace => decide); (case ne_PowerOff_NoSpace => decide); (case ga_LaminaError => k_is)
    (case gg_LaminaError => k_is); (case cl_LaminaError => k_is); (case om_LaminaError => k_is); (case ga_NotValid => k_is); (case gg_NotValid => k_is); (case cl_NotValid => k_is)
    (case om_NotValid => k_is); (case ga_PowerOff => k_is); (case gg_PowerOff => k_is); (case cl_PowerOff => k_is); (case om_PowerOff => k_is); (case ga_NoSpace => k_is)
    (case gg_NoSpace => k_is); (case cl_NoSpace => k_is); (case om_NoSpace => k_is); (case sp_cls => k_is); (case tk_cls => k_is)
#print axioms PySem.Challenge.cw_laminae_k23_store_holds
