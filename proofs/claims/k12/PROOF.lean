import PyProof.Rows.All
import Wide.All
import OpenK.AllK
import Wide.FinOn
import HandS.ForMost
import HandS.ForExc
import HandS.TupLe
import HandS.IsInst
import HandS.Small
import HandS.Wide
import HandS.ExcIs
import HandS.DictComp
import HandS.Rev
import HandS.Codes
import KE.Datum
import PySem.Challenge.RW_laminae_k12_places_and_parts
set_option Elab.async false
set_option linter.all false
set_option maxRecDepth 100000
set_option maxHeartbeats 4000000
namespace U
open PySem PySem.Spec PyProof.Rows L2
section weaken
variable {X : Cx}
theorem orR {f : Value → Value → Sem Value} {r r' : R2} (h : OpR X f r) (g : OpR X f r') : OpR X f (fun x y H Q => r x y H Q ∨ r' x y H Q) :=
  fun pins s σ H x y v u Q I rx ry q => q.elim (h pins s σ H x y v u Q I rx ry) (g pins s σ H x y v u Q I rx ry)
theorem wR {f : Value → Value → Sem Value} {r r' : R2} (h : OpR X f r) (k : ∀ x y H Q, r' x y H Q → r x y H Q) : OpR X f r' :=
  fun pins s σ H x y v u Q I rx ry q => h pins s σ H x y v u Q I rx ry (k _ _ _ _ q)
theorem wC {f : Value} {r r' : List V → Hp → VK → Prop} (h : CallR X f r) (k : ∀ xs H Q, r' xs H Q → r xs H Q) : CallR X f r' :=
  fun pins s σ H xs us Q I rx q => h pins s σ H xs us Q I rx (k _ _ _ q)
theorem orC {f : Value} {r r' : List V → Hp → VK → Prop} (h : CallR X f r) (g : CallR X f r') : CallR X f (fun xs H Q => r xs H Q ∨ r' xs H Q) :=
  fun pins s σ H xs us Q I rx q => q.elim (h pins s σ H xs us Q I rx) (g pins s σ H xs us Q I rx)
end weaken
def tCut (t u : TS) : TS := C8.tCut t u
theorem pss_cut {X : Cx} {st : Stmt} {rest : List Stmt} {t u : TS} (h1 : PS X st t) (h2 : PSs X rest u) : PSs X (st :: rest) (tCut t u) := C8.pss_cut h1 h2
section ops
variable {X : Cx}
/-- text times number -/
theorem op_strmul : OpR X (binaryOp .Mult) (fun x y H Q => ∃ (z : Str) (n : Int), x = .str z ∧ y = .int n ∧ MulOk z n ∧ Q (.str (Txt.mul z n)) H) := by
  intro pins s σ H x y v u Q I rx ry h
  obtain ⟨z, n, rfl, rfl, ok, q⟩ := h
  obtain ⟨t, rfl⟩ := rx
  obtain ⟨t', rfl⟩ := ry
  exact SB.mul ok fun t1 k => ⟨.str (Txt.mul z n), H, I.tok _, ⟨_, rfl⟩, q⟩
def uAdd (K : PySem.W.Frag) : R2 := fun x y H Q => match x, y with
  | .int i, .int j => Q (.int (i + j)) H
  | .str i, .str j => i.length + j.length ≤ sizeLine ∧ Q (.str (i ++ j)) H
  | .ref a, .ref b => rCat (.ref a) (.ref b) H Q ∨ rCatT K (.ref a) (.ref b) H Q
  | _, _ => False
theorem o_add : OpR X (binaryOp .Add) (uAdd X.K) := by
  refine wR (orR op_add (orR op_add_str (orR op_cat op_catT))) fun x y H Q q => ?_
  unfold uAdd at q
  split at q
  · exact .inl ⟨_, _, rfl, rfl, q⟩
  · exact .inr (.inl ⟨_, _, rfl, rfl, q⟩)
  · exact .inr (.inr q)
  · exact q.elim
def uSub : R2 := fun x y H Q => match x, y with
  | .int i, .int j => Q (.int (i - j)) H
  | _, _ => False
theorem o_sub : OpR X (binaryOp .Sub) uSub := by
  refine wR op_sub fun x y H Q q => ?_
  unfold uSub at q
  split at q
  · exact ⟨_, _, rfl, rfl, q⟩
  · exact q.elim
def uMul : R2 := fun x y H Q => match x, y with
  | .int i, .int j => (CMul i j ∨ CMulW i j) ∧ Q (.int (i * j)) H
  | .str z, .int n => MulOk z n ∧ Q (.str (Txt.mul z n)) H
  | .ref a, .int n => rRep (.ref a) (.int n) H Q
  | _, _ => False
theorem o_mul : OpR X (binaryOp .Mult) uMul := by
  refine wR (orR op_mul (orR op_mulW (orR op_strmul op_rep))) fun x y H Q q => ?_
  unfold uMul at q
  split at q
  · obtain ⟨c | c, q⟩ := q
    · exact .inl ⟨_, _, rfl, rfl, c, q⟩
    · exact .inr (.inl ⟨_, _, rfl, rfl, c, q⟩)
  · exact .inr (.inr (.inl ⟨_, _, rfl, rfl, q⟩))
  · exact .inr (.inr (.inr q))
  · exact q.elim
def uDiv : R2 := fun x y H Q => match x, y with
  | .int i, .int j => (0 < j ∧ j < 2 ^ 200) ∧ Q (.int (i / j)) H
  | _, _ => False
theorem o_div : OpR X (binaryOp .FloorDiv) uDiv := by
  refine wR op_fdivW fun x y H Q q => ?_
  unfold uDiv at q
  split at q
  · obtain ⟨⟨c1, c2⟩, q⟩ := q
    exact ⟨_, _, rfl, rfl, wide_div (b := 200) c1 (by omega) (by decide) (by decide), q⟩
  · exact q.elim
def uMod : R2 := fun x y H Q => match x, y with
  | .int i, .int j => 0 < j ∧ Q (.int (i % j)) H
  | _, _ => False
theorem o_mod : OpR X (binaryOp .Mod) uMod := by
  refine wR op_mod fun x y H Q q => ?_
  unfold uMod at q
  split at q
  · exact ⟨_, _, rfl, rfl, q⟩
  · exact q.elim
def uPow : R2 := fun x y H Q => match x, y with
  | .int i, .int j => CPow i j ∧ Q (.int (i ^ j.toNat)) H
  | _, _ => False
theorem o_pow : OpR X (binaryOp .Pow) uPow := by
  refine wR op_pow fun x y H Q q => ?_
  unfold uPow at q
  split at q
  · exact ⟨_, _, rfl, rfl, q⟩
  · exact q.elim
def uNeg : V → Hp → VK → Prop := fun x H Q => match x with
  | .int i => Q (.int (-i)) H
  | _ => False
/-- == of data without dicts -/
def rEqP (K : PySem.W.Frag) : R2 := fun x y H Q => ∃ d e, Dp K H x d ∧ Dp K H y e ∧ (d.plain = true ∧ d.depth ≤ 60) ∧ e.plain = true ∧ Q (.bl (PyData.eqv d e)) H
def rNeP (K : PySem.W.Frag) : R2 := fun x y H Q => ∃ d e, Dp K H x d ∧ Dp K H y e ∧ (d.plain = true ∧ d.depth ≤ 60) ∧ e.plain = true ∧ Q (.bl (!PyData.eqv d e)) H
theorem op_eqP (hu : X.A.units + 64 < cLine) : OpR X (compareOp .Eq) (rEqP X.K) := by
  intro pins s σ H x y v u Q I rx ry h
  obtain ⟨d, e, hd, he, ⟨p1, dp⟩, p2, q⟩ := h
  obtain ⟨as, r1⟩ := Dp.reads I d x v hd rx
  obtain ⟨bs, r2⟩ := Dp.reads I e y u he ry
  exact PySem.SeqAt.eq_plain r1 r2 p1 p2 (by have := Nat.min_le_left d.depth e.depth; omega) ⟨.bl _, H, I, rfl, q⟩
theorem op_neP (hu : X.A.units + 64 < cLine) : OpR X (compareOp .NotEq) (rNeP X.K) := by
  intro pins s σ H x y v u Q I rx ry h
  obtain ⟨d, e, hd, he, ⟨p1, dp⟩, p2, q⟩ := h
  obtain ⟨as, r1⟩ := Dp.reads I d x v hd rx
  obtain ⟨bs, r2⟩ := Dp.reads I e y u he ry
  exact PySem.SeqAt.ne_plain r1 r2 p1 p2 (by have := Nat.min_le_left d.depth e.depth; omega) ⟨.bl _, H, I, rfl, q⟩
theorem d_int (i j : Int) : decide (V.int i = V.int j) = decide (i = j) := decide_eq_decide.mpr ⟨fun h => V.int.inj h, fun h => h ▸ rfl⟩
theorem d_str (i j : Str) : decide (V.str i = V.str j) = decide (i = j) := decide_eq_decide.mpr ⟨fun h => V.str.inj h, fun h => h ▸ rfl⟩
theorem d_bl (i j : Bool) : decide (V.bl i = V.bl j) = decide (i = j) := decide_eq_decide.mpr ⟨fun h => V.bl.inj h, fun h => h ▸ rfl⟩
/-- the same value, of two scalars -/
def sameS : V → V → Bool
  | .non, .non => true
  | .int i, .int j => decide (i = j)
  | .str i, .str j => decide (i = j)
  | .bl i, .bl j => decide (i = j)
  | .byt i, .byt j => decide (i = j)
  | _, _ => false
theorem sameS_eq {x y : V} (h : scal x y = true) : decide (x = y) = sameS x y := by
  cases x <;> cases y <;> first
    | (cases h; done)
    | exact d_int _ _
    | exact d_str _ _
    | exact d_bl _ _
    | rfl
    | (exact decide_eq_decide.mpr ⟨fun h => V.byt.inj h, fun h => h ▸ rfl⟩)
    | (exact decide_eq_false (fun q => nomatch q))
def uEq (K : PySem.W.Frag) : R2 := fun x y H Q => match x, y with
  | .int i, .int j => Q (.bl (decide (i = j))) H
  | .str i, .str j => Q (.bl (decide (i = j))) H
  | .bl i, .bl j => Q (.bl (decide (i = j))) H
  | x, y => (scal x y = true ∧ Q (.bl (sameS x y)) H) ∨ rEqP K x y H Q
theorem o_eq (hu : X.A.units + 64 < cLine) : OpR X (compareOp .Eq) (uEq X.K) := by
  refine wR (orR op_eq (op_eqP hu)) fun x y H Q q => ?_
  unfold uEq at q
  split at q
  · exact .inl ⟨rfl, (d_int _ _).symm ▸ q⟩
  · exact .inl ⟨rfl, (d_str _ _).symm ▸ q⟩
  · exact .inl ⟨rfl, (d_bl _ _).symm ▸ q⟩
  · rcases q with ⟨h, q⟩ | q
    · exact .inl ⟨h, (sameS_eq h).symm ▸ q⟩
    · exact .inr q
def uNe (K : PySem.W.Frag) : R2 := fun x y H Q => match x, y with
  | .int i, .int j => Q (.bl (!decide (i = j))) H
  | .str i, .str j => Q (.bl (!decide (i = j))) H
  | .bl i, .bl j => Q (.bl (!decide (i = j))) H
  | x, y => (scal x y = true ∧ Q (.bl (!sameS x y)) H) ∨ rNeP K x y H Q
theorem o_ne (hu : X.A.units + 64 < cLine) : OpR X (compareOp .NotEq) (uNe X.K) := by
  refine wR (orR op_ne (op_neP hu)) fun x y H Q q => ?_
  unfold uNe at q
  split at q
  · exact .inl ⟨rfl, (d_int _ _).symm ▸ q⟩
  · exact .inl ⟨rfl, (d_str _ _).symm ▸ q⟩
  · exact .inl ⟨rfl, (d_bl _ _).symm ▸ q⟩
  · rcases q with ⟨h, q⟩ | q
    · exact .inl ⟨h, (sameS_eq h).symm ▸ q⟩
    · exact .inr q
/-- tuples of ints in their order -/
theorem lexAt_eq (ns ms : List Int) (op : Int → Int → Bool) (z : Bool) (f : List Int → List Int → Bool)
    (h0 : ∀ i, i = ns.length ∨ i = ms.length → i ≤ ns.length → i ≤ ms.length → f (ns.drop i) (ms.drop i) = z)
    (h1 : ∀ x xs y ys, f (x :: xs) (y :: ys) = if x = y then f xs ys else op x y) :
    ∀ k i, i + k = min ns.length ms.length → Ob.lexAt (fun j => decide (ns.getD j 0 = ms.getD j 0)) (fun j => op (ns.getD j 0) (ms.getD j 0)) z i k = f (ns.drop i) (ms.drop i)
  | 0, i, h => by
    rw [Ob.lexAt_zero, h0 i (by omega) (by omega) (by omega)]
  | k + 1, i, h => by
    have a : i < ns.length := by omega
    have b : i < ms.length := by omega
    rw [Ob.lexAt_succ, List.drop_eq_getElem_cons a, List.drop_eq_getElem_cons b, h1, lexAt_eq ns ms op z f h0 h1 k (i + 1) (by omega)]
    simp only [List.getD_eq_getElem?_getD, List.getElem?_eq_getElem a, List.getElem?_eq_getElem b, Option.getD_some, decide_eq_true_eq]
def lexLe (a b : List Int) : Bool := !HT.lexLt b a
theorem lexLe_cons (x y : Int) (xs ys : List Int) : lexLe (x :: xs) (y :: ys) = if x = y then lexLe xs ys else decide (x ≤ y) := by
  unfold lexLe
  rw [HT.lexLt_cons]
  by_cases h : x = y
  · rw [if_pos h, if_pos h.symm]
  · rw [if_neg h, if_neg (fun e => h e.symm), ← decide_not]
    exact decide_eq_decide.mpr (by omega)
theorem lexLe_end (ns ms : List Int) (i : Nat) (h : i = ns.length ∨ i = ms.length) (h1 : i ≤ ns.length) (h2 : i ≤ ms.length) : lexLe (ns.drop i) (ms.drop i) = decide (ns.length ≤ ms.length) := by
  unfold lexLe
  by_cases a : i = ns.length
  · have e : ns.drop i = [] := List.drop_eq_nil_of_le (by omega)
    rw [e, decide_eq_true (by omega)]
    cases ms.drop i <;> rfl
  · have e : ms.drop i = [] := List.drop_eq_nil_of_le (by omega)
    rw [e, decide_eq_false (by omega)]
    cases e2 : ns.drop i with
    | nil => exact absurd (List.drop_eq_nil_iff.mp e2) (by omega)
    | cons x r => rfl
theorem lexAt_le (ns ms : List Int) : Ob.lexAt (fun j => decide (ns.getD j 0 = ms.getD j 0)) (fun j => decide (ns.getD j 0 ≤ ms.getD j 0)) (decide (ns.length ≤ ms.length)) 0 (min ns.length ms.length) = lexLe ns ms :=
  lexAt_eq ns ms (fun x y => decide (x ≤ y)) _ lexLe (fun i h a b => lexLe_end ns ms i h a b) (fun x xs y ys => lexLe_cons x y xs ys) _ 0 (by omega)
def lexGe (a b : List Int) : Bool := !HT.lexLt a b
def uLt (K : PySem.W.Frag) : R2 := fun x y H Q => match x, y with
  | .int i, .int j => Q (.bl (decide (i < j))) H
  | .ref a, .ref b => ∃ ns ms : List Int, SqT K H a (ns.map V.int) ∧ SqT K H b (ms.map V.int) ∧ Q (.bl (HT.lexLt ns ms)) H
  | _, _ => False
theorem o_lt (hu : X.A.units < cLine) : OpR X (compareOp .Lt) (uLt X.K) := by
  refine wR (orR op_lt (op_ltT hu)) fun x y H Q q => ?_
  unfold uLt at q
  split at q
  · exact .inl ⟨_, _, rfl, rfl, q⟩
  · obtain ⟨ns, ms, a, b, q⟩ := q
    exact .inr ⟨_, _, ns, ms, rfl, rfl, a, b, q⟩
  · exact q.elim
def uLe (K : PySem.W.Frag) : R2 := fun x y H Q => match x, y with
  | .int i, .int j => Q (.bl (decide (i ≤ j))) H
  | .ref a, .ref b => ∃ ns ms : List Int, SqT K H a (ns.map V.int) ∧ SqT K H b (ms.map V.int) ∧ Q (.bl (lexLe ns ms)) H
  | _, _ => False
theorem o_le (hu : X.A.units < cLine) : OpR X (compareOp .LtE) (uLe X.K) := by
  refine wR (orR op_le (op_leT hu)) fun x y H Q q => ?_
  unfold uLe at q
  split at q
  · exact .inl ⟨_, _, rfl, rfl, q⟩
  · obtain ⟨ns, ms, a, b, q⟩ := q
    exact .inr ⟨_, _, ns, ms, rfl, rfl, a, b, by rw [lexAt_le]; exact q⟩
  · exact q.elim
def uGe (K : PySem.W.Frag) : R2 := fun x y H Q => match x, y with
  | .int i, .int j => Q (.bl (decide (j ≤ i))) H
  | .ref a, .ref b => ∃ ns ms : List Int, SqT K H a (ns.map V.int) ∧ SqT K H b (ms.map V.int) ∧ Q (.bl (lexGe ns ms)) H
  | _, _ => False
def uGt : R2 := fun x y H Q => match x, y with
  | .int i, .int j => Q (.bl (decide (j < i))) H
  | _, _ => False
theorem o_gt : OpR X (compareOp .Gt) uGt := by
  refine wR op_gt fun x y H Q q => ?_
  unfold uGt at q
  split at q
  · exact ⟨_, _, rfl, rfl, q⟩
  · exact q.elim
def isNon : V → Bool
  | .non => true
  | _ => false
def uIs : R2 := fun x y H Q => match y with
  | .non => Q (.bl (isNon x)) H
  | .bl b => ∃ a, x = .bl a ∧ Q (.bl (decide (a = b))) H
  | _ => False
def uIsnt : R2 := fun x y H Q => match y with
  | .non => Q (.bl (!isNon x)) H
  | .bl b => ∃ a, x = .bl a ∧ Q (.bl (!decide (a = b))) H
  | _ => False
end ops
section subs
variable {X : Cx}
/-- a[b] of lists, tuples, texts -/
def uIx (K : PySem.W.Frag) : R2 := fun x y H Q => match x, y with
  | .ref p, .int i => ∃ xs v, (SqL K H p xs ∨ SqT K H p xs) ∧ atI xs i = some v ∧ Q v H
  | .str z, .int i => z.length ≤ sizeLine ∧ ∃ c, atI z.cps.toList i = some c ∧ Q (.str ⟨#[c]⟩) H
  | _, _ => False
theorem ix_u : IxR X (uIx X.K) := by
  intro value slice pins s σ H x y v u Q I rx ry h hs
  refine ix_seq value slice pins s σ H x y v u Q I rx ry ?_ hs
  unfold uIx at h
  split at h
  · obtain ⟨xs, v, e | e, g, q⟩ := h
    · exact .inl ⟨_, xs, _, v, rfl, rfl, e, g, q⟩
    · exact .inr (.inl ⟨_, xs, _, v, rfl, rfl, e, g, q⟩)
  · obtain ⟨z, c, e, q⟩ := h
    exact .inr (.inr ⟨_, _, c, rfl, rfl, z, e, q⟩)
  · exact h.elim
theorem e_ix {a b : Expr} {ta tb : TE} {pos : Pos} (ha : PE X a ta) (hb : PE X b tb) (hs : PlainIx b := by exact fun _ _ => rfl) : PE X (.Subscript a b pos) (tOp (uIx X.K) ta tb) := pe_ix ix_u ha hb hs
/-- a[lo:hi] -/
def uSl (K : PySem.W.Frag) : V → Option Int → Option Int → Hp → VK → Prop := fun x lo hi H Q => rSlL K x lo hi H Q ∨ rSlT K x lo hi H Q ∨ rSlS x lo hi H Q
theorem sl_u : SlR X (uSl X.K) := SlR.or sl_list (SlR.or sl_tup sl_str)
theorem e_sl {e : Expr} {lo hi : Option Expr} {te : TE} {tl th : TO} {p2 pos : Pos} (he : PE X e te) (hl : PO X lo tl) (hh : PO X hi th) : PE X (.Subscript e (.Slice lo hi none p2) pos) (tSl (uSl X.K) te tl th) := pe_slice sl_u he hl hh
end subs
section calls
variable {X : Cx}
/-- len -/
def uLen (K : PySem.W.Frag) : List V → Hp → VK → Prop := fun xs H Q => match xs with
  | [.ref p] => (∃ ys, (SqL K H p ys ∨ SqT K H p ys) ∧ Q (.int ys.length) H) ∨ ∃ kvs, H p = some (.dK kvs) ∧ Q (.int kvs.length) H
  | [.str z] => z.length ≤ sizeLine ∧ Q (.int z.length) H
  | _ => False
theorem c_len : CallR X (.builtin "len") (uLen X.K) := by
  refine wC (orC call_len_seq (orC call_len_str call_lenD)) fun xs H Q q => ?_
  unfold uLen at q
  split at q
  · rcases q with ⟨ys, a, q⟩ | ⟨kvs, a, q⟩
    · exact .inl ⟨_, ys, rfl, a, q⟩
    · exact .inr (.inr ⟨_, kvs, rfl, a, q⟩)
  · exact .inr (.inl ⟨_, rfl, q⟩)
  · exact q.elim
/-- list(x), tuple(x) -/
def uList (K : PySem.W.Frag) : List V → Hp → VK → Prop := fun xs H Q => match xs with
  | [.ref p] => ∃ ys, (SqL K H p ys ∨ SqT K H p ys) ∧ ∀ l, H l = none → Q (.ref l) (upd H l (.lst ys))
  | _ => False
theorem c_list : CallR X (.type "list") (uList X.K) := by
  refine wC call_list_of fun xs H Q q => ?_
  unfold uList at q
  split at q
  · obtain ⟨ys, a, q⟩ := q
    exact ⟨_, ys, rfl, a, q⟩
  · exact q.elim
def uAbs : List V → Hp → VK → Prop := fun xs H Q => match xs with
  | [.int i] => Q (.int (if i < 0 then -i else i)) H
  | _ => False
def uMax : List V → Hp → VK → Prop := fun xs H Q => match xs with
  | [.int i, .int j] => Q (.int (if j > i then j else i)) H
  | _ => False
theorem c_max (hc : X.calm = true) : CallR X (.builtin "max") uMax := by
  refine wC (call_max2 hc) fun xs H Q q => ?_
  unfold uMax at q
  split at q
  · exact ⟨_, _, rfl, q⟩
  · exact q.elim
def uMin : List V → Hp → VK → Prop := fun xs H Q => match xs with
  | [.int i, .int j] => Q (.int (if j < i then j else i)) H
  | _ => False
def uInt : List V → Hp → VK → Prop := fun xs H Q => match xs with
  | [.int i] => Q (.int i) H
  | [.bl k] => Q (.int (if k then 1 else 0)) H
  | _ => False
inductive Ty | int | bool | str | list | tuple | dict
def Ty.nm : Ty → String
  | .int => "int" | .bool => "bool" | .str => "str" | .list => "list" | .tuple => "tuple" | .dict => "dict"
/-- of a scalar -/
def isS : Ty → V → Bool
  | .int, .int _ => true
  | .int, .bl _ => true
  | .bool, .bl _ => true
  | .str, .str _ => true
  | _, _ => false
/-- of an object that is a list, a tuple, a dict -/
inductive Ob | list | tuple | dict
def Ob.nm : Ob → String
  | .list => "list" | .tuple => "tuple" | .dict => "dict"
def isO : Ty → Ob → Bool
  | .list, .list => true
  | .tuple, .tuple => true
  | .dict, .dict => true
  | _, _ => false
def uIsi (K : PySem.W.Frag) (n : Ty) : List V → Hp → VK → Prop := fun xs H Q => match xs with
  | [.int i, .ty m] => m = n.nm ∧ Q (.bl (isS n (.int i))) H
  | [.bl i, .ty m] => m = n.nm ∧ Q (.bl (isS n (.bl i))) H
  | [.str i, .ty m] => m = n.nm ∧ Q (.bl (isS n (.str i))) H
  | [.non, .ty m] => m = n.nm ∧ Q (.bl (isS n .non)) H
  | [.ref a, .ty m] => m = n.nm ∧ ∃ o : Ob, TyX K H (.ref a) (.type o.nm) ∧ Q (.bl (isO n o)) H
  | _ => False
theorem kit_int : ∀ n : Ty, kitB "int" n.nm = some (isS n (.int 0)) := fun n => by cases n <;> decide +kernel
theorem kit_bool : ∀ n : Ty, kitB "bool" n.nm = some (isS n (.bl true)) := fun n => by cases n <;> decide +kernel
theorem kit_str : ∀ n : Ty, kitB "str" n.nm = some (isS n (.str Str.empty)) := fun n => by cases n <;> decide +kernel
theorem kit_non : ∀ n : Ty, kitB "NoneType" n.nm = some (isS n .non) := fun n => by cases n <;> decide +kernel
theorem kit_obj : ∀ (n : Ty) (o : Ob), kitB o.nm n.nm = some (isO n o) := fun n o => by cases n <;> cases o <;> decide +kernel
theorem c_isi (n : Ty) : CallR X (.builtin "isinstance") (uIsi X.K n) := by
  refine wC call_isi fun xs H Q q => ?_
  unfold uIsi at q
  split at q
  · obtain ⟨rfl, q⟩ := q
    exact ⟨_, _, .type "int", .type n.nm, _, rfl, .ty n.nm, .base (.int _), kit_ty (kit_int n), by cases n <;> exact q⟩
  · obtain ⟨rfl, q⟩ := q
    exact ⟨_, _, .type "bool", .type n.nm, _, rfl, .ty n.nm, .base (.bl _), kit_ty (kit_bool n), by cases n <;> exact q⟩
  · obtain ⟨rfl, q⟩ := q
    exact ⟨_, _, .type "str", .type n.nm, _, rfl, .ty n.nm, .base (.str _), kit_ty (kit_str n), by cases n <;> exact q⟩
  · obtain ⟨rfl, q⟩ := q
    exact ⟨_, _, .type "NoneType", .type n.nm, _, rfl, .ty n.nm, .base .non, kit_ty (kit_non n), by cases n <;> exact q⟩
  · obtain ⟨rfl, o, t, q⟩ := q
    exact ⟨_, _, .type o.nm, .type n.nm, _, rfl, .ty n.nm, t, kit_ty (kit_obj n o), q⟩
  · exact q.elim
end calls
section own
variable {X : Cx} {k : Nat} {f C : Addr} {fd : FuncData} {ps : List Str} {sp : Sp} {W : WX} {x m : Str} {p pos apos : Pos} {e o : Expr} {es : List Expr} {ta : TE} {t : TA}
def uCall (sp : Sp) (W : WX) (t : TA) : TE := fun σ H Q => t σ H fun vs H1 => sp vs H1 Q fun c d H2 => W c d σ H2
theorem e_call (F : FnOk X.prog X.w X.K X.mg X.base (L2.CX X.prog X.w) k f fd ps sp) (hr : Room k X.A) (hm : X.mg x = some (.ref f)) (hk : PySem.W.keepIn X.K (.ref f) = true) (hb : Binds X.K fd ps []) (tk : Takes X W)
    (ha : PA X (e :: es) t) (hg : Gl X x := by rfl) (hdb : (x == ("__debug__" : Str)) = false := by decide) (he : starEach (e :: es) X.env = (false, eval e X.env) :: starEach es X.env := by rfl) (hpl : (backTo pos (starEach es X.env)).any (·.1) = false := by rfl) :
    PE X (.Call (.Name x p) (e :: es) [] pos) (uCall sp W t) := pe_callS (E := WE W) F hr hg hm hk hb (fun σ => passAt tk σ) ha hdb he hpl
/-- o.m(..) -/
def uMeth (C : Addr) (m : Str) (sp : Sp) (W : WX) (ta : TE) (t : TA) : TE := fun σ H Q => ta σ H fun x H1 => ∃ a dx fs, x = .ref a ∧ H1 a = some (.ins C dx fs) ∧ fs.lookup m = none ∧
  t σ H1 fun vs H2 => sp (x :: vs) H2 Q fun c d H3 => W c d σ H3
/-- what a body wants of exceptions, as a wish -/
abbrev WB (E : XK) : WX := fun c d _ H => E c d H
def uRaise (C : Addr) (W : WX) : TS := fun _ σ H => W (.ref C) none σ H
end own
section fields
variable {X : Cx} {C : Addr} {f : Str} {e o v : Expr} {ta tv : TE} {pos pos' : Pos}
def uFld (C : Addr) (f : Str) (ta : TE) : TE := fun σ H Q => ta σ H fun x H1 => ∃ a dx fs v, x = .ref a ∧ H1 a = some (.ins C dx fs) ∧ fs.lookup f = some v ∧ Q v H1
def uSetF (C : Addr) (f : Str) (ta tv : TE) : TS := fun D σ H => tv σ H fun y H1 => ta σ H1 fun x H2 => ∃ a dx fs, x = .ref a ∧ H2 a = some (.ins C dx fs) ∧ fs.length < 1000 ∧ D.nx σ (upd H2 a (.ins C dx (putF f y fs)))
end fields
section truth
variable {X : Cx} {e : Expr} {te : TE}
def truV (K : PySem.W.Frag) (x : V) (H1 : Hp) (Q : Bool → Hp → Prop) : Prop := match x with
  | .bl b => Q b H1
  | .non => Q false H1
  | .int i => Q (!decide (i = 0)) H1
  | .str z => z.length ≤ sizeLine ∧ Q (!decide (z.length = 0)) H1
  | .ref p => (∃ xs, (SqL K H1 p xs ∨ SqT K H1 p xs) ∧ Q (!xs.isEmpty) H1) ∨ ∃ kvs, H1 p = some (.dK kvs) ∧ Q (!kvs.isEmpty) H1
  | _ => False
def uTru (K : PySem.W.Frag) (te : TE) : TT := fun σ H Q => te σ H fun x H1 => truV K x H1 Q
theorem t_tru (he : PE X e te) (hw : ∀ whole, isTrue e X.env whole = (do let v ← whole; standAt e.pos; holding [v] (truthy v)) := by intro _; rfl) : PT X e (uTru X.K te) := by
  refine ⟨fun pins s σ H Q I h => isTrue_plain (thn (he.run pins s σ H _ I h) fun v s1 hh => ?_) (hw _)⟩
  obtain ⟨x, H1, I1, r1, q⟩ := hh
  refine tru_ok pins s1 σ H1 x v Q I1 r1 ?_
  unfold truV at q
  split at q
  · exact ⟨_, rfl, q⟩
  · exact ⟨_, rfl, q⟩
  · rename_i i
    refine ⟨_, rfl, ?_⟩
    rw [show (i != 0) = !decide (i = 0) by rw [bne, Bool.beq_eq_decide_eq]]
    exact q
  · rename_i z
    refine ⟨_, ⟨q.1, rfl⟩, ?_⟩
    rw [show ((z.length : Int) != 0) = !decide (z.length = 0) by rw [bne, Bool.beq_eq_decide_eq]; congr 1; exact decide_eq_decide.mpr (by omega)]
    exact q.2
  · rcases q with ⟨xs, a | a, q⟩ | ⟨kvs, a, q⟩
    · exact ⟨_, .inl ⟨xs, a, rfl⟩, q⟩
    · exact ⟨_, .inr (.inl ⟨xs, a, rfl⟩), q⟩
    · exact ⟨_, .inr (.inr ⟨kvs, a, rfl⟩), q⟩
  · exact q.elim
end truth
def forQ (g : TG) (tb : TS) (D : Ends) (σ : L2.St) (J : It) (H1 : Hp) : Prop := ∃ W : Nat → Nat → L2.St → Hp → Prop, (∃ m, W 0 m σ H1) ∧ ∀ i m σ H, W i m σ H →
  (J.stop i H ∧ D.nx σ H) ∨ (J.go i H ∧ ∃ N : L2.St → Hp → Prop, (∀ σ' H', N σ' H' → ∃ m', m' < m ∧ W (i + 1) m' σ' H') ∧ ∀ x H', J.yld i H x H' → g x σ H' fun σ2 H2 => tb { D with nx := N, ct := N, bk := D.nx } σ2 H2)
def newT (xs : List V) (H1 : Hp) (Q : VK) : Prop := xs.length ≤ sizeLine ∧ ∀ p, H1 p = none → Q (.ref p) (upd H1 p (.tup xs))
def newL (xs : List V) (H1 : Hp) (Q : VK) : Prop := xs.length ≤ sizeLine ∧ ∀ p, H1 p = none → Q (.ref p) (upd H1 p (.lst xs))
def bmQ (K : PySem.W.Frag) (T : String) (q : V → List V → Hp → VK → Prop) (tA : TA) (σ : L2.St) (x : V) (H1 : Hp) (Q : VK) : Prop := tyV K T x H1 ∧ tA σ H1 fun xs H2 => q x xs H2 Q
def rng1Q (vs : List V) (H1 : Hp) (R : It → Hp → Prop) : Prop := ∃ j : Int, vs = [.int j] ∧ -(2 ^ 62) ≤ j ∧ j < 2 ^ 62 ∧ R (Itr 0 j.toNat) H1
def rng2Q (vs : List V) (H1 : Hp) (R : It → Hp → Prop) : Prop := ∃ i j : Int, vs = [.int i, .int j] ∧ (-(2 ^ 62) ≤ i ∧ i < 2 ^ 62 ∧ -(2 ^ 62) ≤ j ∧ j < 2 ^ 62) ∧ R (Itr i (j - i).toNat) H1
def listQ (K : PySem.W.Frag) (x : V) (H1 : Hp) (R : It → Hp → Prop) : Prop := ∃ a, x = .ref a ∧ (∃ xs, SqL K H1 a xs) ∧ R (Itl K a) H1
def tupQ (K : PySem.W.Frag) (x : V) (H1 : Hp) (R : It → Hp → Prop) : Prop := ∃ a, x = .ref a ∧ (∃ xs, SqT K H1 a xs) ∧ R (Itt K a) H1
def strQ (x : V) (H1 : Hp) (R : It → Hp → Prop) : Prop := ∃ z, x = .str z ∧ R (Its z) H1
def revQ (K : PySem.W.Frag) (vs : List V) (H1 : Hp) (R : It → Hp → Prop) : Prop := ∃ (a : Addr) (xs : List V), vs = [.ref a] ∧ SqL K H1 a xs ∧ R (Itv K a xs.length) H1
def fldQ (C : Addr) (f : Str) (x : V) (H1 : Hp) (Q : VK) : Prop := ∃ a dx fs v, x = .ref a ∧ H1 a = some (.ins C dx fs) ∧ fs.lookup f = some v ∧ Q v H1
def methQ (C : Addr) (m : Str) (sp : Sp) (W : WX) (t : TA) (σ : L2.St) (x : V) (H1 : Hp) (Q : VK) : Prop := ∃ a dx fs, x = .ref a ∧ H1 a = some (.ins C dx fs) ∧ fs.lookup m = none ∧ t σ H1 fun vs H2 => sp (x :: vs) H2 Q fun c d H3 => W c d σ H3
def setfQ (C : Addr) (f : Str) (x y : V) (H2 : Hp) (N : Hp → Prop) : Prop := ∃ a dx fs, x = .ref a ∧ H2 a = some (.ins C dx fs) ∧ fs.length < 1000 ∧ N (upd H2 a (.ins C dx (putF f y fs)))
section steps
variable {K : PySem.W.Frag} {D : Ends} {σ : L2.St} {H : Hp} {Q : VK} {QB : Bool → Hp → Prop} {QA : List V → Hp → Prop} {t u : TS} {te ta tb tv : TE} {tA : TA} {c c1 c2 : TT} {g : TG} {i : Nat} {v x y : V} {r r' : R2} {W : WX} {sp : Sp} {b : Bool} {C a : Addr} {f : Str}
theorem w_seq (h : t { D with nx := u D } σ H) : tSeq t u D σ H := h
theorem w_cut (P : L2.St → Hp → Prop) (h1 : t { D with nx := P } σ H) (h2 : ∀ σ H, P σ H → u D σ H) : tCut t u D σ H := ⟨P, h1, h2⟩
theorem w_next (h : D.nx σ H) : tNext D σ H := h
theorem w_asg (h : te σ H fun x H1 => g x σ H1 D.nx) : tAsg te g D σ H := h
theorem w_name {N : L2.St → Hp → Prop} (h : N (σ.set i (some v)) H) : gName i v σ H N := h
theorem w_ret (h : te σ H D.rt) : tRet te D σ H := h
theorem w_retN (h : D.rt .non H) : tRetN D σ H := h
theorem w_if (h : c σ H fun b H1 => if b = true then t D σ H1 else u D σ H1) : tIfS c t u D σ H := h
theorem w_drop (h : te σ H fun _ H1 => D.nx σ H1) : tDrop te D σ H := h
theorem w_brk (h : D.bk σ H) : tBreak D σ H := h
theorem w_cont (h : D.ct σ H) : tCont D σ H := h
theorem w_aug {ti : TIp} (e : σ[i]? = some (some x)) (h : te σ H fun y H1 => ti x y H1 fun z H2 => D.nx (σ.set i (some z)) H2) : tAug i te ti D σ H := ⟨x, e, h⟩
theorem w_ipI {k : Int → Int → Int} {m n : Int} (h : Q (.int (k m n)) H) : ipI k (.int m) (.int n) H Q := ⟨m, n, rfl, rfl, h⟩
theorem w_test (h : te σ H fun x H1 => ∃ k, x = .bl k ∧ QB k H1) : tTest te σ H QB := h
theorem w_not (h : c σ H fun k H1 => QB (!k) H1) : tNot c σ H QB := h
theorem w_and (h : c1 σ H fun k H1 => if k = true then c2 σ H1 QB else QB false H1) : tAnd c1 c2 σ H QB := h
theorem w_or (h : c1 σ H fun k H1 => if k = true then QB true H1 else c2 σ H1 QB) : tOr c1 c2 σ H QB := h
theorem w_andV (h : ta σ H fun x H1 => ∃ k, x = .bl k ∧ if k = true then tb σ H1 Q else Q (.bl false) H1) : tAndV ta tb σ H Q := h
theorem w_orV (h : ta σ H fun x H1 => ∃ k, x = .bl k ∧ if k = true then Q (.bl true) H1 else tb σ H1 Q) : tOrV ta tb σ H Q := h
theorem w_notV (h : ta σ H fun x H1 => ∃ k, x = .bl k ∧ Q (.bl (!k)) H1) : tNotV ta σ H Q := h
theorem w_blP {P : Bool → Prop} (h : P b) : ∃ k, V.bl b = .bl k ∧ P k := ⟨b, rfl, h⟩
theorem w_ifE (h : c σ H fun k H1 => if k = true then ta σ H1 Q else tb σ H1 Q) : tIf c ta tb σ H Q := h
theorem w_var (e : σ[i]? = some (some v)) (h : Q v H) : tVar i σ H Q := ⟨v, e, h⟩
theorem w_c (h : Q v H) : tC v σ H Q := h
theorem w_op (h : ta σ H fun x H1 => tb σ H1 fun y H2 => r x y H2 Q) : tOp r ta tb σ H Q := h
theorem w_un {ru : V → Hp → VK → Prop} (h : ta σ H fun x H1 => ru x H1 Q) : tUn ru ta σ H Q := h
theorem w_neg {m : Int} (h : Q (.int (-m)) H) : uNeg (.int m) H Q := h
theorem w_chain {tc : TE} (h : ta σ H fun x H1 => tb σ H1 fun y H2 => r x y H2 fun z H3 => ∃ k, z = .bl k ∧ if k = true then tc σ H3 fun w H4 => r' y w H4 Q else Q (.bl false) H3) : tChain r r' ta tb tc σ H Q := h
theorem w_cons (h : te σ H fun x H1 => tA σ H1 fun xs H2 => QA (x :: xs) H2) : tCons te tA σ H QA := h
theorem w_nil (h : QA [] H) : tNil σ H QA := h
theorem w_tup (h : tA σ H fun xs H1 => newT xs H1 Q) : tTup tA σ H Q := h
theorem w_lst (h : tA σ H fun xs H1 => newL xs H1 Q) : tLst tA σ H Q := h
theorem small9 {n : Nat} (h : n ≤ 100000) : n ≤ sizeLine := Nat.le_trans h (by decide)
theorem w_newT {xs : List V} (s : xs.length ≤ 100000) (h : ∀ p, H p = none → Q (.ref p) (upd H p (.tup xs))) : newT xs H Q := ⟨small9 s, h⟩
theorem w_newL {xs : List V} (s : xs.length ≤ 100000) (h : ∀ p, H p = none → Q (.ref p) (upd H p (.lst xs))) : newL xs H Q := ⟨small9 s, h⟩
theorem w_add {m n : Int} (h : Q (.int (m + n)) H) : uAdd K (.int m) (.int n) H Q := h
theorem w_sub {m n : Int} (h : Q (.int (m - n)) H) : uSub (.int m) (.int n) H Q := h
theorem w_mul {m n : Int} (s : CMul m n) (h : Q (.int (m * n)) H) : uMul (.int m) (.int n) H Q := ⟨.inl s, h⟩
theorem w_div {m n : Int} (s : 0 < n ∧ n < 2 ^ 200) (h : Q (.int (m / n)) H) : uDiv (.int m) (.int n) H Q := ⟨s, h⟩
theorem w_mod {m n : Int} (s : 0 < n) (h : Q (.int (m % n)) H) : uMod (.int m) (.int n) H Q := ⟨s, h⟩
theorem w_pow {m n : Int} (s : CPow m n) (h : Q (.int (m ^ n.toNat)) H) : uPow (.int m) (.int n) H Q := ⟨s, h⟩
theorem w_eqI {m n : Int} (h : Q (.bl (decide (m = n))) H) : uEq K (.int m) (.int n) H Q := h
theorem w_eqS {m n : Str} (h : Q (.bl (decide (m = n))) H) : uEq K (.str m) (.str n) H Q := h
theorem w_eqB {m n : Bool} (h : Q (.bl (decide (m = n))) H) : uEq K (.bl m) (.bl n) H Q := h
theorem w_neI {m n : Int} (h : Q (.bl (!decide (m = n))) H) : uNe K (.int m) (.int n) H Q := h
theorem w_neS {m n : Str} (h : Q (.bl (!decide (m = n))) H) : uNe K (.str m) (.str n) H Q := h
theorem w_neB {m n : Bool} (h : Q (.bl (!decide (m = n))) H) : uNe K (.bl m) (.bl n) H Q := h
theorem w_lt {m n : Int} (h : Q (.bl (decide (m < n))) H) : uLt K (.int m) (.int n) H Q := h
theorem w_le {m n : Int} (h : Q (.bl (decide (m ≤ n))) H) : uLe K (.int m) (.int n) H Q := h
theorem w_gt {m n : Int} (h : Q (.bl (decide (n < m))) H) : uGt (.int m) (.int n) H Q := h
theorem w_ge {m n : Int} (h : Q (.bl (decide (n ≤ m))) H) : uGe K (.int m) (.int n) H Q := h
theorem w_cb {q : List V → Hp → VK → Prop} (h : tA σ H fun vs H1 => q vs H1 Q) : tCB q tA σ H Q := h
theorem w_call (h : tA σ H fun vs H1 => sp vs H1 Q fun c d H2 => W c d σ H2) : uCall sp W tA σ H Q := h
theorem w_tru (h : te σ H fun x H1 => truV K x H1 QB) : uTru K te σ H QB := h
theorem w_truB {b : Bool} (h : QB b H) : truV K (.bl b) H QB := h
theorem w_truN (h : QB false H) : truV K .non H QB := h
theorem w_truI {m : Int} (h : QB (!decide (m = 0)) H) : truV K (.int m) H QB := h
theorem w_isi_int_int {m : Int} (h : Q (.bl true) H) : uIsi K .int [(.int m), .ty "int"] H Q := ⟨rfl, h⟩
theorem w_isi_int_bl {m : Bool} (h : Q (.bl true) H) : uIsi K .int [(.bl m), .ty "int"] H Q := ⟨rfl, h⟩
theorem w_isi_int_str {m : Str} (h : Q (.bl false) H) : uIsi K .int [(.str m), .ty "int"] H Q := ⟨rfl, h⟩
theorem w_isi_int_non  (h : Q (.bl false) H) : uIsi K .int [.non, .ty "int"] H Q := ⟨rfl, h⟩
theorem w_isi_bool_int {m : Int} (h : Q (.bl false) H) : uIsi K .bool [(.int m), .ty "bool"] H Q := ⟨rfl, h⟩
theorem w_isi_bool_bl {m : Bool} (h : Q (.bl true) H) : uIsi K .bool [(.bl m), .ty "bool"] H Q := ⟨rfl, h⟩
theorem w_isi_bool_str {m : Str} (h : Q (.bl false) H) : uIsi K .bool [(.str m), .ty "bool"] H Q := ⟨rfl, h⟩
theorem w_isi_bool_non  (h : Q (.bl false) H) : uIsi K .bool [.non, .ty "bool"] H Q := ⟨rfl, h⟩
theorem w_isi_str_int {m : Int} (h : Q (.bl false) H) : uIsi K .str [(.int m), .ty "str"] H Q := ⟨rfl, h⟩
theorem w_isi_str_bl {m : Bool} (h : Q (.bl false) H) : uIsi K .str [(.bl m), .ty "str"] H Q := ⟨rfl, h⟩
theorem w_isi_str_str {m : Str} (h : Q (.bl true) H) : uIsi K .str [(.str m), .ty "str"] H Q := ⟨rfl, h⟩
theorem w_isi_str_non  (h : Q (.bl false) H) : uIsi K .str [.non, .ty "str"] H Q := ⟨rfl, h⟩
theorem w_isi_list_int {m : Int} (h : Q (.bl false) H) : uIsi K .list [(.int m), .ty "list"] H Q := ⟨rfl, h⟩
theorem w_isi_list_bl {m : Bool} (h : Q (.bl false) H) : uIsi K .list [(.bl m), .ty "list"] H Q := ⟨rfl, h⟩
theorem w_isi_list_str {m : Str} (h : Q (.bl false) H) : uIsi K .list [(.str m), .ty "list"] H Q := ⟨rfl, h⟩
theorem w_isi_list_non  (h : Q (.bl false) H) : uIsi K .list [.non, .ty "list"] H Q := ⟨rfl, h⟩
theorem w_isi_tuple_int {m : Int} (h : Q (.bl false) H) : uIsi K .tuple [(.int m), .ty "tuple"] H Q := ⟨rfl, h⟩
theorem w_isi_tuple_bl {m : Bool} (h : Q (.bl false) H) : uIsi K .tuple [(.bl m), .ty "tuple"] H Q := ⟨rfl, h⟩
theorem w_isi_tuple_str {m : Str} (h : Q (.bl false) H) : uIsi K .tuple [(.str m), .ty "tuple"] H Q := ⟨rfl, h⟩
theorem w_isi_tuple_non  (h : Q (.bl false) H) : uIsi K .tuple [.non, .ty "tuple"] H Q := ⟨rfl, h⟩
theorem w_is_int {m : Int} (h : Q (.bl false) H) : uIs (.int m) .non H Q := h
theorem w_isnt_int {m : Int} (h : Q (.bl true) H) : uIsnt (.int m) .non H Q := h
theorem w_is_bl {m : Bool} (h : Q (.bl false) H) : uIs (.bl m) .non H Q := h
theorem w_isnt_bl {m : Bool} (h : Q (.bl true) H) : uIsnt (.bl m) .non H Q := h
theorem w_is_str {m : Str} (h : Q (.bl false) H) : uIs (.str m) .non H Q := h
theorem w_isnt_str {m : Str} (h : Q (.bl true) H) : uIsnt (.str m) .non H Q := h
theorem w_is_non  (h : Q (.bl true) H) : uIs .non .non H Q := h
theorem w_isnt_non  (h : Q (.bl false) H) : uIsnt .non .non H Q := h
theorem w_is_ref {m : Addr} (h : Q (.bl false) H) : uIs (.ref m) .non H Q := h
theorem w_isnt_ref {m : Addr} (h : Q (.bl true) H) : uIsnt (.ref m) .non H Q := h
theorem ifNT {A B : Prop} (h : B) : if (!true) = true then A else B := iteF h
theorem ifNF {A B : Prop} (h : A) : if (!false) = true then A else B := iteT h
theorem w_max {m n : Int} (h : Q (.int (if n > m then n else m)) H) : uMax [.int m, .int n] H Q := h
theorem w_min {m n : Int} (h : Q (.int (if n < m then n else m)) H) : uMin [.int m, .int n] H Q := h
theorem w_abs {m : Int} (h : Q (.int (if m < 0 then -m else m)) H) : uAbs [.int m] H Q := h
theorem w_intI {m : Int} (h : Q (.int m) H) : uInt [.int m] H Q := h
theorem w_intB {m : Bool} (h : Q (.int (if m then 1 else 0)) H) : uInt [.bl m] H Q := h
theorem w_lenL {p : Addr} {xs : List V} (e : SqL K H p xs) (h : Q (.int xs.length) H) : uLen K [.ref p] H Q := .inl ⟨xs, .inl e, h⟩
theorem w_lenT {p : Addr} {xs : List V} (e : SqT K H p xs) (h : Q (.int xs.length) H) : uLen K [.ref p] H Q := .inl ⟨xs, .inr e, h⟩
theorem w_ixL {p : Addr} {xs : List V} {n : Int} {k : Nat} (e : SqL K H p xs) (ek : n = (k : Int)) (ev : xs[k]? = some v) (h : Q v H) : uIx K (.ref p) (.int n) H Q := ⟨xs, v, .inl e, by rw [ek]; exact atI_nat ev, h⟩
theorem w_ixT {p : Addr} {xs : List V} {n : Int} {k : Nat} (e : SqT K H p xs) (ek : n = (k : Int)) (ev : xs[k]? = some v) (h : Q v H) : uIx K (.ref p) (.int n) H Q := ⟨xs, v, .inr e, by rw [ek]; exact atI_nat ev, h⟩
theorem w_app {p : Addr} {xs : List V} (e : H p = some (.lst xs)) (s : xs.length < sizeLine) (h : Q .non (upd H p (.lst (xs ++ [y])))) : rAppend (.ref p) [y] H Q := ⟨p, xs, y, rfl, rfl, e, s, h⟩
theorem w_ixI {p : Addr} {ns : List Int} {n : Int} (e : SqL K H p (ns.map V.int)) (h0 : 0 ≤ n ∧ n.toNat < ns.length) (h : Q (.int (ns.getD n.toNat 0)) H) : uIx K (.ref p) (.int n) H Q :=
  ⟨_, .int (ns.getD n.toNat 0), .inl e, by
    have z : (ns.map V.int)[n.toNat]? = some (.int (ns.getD n.toNat 0)) := by rw [List.getElem?_map, List.getElem?_eq_getElem h0.2, List.getD_eq_getElem?_getD, List.getElem?_eq_getElem h0.2]; rfl
    have y := atI_nat z
    rw [show ((n.toNat : Nat) : Int) = n by omega] at y
    exact y, h⟩
theorem w_ixTI {p : Addr} {ns : List Int} {n : Int} (e : SqT K H p (ns.map V.int)) (h0 : 0 ≤ n ∧ n.toNat < ns.length) (h : Q (.int (ns.getD n.toNat 0)) H) : uIx K (.ref p) (.int n) H Q :=
  ⟨_, .int (ns.getD n.toNat 0), .inr e, by
    have z : (ns.map V.int)[n.toNat]? = some (.int (ns.getD n.toNat 0)) := by rw [List.getElem?_map, List.getElem?_eq_getElem h0.2, List.getD_eq_getElem?_getD, List.getElem?_eq_getElem h0.2]; rfl
    have y := atI_nat z
    rw [show ((n.toNat : Nat) : Int) = n by omega] at y
    exact y, h⟩
theorem w_appI {p : Addr} {ns : List Int} {z : Int} (e : H p = some (.lst (ns.map V.int))) (s : ns.length < 10000000) (h : Q .non (upd H p (.lst ((ns ++ [z]).map V.int)))) : rAppend (.ref p) [.int z] H Q :=
  ⟨p, _, _, rfl, rfl, e, by rw [List.length_map]; exact Nat.lt_of_lt_of_le s (by decide), by rw [List.map_append] at h; exact h⟩
theorem w_gsub {to ti : TE} {ts : TSet} {N : L2.St → Hp → Prop} (h : to σ H fun o H1 => ti σ H1 fun i H2 => ts o i v H2 fun H3 => N σ H3) : gSub to ti ts v σ H N := h
theorem w_ixA {p : Addr} {xs : List V} {n : Int} (e : SqL K H p xs) (h0 : 0 ≤ n ∧ n.toNat < xs.length) (h : ∀ v, xs[n.toNat]? = some v → Q v H) : uIx K (.ref p) (.int n) H Q :=
  ⟨xs, xs[n.toNat]'h0.2, .inl e, by
    have y := atI_nat (List.getElem?_eq_getElem h0.2)
    rw [show ((n.toNat : Nat) : Int) = n by omega] at y
    exact y, h _ (List.getElem?_eq_getElem h0.2)⟩
def partQ (x : V) (H1 : Hp) (Q : Option Int → Hp → Prop) : Prop := ∃ i, x = .int i ∧ Q (some i) H1
theorem w_sl {rs : V → Option Int → Option Int → Hp → VK → Prop} {tl th : TO} (h : te σ H fun x H1 => tl σ H1 fun l H2 => th σ H2 fun u H3 => rs x l u H3 Q) : tSl rs te tl th σ H Q := h
theorem w_part {Q : Option Int → Hp → Prop} (h : te σ H fun x H1 => partQ x H1 Q) : tPart te σ H Q := h
theorem w_partI {Q : Option Int → Hp → Prop} {n : Int} (h : Q (some n) H) : partQ (.int n) H Q := ⟨n, rfl, h⟩
theorem w_noPart {Q : Option Int → Hp → Prop} (h : Q none H) : tNoPart σ H Q := h
theorem cut_take (xs : List V) (k : Nat) : cutV xs none (some (k : Int)) = xs.take k := by
  unfold cutV
  rw [HT.sIx_nat, HT.sIx_none, List.drop_zero, Nat.sub_zero, ← List.take_take, List.take_length]
theorem cut_drop (xs : List V) (k : Nat) : cutV xs (some (k : Int)) none = xs.drop k := by
  unfold cutV
  rw [HT.sIx_nat, HT.sIx_none]
  rcases Nat.le_total k xs.length with h | h
  · rw [Nat.min_eq_left h]; exact List.take_of_length_le (by rw [List.length_drop]; exact Nat.le_refl _)
  · rw [Nat.min_eq_right h, List.drop_length, List.drop_eq_nil_of_le h, List.take_nil]
theorem w_slL {p : Addr} {xs : List V} {lo hi : Option Int} (e : SqL K H p xs) (h : ∀ q, H q = none → Q (.ref q) (upd H q (.lst (cutV xs lo hi)))) : uSl K (.ref p) lo hi H Q := .inl ⟨p, xs, rfl, e, h⟩
theorem w_ixTl {p : Addr} {xs : List V} {n : Int} (e : SqT K H p xs) (ev : xs[n.toNat]? = some v) (h0 : 0 ≤ n) (h : Q v H) : uIx K (.ref p) (.int n) H Q := w_ixT (k := n.toNat) e (by omega) ev h
theorem w_ixLl {p : Addr} {xs : List V} {n : Int} (e : SqL K H p xs) (ev : xs[n.toNat]? = some v) (h0 : 0 ≤ n) (h : Q v H) : uIx K (.ref p) (.int n) H Q := w_ixL (k := n.toNat) e (by omega) ev h
theorem w_bm {T : String} {q : V → List V → Hp → VK → Prop} (h : te σ H fun x H1 => bmQ K T q tA σ x H1 Q) : tBM K T q te tA σ H Q := h
theorem w_bmL {q : V → List V → Hp → VK → Prop} {p : Addr} {xs : List V} (e : H p = some (.lst xs)) (h : tA σ H fun vs H2 => q (.ref p) vs H2 Q) : bmQ K "list" q tA σ (.ref p) H Q := ⟨.inl ⟨rfl, _, .inl (.inl e)⟩, h⟩
theorem w_bmS {q : V → List V → Hp → VK → Prop} {z : Str} (h : tA σ H fun vs H2 => q (.str z) vs H2 Q) : bmQ K "str" q tA σ (.str z) H Q := ⟨rfl, h⟩
theorem w_tlist {p : Addr} {xs : List V} (e : SqL K H p xs) (h : ∀ l, H l = none → Q (.ref l) (upd H l (.lst xs))) : uList K [.ref p] H Q := ⟨xs, .inl e, h⟩
theorem w_for {wi : TI} {tb : TS} (h : wi σ H fun J H1 => forQ g tb D σ J H1) : tFor wi g tb D σ H := h
theorem f_range {tb : TS} {lo : Int} {n : Nat} (Pv : Nat → L2.St → Hp → Prop) (h0 : Pv 0 σ H)
    (hs : ∀ i σ H, i < n → Pv i σ H → g (.int (lo + i)) σ H fun σ2 H2 => tb { D with nx := Pv (i + 1), ct := Pv (i + 1), bk := D.nx } σ2 H2) (hd : ∀ σ H, Pv n σ H → D.nx σ H) : forQ g tb D σ (Itr lo n) H := for_range Pv h0 hs hd
theorem w_rng1 {R : It → Hp → Prop} (h : tA σ H fun vs H1 => rng1Q vs H1 R) : iRng1 tA σ H R := h
theorem w_rng1v {R : It → Hp → Prop} {n : Int} (h1 : -(2 ^ 62) ≤ n) (h2 : n < 2 ^ 62) (h : R (Itr 0 n.toNat) H) : rng1Q [.int n] H R := ⟨n, rfl, h1, h2, h⟩
theorem w_rng2 {R : It → Hp → Prop} (h : tA σ H fun vs H1 => rng2Q vs H1 R) : iRng2 tA σ H R := h
theorem w_rng2v {R : It → Hp → Prop} {m n : Int} (h1 : -(2 ^ 62) ≤ m ∧ m < 2 ^ 62 ∧ -(2 ^ 62) ≤ n ∧ n < 2 ^ 62) (h : R (Itr m (n - m).toNat) H) : rng2Q [.int m, .int n] H R := ⟨m, n, rfl, h1, h⟩
theorem w_iList {R : It → Hp → Prop} (h : te σ H fun x H1 => listQ K x H1 R) : iList K te σ H R := h
theorem w_iListv {R : It → Hp → Prop} {p : Addr} {xs : List V} (e : SqL K H p xs) (h : R (Itl K p) H) : listQ K (.ref p) H R := ⟨p, rfl, ⟨xs, e⟩, h⟩
theorem w_iTup {R : It → Hp → Prop} (h : te σ H fun x H1 => tupQ K x H1 R) : iTup K te σ H R := h
theorem w_iTupv {R : It → Hp → Prop} {p : Addr} {xs : List V} (e : SqT K H p xs) (h : R (Itt K p) H) : tupQ K (.ref p) H R := ⟨p, rfl, ⟨xs, e⟩, h⟩
theorem w_iStr {R : It → Hp → Prop} (h : te σ H fun x H1 => strQ x H1 R) : iStr te σ H R := h
theorem w_iStrv {R : It → Hp → Prop} {z : Str} (h : R (Its z) H) : strQ (.str z) H R := ⟨z, rfl, h⟩
theorem w_iRev {R : It → Hp → Prop} (h : tA σ H fun vs H1 => revQ K vs H1 R) : iRev K tA σ H R := h
theorem w_iRevv {R : It → Hp → Prop} {p : Addr} {xs : List V} (e : SqL K H p xs) (h : R (Itv K p xs.length) H) : revQ K [.ref p] H R := ⟨p, xs, rfl, e, h⟩
theorem w_raise {C : Addr} (h : W (.ref C) none σ H) : uRaise C W D σ H := h
theorem w_fld {C : Addr} (h : te σ H fun x H1 => fldQ C f x H1 Q) : uFld C f te σ H Q := h
theorem w_meth {C : Addr} {m : Str} (h : te σ H fun x H1 => methQ C m sp W tA σ x H1 Q) : uMeth C m sp W te tA σ H Q := h
theorem w_setf {C : Addr} (h : tv σ H fun y H1 => te σ H1 fun x H2 => setfQ C f x y H2 (D.nx σ)) : uSetF C f te tv D σ H := h
theorem ifP {p A B : Prop} [Decidable p] (h1 : p → A) (h2 : ¬ p → B) : if decide p = true then A else B := by
  by_cases h : p
  · rw [if_pos (decide_eq_true h)]; exact h1 h
  · rw [if_neg (by rw [decide_eq_false h]; decide)]; exact h2 h
theorem ifN {p A B : Prop} [Decidable p] (h2 : ¬ p → A) (h1 : p → B) : if (!decide p) = true then A else B := by
  by_cases h : p
  · rw [if_neg (by rw [decide_eq_true h]; decide)]; exact h1 h
  · rw [if_pos (by rw [decide_eq_false h]; rfl)]; exact h2 h
theorem ifB {A B : Prop} (h1 : b = true → A) (h2 : b = false → B) : if b = true then A else B := by
  cases b
  · rw [if_neg Bool.false_ne_true]; exact h2 rfl
  · rw [if_pos rfl]; exact h1 rfl
end steps
section heaps
variable {K : PySem.W.Frag} {H H' : Hp} {p q : Addr} {o u : HO} {xs : List V}
theorem upd_old (h : H q = some u) (n : H p = none) : upd H p o q = some u := by rw [upd_ne (ne_of_none h n)]; exact h
theorem upd_oth (h : H q = some u) (n : q ≠ p) : upd H p o q = some u := by rw [upd_ne n]; exact h
theorem none_of_upd (h : upd H p o q = none) : H q = none ∧ q ≠ p := by
  unfold upd at h
  split at h
  · cases h
  · exact ⟨h, by assumption⟩
theorem rd_old (h : Rd H q u) (n : H p = none) : Rd (upd H p o) q u := by
  rcases h with h | ⟨o', h⟩
  · exact .inl (upd_old h n)
  · exact .inr ⟨o', upd_old h n⟩
theorem sql_old (h : SqL K H q xs) (n : H p = none) : SqL K (upd H p o) q xs := h.imp (fun h => rd_old h n) id
theorem sqt_old (h : SqT K H q xs) (n : H p = none) : SqT K (upd H p o) q xs := h.imp (fun h => rd_old h n) id
/-- a tuple is never the thing that is written -/
theorem sqt_wr {w : HO} (h : SqT K H q xs) (hw : H p = some w) (n : ∀ ys, w ≠ .tup ys) (n2 : ∀ ob ys, w ≠ .frz ob ys) : SqT K (upd H p o) q xs := by
  refine h.imp (fun h => ?_) id
  rcases h with h | ⟨o', h⟩
  · exact .inl (upd_oth h fun e => by subst e; rw [hw] at h; exact n _ (Option.some.inj h))
  · exact .inr ⟨o', upd_oth h fun e => by subst e; rw [hw] at h; exact n2 _ _ (Option.some.inj h)⟩
theorem same_new (n : H p = none) : Same H (upd H p o) := fun b w h => upd_old h n
theorem same_upd {H1 : Hp} (s : Same H H1) (n : H p = none) : Same H (upd H1 p o) := fun b w h => by rw [upd_ne (ne_of_none h n)]; exact s b w h
theorem same_updN {H1 : Hp} (s : Same H H1) (n : H1 p = none) : Same H (upd H1 p o) := fun b w h => upd_old (s b w h) n
theorem Same.sqt (e : Same H H') (h : SqT K H q xs) : SqT K H' q xs := by
  rcases h with (h | ⟨o, h⟩) | h
  · exact .inl (.inl (e _ _ h))
  · exact .inl (.inr ⟨o, e _ _ h⟩)
  · exact .inr h
end heaps
section whiles
variable {D : Ends} {σ : L2.St} {H : Hp} {c : TT} {tb : TS}
def whQ (P : L2.St → Hp → Prop) (μ : L2.St → Hp → Nat) (m : Nat) (tb : TS) (D : Ends) (σ : L2.St) (H : Hp) : Prop :=
  ∃ N : L2.St → Hp → Prop, (∀ σ' H', N σ' H' → ∃ m', m' < m ∧ (m' = μ σ' H' ∧ P σ' H')) ∧ tb { D with nx := N, ct := N, bk := D.nx } σ H
theorem f_while (P : L2.St → Hp → Prop) (μ : L2.St → Hp → Nat) (h0 : P σ H) (hs : ∀ σ H, P σ H → c σ H fun b H1 => if b = true then whQ P μ (μ σ H) tb D σ H1 else D.nx σ H1) : tWhile c tb D σ H := by
  refine ⟨fun m σ H => m = μ σ H ∧ P σ H, ⟨_, rfl, h0⟩, fun m σ H q => ?_⟩
  obtain ⟨rfl, p⟩ := q
  exact hs σ H p
theorem w_wh {P : L2.St → Hp → Prop} {μ : L2.St → Hp → Nat} {m : Nat} (h : tb { D with nx := fun σ' H' => P σ' H' ∧ μ σ' H' < m, ct := fun σ' H' => P σ' H' ∧ μ σ' H' < m, bk := D.nx } σ H) : whQ P μ m tb D σ H := ⟨_, fun _ _ n => ⟨_, n.2, rfl, n.1⟩, h⟩
end whiles
section data
variable {K : PySem.W.Frag} {H : Hp} {Q : VK} {α β : Type} [DecidableEq α] [PySem.W.Datum α] [DecidableEq β] [PySem.W.Datum β]
def Dt (K : PySem.W.Frag) (H : Hp) (v : V) (a : α) : Prop := Dp K H v (PySem.W.Datum.toD a)
def DtAll (K : PySem.W.Frag) (H : Hp) (vs : List V) (as : List α) : Prop := DpAll K H vs (as.map PySem.W.Datum.toD)
theorem Dt.int {i : Int} : Dt K H (.int i) i := Dp.int i
theorem Dt.bl {i : Bool} : Dt K H (.bl i) i := Dp.bl i
theorem Dt.str {i : Str} : Dt K H (.str i) i := Dp.str i
theorem Dt.list {p : Addr} {vs : List V} {as : List α} (e : SqL K H p vs) (h : DtAll K H vs as) : Dt K H (.ref p) as := Dp.lst e h
theorem Dt.tup {p : Addr} {vs : List V} {as : List α} (e : SqT K H p vs) (h : DtAll K H vs as) : Dt K H (.ref p) (PySem.W.Tup.mk as) := Dp.tup e h
theorem Dt.pair {p : Addr} {x y : V} {a : α} {b : β} (e : SqT K H p [x, y]) (h1 : Dt K H x a) (h2 : Dt K H y b) : Dt K H (.ref p) (a, b) := Dp.tup e (DpAll.cons h1 (DpAll.cons h2 DpAll.nil))
theorem DtAll.nil : DtAll K H [] ([] : List α) := DpAll.nil
theorem DtAll.cons {v : V} {vs : List V} {a : α} {as : List α} (h : Dt K H v a) (hs : DtAll K H vs as) : DtAll K H (v :: vs) (a :: as) := DpAll.cons h hs
theorem DtAll.ints : ∀ (ns : List Int), DtAll K H (ns.map V.int) ns
  | [] => DpAll.nil
  | _ :: ns => DpAll.cons (Dp.int _) (DtAll.ints ns)
theorem DtAll.get : ∀ {vs : List V} {as : List α} {i : Nat} {v : V}, DtAll K H vs as → vs[i]? = some v → ∃ a, as[i]? = some a ∧ Dt K H v a
  | [], [], _, _, _, e => by cases e
  | [], _ :: _, _, _, h, _ => by cases h
  | _ :: _, [], _, _, h, _ => by cases h
  | _ :: _, a :: as, 0, v, h, e => by
    cases h with
    | cons h1 h2 => cases e; exact ⟨a, rfl, h1⟩
  | _ :: _, _ :: _, i + 1, v, h, e => by
    cases h with
    | cons h1 h2 => exact DtAll.get (i := i) h2 e
theorem DtAll.length : ∀ {vs : List V} {as : List α}, DtAll K H vs as → vs.length = as.length
  | [], [], _ => rfl
  | [], _ :: _, h => by cases h
  | _ :: _, [], h => by cases h
  | _ :: vs, _ :: as, h => by
    cases h with
    | cons h1 h2 => rw [List.length_cons, List.length_cons, DtAll.length h2]
theorem DtAll.append : ∀ {vs ws : List V} {as bs : List α}, DtAll K H vs as → DtAll K H ws bs → DtAll K H (vs ++ ws) (as ++ bs)
  | [], _, [], _, _, k => k
  | [], _, _ :: _, _, h, _ => by cases h
  | _ :: _, _, [], _, h, _ => by cases h
  | _ :: _, _, _ :: _, _, h, k => by
    cases h with
    | cons h1 h2 => exact DpAll.cons h1 (DtAll.append h2 k)
theorem w_eqD {x y : V} {a b : α} (h1 : Dt K H x a) (h2 : Dt K H y b) (hd : PySem.W.Datum.depth α ≤ 60) (hx : ∃ p, x = .ref p) (h : Q (.bl (decide (a = b))) H) : uEq K x y H Q := by
  obtain ⟨p, rfl⟩ := hx
  have z : rEqP K (.ref p) y H Q := ⟨_, _, h1, h2, ⟨PySem.W.Datum.plain a, Nat.le_trans (PySem.W.Datum.depth_le a) hd⟩, PySem.W.Datum.plain b, by rw [PySem.W.Datum.eqv]; exact h⟩
  unfold uEq; exact .inr z
theorem w_neD {x y : V} {a b : α} (h1 : Dt K H x a) (h2 : Dt K H y b) (hd : PySem.W.Datum.depth α ≤ 60) (hx : ∃ p, x = .ref p) (h : Q (.bl (!decide (a = b))) H) : uNe K x y H Q := by
  obtain ⟨p, rfl⟩ := hx
  have z : rNeP K (.ref p) y H Q := ⟨_, _, h1, h2, ⟨PySem.W.Datum.plain a, Nat.le_trans (PySem.W.Datum.depth_le a) hd⟩, PySem.W.Datum.plain b, by rw [PySem.W.Datum.eqv]; exact h⟩
  unfold uNe; exact .inr z
mutual
theorem Dp.same {H' : Hp} (s : Same H H') : ∀ {d : PyData} {v : V}, Dp K H v d → Dp K H' v d
  | .none, _, h => by cases h; exact .non
  | .bool _, _, h => by cases h; exact .bl _
  | .int _, _, h => by cases h; exact .int _
  | .str _, _, h => by cases h; exact .str _
  | .list _, _, h => by
    cases h with
    | lst e a => exact .lst (s.seq e) (DpAll.same s a)
  | .tuple _, _, h => by
    cases h with
    | tup e a =>
      refine .tup ?_ (DpAll.same s a)
      rcases e with (e | ⟨o, e⟩) | e
      · exact .inl (.inl (s _ _ e))
      · exact .inl (.inr ⟨o, s _ _ e⟩)
      · exact .inr e
  | .dict _, _, h => by cases h
theorem DpAll.same {H' : Hp} (s : Same H H') : ∀ {ds : List PyData} {vs : List V}, DpAll K H vs ds → DpAll K H' vs ds
  | [], _, h => by cases h; exact .nil
  | _ :: _, _, h => by
    cases h with
    | cons h1 h2 => exact .cons (Dp.same s h1) (DpAll.same s h2)
end
theorem Dt.same {H' : Hp} (s : Same H H') {v : V} {a : α} (h : Dt K H v a) : Dt K H' v a := Dp.same s h
theorem DtAll.same {H' : Hp} (s : Same H H') {vs : List V} {as : List α} (h : DtAll K H vs as) : DtAll K H' vs as := DpAll.same s h
end data
section tups
variable {K : PySem.W.Frag} {H : Hp}
mutual
def tupOnly : PyData → Bool
  | .list _ => false
  | .dict _ => false
  | .tuple ds => tupOnlyAll ds
  | _ => true
def tupOnlyAll : List PyData → Bool
  | [] => true
  | d :: ds => tupOnly d && tupOnlyAll ds
end
mutual
theorem Dp.wr {p : Addr} {w o : HO} (hw : H p = some w) (n : ∀ ys, w ≠ .tup ys) (n2 : ∀ ob ys, w ≠ .frz ob ys) : ∀ {d : PyData} {v : V}, tupOnly d = true → Dp K H v d → Dp K (upd H p o) v d
  | .none, _, _, h => by cases h; exact .non
  | .bool _, _, _, h => by cases h; exact .bl _
  | .int _, _, _, h => by cases h; exact .int _
  | .str _, _, _, h => by cases h; exact .str _
  | .list _, _, t, _ => by simp [tupOnly] at t
  | .tuple ds, _, t, h => by
    cases h with
    | tup e a => exact .tup (sqt_wr e hw n n2) (DpAll.wr hw n n2 (by simpa [tupOnly] using t) a)
  | .dict _, _, _, h => by cases h
theorem DpAll.wr {p : Addr} {w o : HO} (hw : H p = some w) (n : ∀ ys, w ≠ .tup ys) (n2 : ∀ ob ys, w ≠ .frz ob ys) : ∀ {ds : List PyData} {vs : List V}, tupOnlyAll ds = true → DpAll K H vs ds → DpAll K (upd H p o) vs ds
  | [], _, _, h => by cases h; exact .nil
  | d :: ds, _, t, h => by
    have t' := Bool.and_eq_true_iff.mp (show (tupOnly d && tupOnlyAll ds) = true by simpa [tupOnlyAll] using t)
    cases h with
    | cons h1 h2 => exact .cons (Dp.wr hw n n2 t'.1 h1) (DpAll.wr hw n n2 t'.2 h2)
end
theorem dpInts : ∀ {ns : List Int} {vs : List V}, DpAll K H vs (ns.map PyData.int) → vs = ns.map V.int
  | [], _, h => by cases h; rfl
  | n :: ns, _, h => by
    cases h with
    | cons h1 h2 => cases h1; rw [dpInts h2]; rfl
theorem tupOnly_ints : ∀ ns : List Int, tupOnlyAll (ns.map PyData.int) = true
  | [] => by simp [tupOnlyAll]
  | _ :: ns => by simp [tupOnlyAll, tupOnly, tupOnly_ints ns]
end tups
section comps
variable {K : PySem.W.Frag} {σ : L2.St} {H1 : Hp} {Q : VK} {g : TG} {tt : TT} {te : TE} {vs : List Nat}
def lcQ (g : TG) (tt : TT) (te : TE) (vs : List Nat) (σ : L2.St) (J : It) (H1 : Hp) (Q : VK) : Prop := ∀ D, H1 D = none → ∃ W : Nat → Nat → Hp → Prop, (∃ m, W 0 m (upd H1 D (.lst []))) ∧ ∀ i m H, W i m H →
  (J.stop i H ∧ Q (.ref D) H) ∨ (J.go i H ∧ ∃ Nx : Hp → Prop, (∀ H', Nx H' → ∃ m', m' < m ∧ W (i + 1) m' H') ∧ ∀ x H', J.yld i H x H' → g x (wipe σ vs) H' fun σ2 H2 => wipe σ2 vs = wipe σ vs ∧ tt σ2 H2 fun b H3 =>
    if b = true then te σ2 H3 fun y H4 => ∃ acc, H4 D = some (.lst acc) ∧ acc.length < sizeLine ∧ Nx (upd H4 D (.lst (acc ++ [y]))) else Nx H3)
theorem w_lc {wi : TI} (h : wi σ H1 fun J H2 => lcQ g tt te vs σ J H2 Q) : tLc wi g tt te vs σ H1 Q := h
theorem w_yes {QB : Bool → Hp → Prop} (h : QB true H1) : tYes σ H1 QB := h
/-- what a turn of a comprehension wants: the new item, put behind the list at D -/
def putQ (D : Addr) (N : Hp → Prop) (y : V) (H4 : Hp) : Prop := ∃ acc, H4 D = some (.lst acc) ∧ acc.length < sizeLine ∧ N (upd H4 D (.lst (acc ++ [y])))
/-- a comprehension over anything that yields by its place, P the heap between the turns -/
theorem l_any {J : It} {n : Nat} {item : Nat → V → Prop} (P : Addr → Nat → Hp → Prop) (h0 : ∀ D, H1 D = none → P D 0 (upd H1 D (.lst [])))
    (hgo : ∀ D i H, H1 D = none → i < n → P D i H → J.go i H ∧ ∀ x H', J.yld i H x H' → H' = H ∧ item i x) (hst : ∀ D H, H1 D = none → P D n H → J.stop n H)
    (hs : ∀ D i x H, H1 D = none → i < n → item i x → P D i H → g x (wipe σ vs) H fun σ2 H2 => wipe σ2 vs = wipe σ vs ∧ tt σ2 H2 fun b H3 => if b = true then te σ2 H3 (putQ D (P D (i + 1))) else P D (i + 1) H3)
    (hd : ∀ D H, H1 D = none → P D n H → Q (.ref D) H) : lcQ g tt te vs σ J H1 Q := by
  intro D hD
  refine ⟨fun i m H => m = n - i ∧ i ≤ n ∧ P D i H, ⟨n, by simp, Nat.zero_le _, h0 D hD⟩, fun i m H q => ?_⟩
  obtain ⟨rfl, hi, p⟩ := q
  rcases Nat.lt_or_ge i n with hl | hl
  · obtain ⟨a, b⟩ := hgo D i H hD hl p
    refine .inr ⟨a, P D (i + 1), fun H' p' => ⟨n - (i + 1), by omega, rfl, hl, p'⟩, fun x H' y => ?_⟩
    obtain ⟨rfl, c⟩ := b x H' y
    exact hs D i x _ hD hl c p
  · obtain rfl : i = n := Nat.le_antisymm hi hl
    exact .inl ⟨hst D H hD p, hd D H hD p⟩
theorem l_list {a : Addr} {xs : List V} (P : Addr → Nat → Hp → Prop) (h0 : ∀ D, H1 D = none → P D 0 (upd H1 D (.lst []))) (hl : ∀ D i H, H1 D = none → P D i H → SqL K H a xs)
    (hs : ∀ D i x H, H1 D = none → xs[i]? = some x → P D i H → g x (wipe σ vs) H fun σ2 H2 => wipe σ2 vs = wipe σ vs ∧ tt σ2 H2 fun b H3 => if b = true then te σ2 H3 (putQ D (P D (i + 1))) else P D (i + 1) H3)
    (hd : ∀ D H, H1 D = none → P D xs.length H → Q (.ref D) H) : lcQ g tt te vs σ (Itl K a) H1 Q :=
  l_any (n := xs.length) (item := fun i x => xs[i]? = some x) P h0 (fun D i H hD h p => ⟨⟨xs, xs[i], hl D i H hD p, List.getElem?_eq_getElem h⟩, fun x H' y => ⟨y.1, y.2 xs (hl D i H hD p)⟩⟩)
    (fun D H hD p => ⟨xs, hl D _ H hD p, Nat.le_refl _⟩) (fun D i x H a b c p => hs D i x H a c p) hd
end comps
end U
namespace Lam
open PySem PySem.Spec L2 U
local macro_rules | `(tactic| walk_at "x") => `(tactic| fail "no step")
local macro_rules | `(tactic| walk_at "hk") => `(tactic| first
  | assumption | exact upd_same | exact SqL.of upd_same | exact SqT.of upd_same
  | (apply sql_old; (· walk_at "hk"); (· assumption)) | (apply upd_old; (· walk_at "hk"); (· assumption)) | (apply sqt_old; (· walk_at "hk"); (· assumption))
  | exact L2.Same.seq (by assumption) (by assumption) | exact U.Same.sqt (by assumption) (by assumption) | exact (by assumption : L2.Same _ _) _ _ (by assumption)
  | (apply SqL.of; walk_at "hk") | (apply SqT.of; walk_at "hk"))
local macro_rules | `(tactic| walk_at "nn") => `(tactic| first | assumption | exact L2.Same.free (by assumption) (by assumption) | exact (none_of_upd (by assumption)).1)
local macro_rules | `(tactic| walk_at "sm") => `(tactic| first | assumption | exact L2.Same.refl _ | (apply same_updN; (· walk_at "sm"); (· assumption)) | (apply same_upd; (· walk_at "sm"); (· walk_at "nn")) | exact L2.Same.trans (by assumption) (by assumption))
local macro_rules | `(tactic| walk_at "s") => `(tactic| first
    | with_reducible refine w_seq ?_
    | with_reducible refine w_op ?_
    | with_reducible refine w_asg ?_
    | with_reducible refine w_name ?_
    | with_reducible refine w_c ?_
    | with_reducible refine w_if ?_
    | with_reducible refine w_test ?_
    | with_reducible refine w_blP ?_
    | with_reducible refine w_cons ?_
    | with_reducible refine w_nil ?_
    | with_reducible refine w_ret ?_
    | with_reducible refine w_call ?_
    | ((with_reducible refine' w_var ?e ?_); (case e => rfl))
    | with_reducible refine iteT ?_
    | with_reducible refine iteF ?_
    | with_reducible refine ifNT ?_
    | with_reducible refine ifNF ?_
    | (((with_reducible show @ite Prop (_ = true) _ _ _); refine @ifP _ _ _ _ ?_ ?_) <;> intro h <;> first | (with_reducible exact absurd rfl h) | skip)
    | (((with_reducible show @ite Prop (_ = true) _ _ _); refine @ifN _ _ _ _ ?_ ?_) <;> intro h <;> first | (with_reducible exact absurd rfl h) | skip)
    | with_reducible refine w_add ?_
    | with_reducible refine w_sub ?_
    | with_reducible refine w_eqI ?_
    | with_reducible refine w_neI ?_
    | with_reducible refine w_lt ?_
    | with_reducible refine w_le ?_
    | with_reducible refine w_gt ?_
    | with_reducible refine w_ge ?_
    | with_reducible refine w_eqS ?_
    | with_reducible refine w_eqB ?_
    | with_reducible refine w_neS ?_
    | with_reducible refine w_neB ?_
    | with_reducible refine w_cb ?_
    | with_reducible refine w_tup ?_
    | with_reducible refine w_lst ?_
    | with_reducible refine w_next ?_
    | with_reducible refine w_drop ?_
    | with_reducible refine w_not ?_
    | with_reducible refine w_tru ?_
    | with_reducible refine w_and ?_
    | with_reducible refine w_or ?_
    | with_reducible refine w_andV ?_
    | with_reducible refine w_orV ?_
    | with_reducible refine w_notV ?_
    | with_reducible refine w_ifE ?_
    | with_reducible refine w_chain ?_
    | with_reducible refine w_retN ?_
    | with_reducible refine w_bm ?_
    | with_reducible refine w_raise ?_
    | with_reducible refine w_fld ?_
    | with_reducible refine w_meth ?_
    | with_reducible refine w_setf ?_
    | with_reducible refine w_for ?_
    | with_reducible refine w_rng1 ?_
    | with_reducible refine w_rng2 ?_
    | with_reducible refine w_iList ?_
    | with_reducible refine w_iTup ?_
    | with_reducible refine w_iStr ?_
    | with_reducible refine w_iRev ?_
    | with_reducible refine w_brk ?_
    | with_reducible refine w_cont ?_
    | with_reducible refine w_un ?_
    | with_reducible refine w_lc ?_
    | with_reducible refine w_yes ?_
    | with_reducible refine w_gsub ?_
    | with_reducible refine w_sl ?_
    | with_reducible refine w_part ?_
    | with_reducible refine w_noPart ?_
    | with_reducible refine w_wh ?_
    | ((with_reducible refine' w_aug ?e ?_); (case e => rfl))
    | ((with_reducible refine w_mul ?s ?_); (case s => first | exact Or.inr ⟨by omega, by omega⟩ | exact Or.inl ⟨by omega, by omega⟩))
    | ((with_reducible refine w_div ?s ?_); (case s => omega))
    | ((with_reducible refine w_mod ?s ?_); (case s => first | omega | decide))
    | ((with_reducible refine w_pow ?s ?_); (case s => exact ⟨by decide, by decide, by decide⟩))
    | ((with_reducible refine w_newL ?s ?_); (case s => (first | exact (by decide) | (simp only [List.length_cons, List.length_nil]; omega))); intro _ _)
    | ((with_reducible refine w_newT ?s ?_); (case s => (first | exact (by decide) | (simp only [List.length_cons, List.length_nil]; omega))); intro _ _)
    | with_reducible refine w_max ?_
    | with_reducible refine w_min ?_
    | with_reducible refine w_abs ?_
    | with_reducible refine w_intI ?_
    | with_reducible refine w_intB ?_
    | with_reducible refine w_ipI ?_
    | with_reducible refine w_bmS ?_
    | with_reducible refine w_iStrv ?_
    | with_reducible refine w_neg ?_
    | with_reducible refine w_partI ?_
    | with_reducible refine w_truB ?_
    | with_reducible refine w_truN ?_
    | with_reducible refine w_truI ?_
    | with_reducible refine w_isi_int_int ?_
    | with_reducible refine w_isi_int_bl ?_
    | with_reducible refine w_isi_int_str ?_
    | with_reducible refine w_isi_int_non ?_
    | with_reducible refine w_isi_bool_int ?_
    | with_reducible refine w_isi_bool_bl ?_
    | with_reducible refine w_isi_bool_str ?_
    | with_reducible refine w_isi_bool_non ?_
    | with_reducible refine w_isi_str_int ?_
    | with_reducible refine w_isi_str_bl ?_
    | with_reducible refine w_isi_str_str ?_
    | with_reducible refine w_isi_str_non ?_
    | with_reducible refine w_isi_list_int ?_
    | with_reducible refine w_isi_list_bl ?_
    | with_reducible refine w_isi_list_str ?_
    | with_reducible refine w_isi_list_non ?_
    | with_reducible refine w_isi_tuple_int ?_
    | with_reducible refine w_isi_tuple_bl ?_
    | with_reducible refine w_isi_tuple_str ?_
    | with_reducible refine w_isi_tuple_non ?_
    | with_reducible refine w_is_int ?_
    | with_reducible refine w_isnt_int ?_
    | with_reducible refine w_is_bl ?_
    | with_reducible refine w_isnt_bl ?_
    | with_reducible refine w_is_str ?_
    | with_reducible refine w_isnt_str ?_
    | with_reducible refine w_is_non ?_
    | with_reducible refine w_isnt_non ?_
    | with_reducible refine w_is_ref ?_
    | with_reducible refine w_isnt_ref ?_
    | ((with_reducible apply w_lenL); (· walk_at "hk"))
    | ((with_reducible apply w_lenT); (· walk_at "hk"))
    | ((with_reducible apply w_bmL); (· walk_at "hk"))
    | ((with_reducible refine w_rng1v ?h1 ?h2 ?_); (case h1 => (first | omega | (simp only [List.length_map] at *; omega))); (case h2 => (first | omega | (simp only [List.length_map] at *; omega))))
    | ((with_reducible refine w_rng2v ?h1 ?_); (case h1 => (first | omega | (simp only [List.length_map] at *; omega))))
    | ((with_reducible apply w_ixI); (· walk_at "hk"); (· (first | omega | (simp only [List.length_map] at *; omega))))
    | ((with_reducible apply w_ixTI); (· walk_at "hk"); (· (first | omega | (simp only [List.length_map] at *; omega))))
    | ((with_reducible apply w_ixTl); (· walk_at "hk"); (· rfl); (· decide))
    | ((with_reducible apply w_ixLl); (· walk_at "hk"); (· rfl); (· decide))
    | ((with_reducible apply w_appI); (· walk_at "hk"); (· (first | omega | (simp only [List.length_append, List.length_cons, List.length_nil]; omega))))
    | ((with_reducible apply w_iListv); (· walk_at "hk"))
    | ((with_reducible apply w_iTupv); (· walk_at "hk"))
    | ((with_reducible apply w_iRevv); (· walk_at "hk"))
    | walk_at "x")
local macro_rules | `(tactic| walk_at "run1") => `(tactic| repeat (first
    | with_reducible refine w_seq ?_
    | with_reducible refine w_op ?_
    | with_reducible refine w_asg ?_
    | with_reducible refine w_name ?_
    | with_reducible refine w_c ?_
    | with_reducible refine w_if ?_
    | with_reducible refine w_test ?_
    | with_reducible refine w_blP ?_
    | with_reducible refine w_cons ?_
    | with_reducible refine w_nil ?_
    | with_reducible refine w_ret ?_
    | with_reducible refine w_call ?_
    | ((with_reducible refine' w_var ?e ?_); (case e => rfl))
    | with_reducible refine iteT ?_
    | with_reducible refine iteF ?_
    | with_reducible refine ifNT ?_
    | with_reducible refine ifNF ?_
    | (((with_reducible show @ite Prop (_ = true) _ _ _); refine @ifP _ _ _ _ ?_ ?_) <;> intro h <;> first | (with_reducible exact absurd rfl h) | skip)
    | (((with_reducible show @ite Prop (_ = true) _ _ _); refine @ifN _ _ _ _ ?_ ?_) <;> intro h <;> first | (with_reducible exact absurd rfl h) | skip)
    | with_reducible refine w_add ?_
    | with_reducible refine w_sub ?_
    | with_reducible refine w_eqI ?_
    | with_reducible refine w_neI ?_
    | with_reducible refine w_lt ?_
    | with_reducible refine w_le ?_
    | with_reducible refine w_gt ?_
    | with_reducible refine w_ge ?_
    | with_reducible refine w_eqS ?_
    | with_reducible refine w_eqB ?_
    | with_reducible refine w_neS ?_
    | with_reducible refine w_neB ?_
    | with_reducible refine w_cb ?_
    | with_reducible refine w_tup ?_
    | with_reducible refine w_lst ?_
    | with_reducible refine w_next ?_
    | with_reducible refine w_drop ?_
    | with_reducible refine w_not ?_
    | with_reducible refine w_tru ?_
    | with_reducible refine w_and ?_
    | with_reducible refine w_or ?_
    | with_reducible refine w_andV ?_
    | with_reducible refine w_orV ?_
    | with_reducible refine w_notV ?_
    | with_reducible refine w_ifE ?_
    | with_reducible refine w_chain ?_
    | with_reducible refine w_retN ?_
    | with_reducible refine w_bm ?_
    | with_reducible refine w_raise ?_
    | with_reducible refine w_fld ?_
    | with_reducible refine w_meth ?_
    | with_reducible refine w_setf ?_
    | with_reducible refine w_for ?_
    | with_reducible refine w_rng1 ?_
    | with_reducible refine w_rng2 ?_
    | with_reducible refine w_iList ?_
    | with_reducible refine w_iTup ?_
    | with_reducible refine w_iStr ?_
    | with_reducible refine w_iRev ?_
    | with_reducible refine w_brk ?_
    | with_reducible refine w_cont ?_
    | with_reducible refine w_un ?_
    | with_reducible refine w_lc ?_
    | with_reducible refine w_yes ?_
    | with_reducible refine w_gsub ?_
    | with_reducible refine w_sl ?_
    | with_reducible refine w_part ?_
    | with_reducible refine w_noPart ?_
    | with_reducible refine w_wh ?_
    | ((with_reducible refine' w_aug ?e ?_); (case e => rfl))
    | ((with_reducible refine w_mul ?s ?_); (case s => first | exact Or.inr ⟨by omega, by omega⟩ | exact Or.inl ⟨by omega, by omega⟩))
    | ((with_reducible refine w_div ?s ?_); (case s => omega))
    | ((with_reducible refine w_mod ?s ?_); (case s => first | omega | decide))
    | ((with_reducible refine w_pow ?s ?_); (case s => exact ⟨by decide, by decide, by decide⟩))
    | ((with_reducible refine w_newL ?s ?_); (case s => (first | exact (by decide) | (simp only [List.length_cons, List.length_nil]; omega))); intro _ _)
    | ((with_reducible refine w_newT ?s ?_); (case s => (first | exact (by decide) | (simp only [List.length_cons, List.length_nil]; omega))); intro _ _)
    | with_reducible refine w_max ?_
    | with_reducible refine w_min ?_
    | with_reducible refine w_abs ?_
    | with_reducible refine w_intI ?_
    | with_reducible refine w_intB ?_
    | with_reducible refine w_ipI ?_
    | with_reducible refine w_bmS ?_
    | with_reducible refine w_iStrv ?_
    | with_reducible refine w_neg ?_
    | with_reducible refine w_partI ?_
    | with_reducible refine w_truB ?_
    | with_reducible refine w_truN ?_
    | with_reducible refine w_truI ?_
    | with_reducible refine w_isi_int_int ?_
    | with_reducible refine w_isi_int_bl ?_
    | with_reducible refine w_isi_int_str ?_
    | with_reducible refine w_isi_int_non ?_
    | with_reducible refine w_isi_bool_int ?_
    | with_reducible refine w_isi_bool_bl ?_
    | with_reducible refine w_isi_bool_str ?_
    | with_reducible refine w_isi_bool_non ?_
    | with_reducible refine w_isi_str_int ?_
    | with_reducible refine w_isi_str_bl ?_
    | with_reducible refine w_isi_str_str ?_
    | with_reducible refine w_isi_str_non ?_
    | with_reducible refine w_isi_list_int ?_
    | with_reducible refine w_isi_list_bl ?_
    | with_reducible refine w_isi_list_str ?_
    | with_reducible refine w_isi_list_non ?_
    | with_reducible refine w_isi_tuple_int ?_
    | with_reducible refine w_isi_tuple_bl ?_
    | with_reducible refine w_isi_tuple_str ?_
    | with_reducible refine w_isi_tuple_non ?_
    | with_reducible refine w_is_int ?_
    | with_reducible refine w_isnt_int ?_
    | with_reducible refine w_is_bl ?_
    | with_reducible refine w_isnt_bl ?_
    | with_reducible refine w_is_str ?_
    | with_reducible refine w_isnt_str ?_
    | with_reducible refine w_is_non ?_
    | with_reducible refine w_isnt_non ?_
    | with_reducible refine w_is_ref ?_
    | with_reducible refine w_isnt_ref ?_
    | ((with_reducible apply w_lenL); (· walk_at "hk"))
    | ((with_reducible apply w_lenT); (· walk_at "hk"))
    | ((with_reducible apply w_bmL); (· walk_at "hk"))
    | ((with_reducible refine w_rng1v ?h1 ?h2 ?_); (case h1 => (first | omega | (simp only [List.length_map] at *; omega))); (case h2 => (first | omega | (simp only [List.length_map] at *; omega))))
    | ((with_reducible refine w_rng2v ?h1 ?_); (case h1 => (first | omega | (simp only [List.length_map] at *; omega))))
    | ((with_reducible apply w_ixI); (· walk_at "hk"); (· (first | omega | (simp only [List.length_map] at *; omega))))
    | ((with_reducible apply w_ixTI); (· walk_at "hk"); (· (first | omega | (simp only [List.length_map] at *; omega))))
    | ((with_reducible apply w_ixTl); (· walk_at "hk"); (· rfl); (· decide))
    | ((with_reducible apply w_ixLl); (· walk_at "hk"); (· rfl); (· decide))
    | ((with_reducible apply w_appI); (· walk_at "hk"); (· (first | omega | (simp only [List.length_append, List.length_cons, List.length_nil]; omega))))
    | ((with_reducible apply w_iListv); (· walk_at "hk"))
    | ((with_reducible apply w_iTupv); (· walk_at "hk"))
    | ((with_reducible apply w_iRevv); (· walk_at "hk"))
    | walk_at "x"))
local macro_rules | `(tactic| walk_at "run") => `(tactic| repeat' (first
    | with_reducible refine w_seq ?_
    | with_reducible refine w_op ?_
    | with_reducible refine w_asg ?_
    | with_reducible refine w_name ?_
    | with_reducible refine w_c ?_
    | with_reducible refine w_if ?_
    | with_reducible refine w_test ?_
    | with_reducible refine w_blP ?_
    | with_reducible refine w_cons ?_
    | with_reducible refine w_nil ?_
    | with_reducible refine w_ret ?_
    | with_reducible refine w_call ?_
    | ((with_reducible refine' w_var ?e ?_); (case e => rfl))
    | with_reducible refine iteT ?_
    | with_reducible refine iteF ?_
    | with_reducible refine ifNT ?_
    | with_reducible refine ifNF ?_
    | (((with_reducible show @ite Prop (_ = true) _ _ _); refine @ifP _ _ _ _ ?_ ?_) <;> intro h <;> first | (with_reducible exact absurd rfl h) | skip)
    | (((with_reducible show @ite Prop (_ = true) _ _ _); refine @ifN _ _ _ _ ?_ ?_) <;> intro h <;> first | (with_reducible exact absurd rfl h) | skip)
    | with_reducible refine w_add ?_
    | with_reducible refine w_sub ?_
    | with_reducible refine w_eqI ?_
    | with_reducible refine w_neI ?_
    | with_reducible refine w_lt ?_
    | with_reducible refine w_le ?_
    | with_reducible refine w_gt ?_
    | with_reducible refine w_ge ?_
    | with_reducible refine w_eqS ?_
    | with_reducible refine w_eqB ?_
    | with_reducible refine w_neS ?_
    | with_reducible refine w_neB ?_
    | with_reducible refine w_cb ?_
    | with_reducible refine w_tup ?_
    | with_reducible refine w_lst ?_
    | with_reducible refine w_next ?_
    | with_reducible refine w_drop ?_
    | with_reducible refine w_not ?_
    | with_reducible refine w_tru ?_
    | with_reducible refine w_and ?_
    | with_reducible refine w_or ?_
    | with_reducible refine w_andV ?_
    | with_reducible refine w_orV ?_
    | with_reducible refine w_notV ?_
    | with_reducible refine w_ifE ?_
    | with_reducible refine w_chain ?_
    | with_reducible refine w_retN ?_
    | with_reducible refine w_bm ?_
    | with_reducible refine w_raise ?_
    | with_reducible refine w_fld ?_
    | with_reducible refine w_meth ?_
    | with_reducible refine w_setf ?_
    | with_reducible refine w_for ?_
    | with_reducible refine w_rng1 ?_
    | with_reducible refine w_rng2 ?_
    | with_reducible refine w_iList ?_
    | with_reducible refine w_iTup ?_
    | with_reducible refine w_iStr ?_
    | with_reducible refine w_iRev ?_
    | with_reducible refine w_brk ?_
    | with_reducible refine w_cont ?_
    | with_reducible refine w_un ?_
    | with_reducible refine w_lc ?_
    | with_reducible refine w_yes ?_
    | with_reducible refine w_gsub ?_
    | with_reducible refine w_sl ?_
    | with_reducible refine w_part ?_
    | with_reducible refine w_noPart ?_
    | with_reducible refine w_wh ?_
    | ((with_reducible refine' w_aug ?e ?_); (case e => rfl))
    | ((with_reducible refine w_mul ?s ?_); (case s => first | exact Or.inr ⟨by omega, by omega⟩ | exact Or.inl ⟨by omega, by omega⟩))
    | ((with_reducible refine w_div ?s ?_); (case s => omega))
    | ((with_reducible refine w_mod ?s ?_); (case s => first | omega | decide))
    | ((with_reducible refine w_pow ?s ?_); (case s => exact ⟨by decide, by decide, by decide⟩))
    | ((with_reducible refine w_newL ?s ?_); (case s => (first | exact (by decide) | (simp only [List.length_cons, List.length_nil]; omega))); intro _ _)
    | ((with_reducible refine w_newT ?s ?_); (case s => (first | exact (by decide) | (simp only [List.length_cons, List.length_nil]; omega))); intro _ _)
    | with_reducible refine w_max ?_
    | with_reducible refine w_min ?_
    | with_reducible refine w_abs ?_
    | with_reducible refine w_intI ?_
    | with_reducible refine w_intB ?_
    | with_reducible refine w_ipI ?_
    | with_reducible refine w_bmS ?_
    | with_reducible refine w_iStrv ?_
    | with_reducible refine w_neg ?_
    | with_reducible refine w_partI ?_
    | with_reducible refine w_truB ?_
    | with_reducible refine w_truN ?_
    | with_reducible refine w_truI ?_
    | with_reducible refine w_isi_int_int ?_
    | with_reducible refine w_isi_int_bl ?_
    | with_reducible refine w_isi_int_str ?_
    | with_reducible refine w_isi_int_non ?_
    | with_reducible refine w_isi_bool_int ?_
    | with_reducible refine w_isi_bool_bl ?_
    | with_reducible refine w_isi_bool_str ?_
    | with_reducible refine w_isi_bool_non ?_
    | with_reducible refine w_isi_str_int ?_
    | with_reducible refine w_isi_str_bl ?_
    | with_reducible refine w_isi_str_str ?_
    | with_reducible refine w_isi_str_non ?_
    | with_reducible refine w_isi_list_int ?_
    | with_reducible refine w_isi_list_bl ?_
    | with_reducible refine w_isi_list_str ?_
    | with_reducible refine w_isi_list_non ?_
    | with_reducible refine w_isi_tuple_int ?_
    | with_reducible refine w_isi_tuple_bl ?_
    | with_reducible refine w_isi_tuple_str ?_
    | with_reducible refine w_isi_tuple_non ?_
    | with_reducible refine w_is_int ?_
    | with_reducible refine w_isnt_int ?_
    | with_reducible refine w_is_bl ?_
    | with_reducible refine w_isnt_bl ?_
    | with_reducible refine w_is_str ?_
    | with_reducible refine w_isnt_str ?_
    | with_reducible refine w_is_non ?_
    | with_reducible refine w_isnt_non ?_
    | with_reducible refine w_is_ref ?_
    | with_reducible refine w_isnt_ref ?_
    | ((with_reducible apply w_lenL); (· walk_at "hk"))
    | ((with_reducible apply w_lenT); (· walk_at "hk"))
    | ((with_reducible apply w_bmL); (· walk_at "hk"))
    | ((with_reducible refine w_rng1v ?h1 ?h2 ?_); (case h1 => (first | omega | (simp only [List.length_map] at *; omega))); (case h2 => (first | omega | (simp only [List.length_map] at *; omega))))
    | ((with_reducible refine w_rng2v ?h1 ?_); (case h1 => (first | omega | (simp only [List.length_map] at *; omega))))
    | ((with_reducible apply w_ixI); (· walk_at "hk"); (· (first | omega | (simp only [List.length_map] at *; omega))))
    | ((with_reducible apply w_ixTI); (· walk_at "hk"); (· (first | omega | (simp only [List.length_map] at *; omega))))
    | ((with_reducible apply w_ixTl); (· walk_at "hk"); (· rfl); (· decide))
    | ((with_reducible apply w_ixLl); (· walk_at "hk"); (· rfl); (· decide))
    | ((with_reducible apply w_appI); (· walk_at "hk"); (· (first | omega | (simp only [List.length_append, List.length_cons, List.length_nil]; omega))))
    | ((with_reducible apply w_iListv); (· walk_at "hk"))
    | ((with_reducible apply w_iTupv); (· walk_at "hk"))
    | ((with_reducible apply w_iRevv); (· walk_at "hk"))
    | walk_at "x"))
/-- the addresses that the readings speak of -/
structure Ex where
  (LaminaError NotValid PowerOff NoProcess BadHandle NoVolume ReadOnly BadName Missing WrongKind Exists LoopFound CrossVolume Busy NotEmpty TooMany TooLong OverQuota NoSpace BadImage : Addr := 0)
  (Disk Head Space Store OpenFiles Handles Processes Log Accounts Session System : Addr := 0)
  (POINTER_KINDS MODES : Addr := 0)
def S1 (f : V → Hp → VK → XK → Prop) : Sp := fun vs H Q E => ∃ a, vs = [a] ∧ f a H Q E
def S2 (f : V → V → Hp → VK → XK → Prop) : Sp := fun vs H Q E => ∃ a b, vs = [a, b] ∧ f a b H Q E
section
variable {vs : List V} {H : Hp} {Q : VK} {E : XK} {a b c d e : V}
theorem len1 {f} (h : S1 f vs H Q E) : vs.length = 1 := by obtain ⟨_, rfl, _⟩ := h; rfl
theorem len2 {f} (h : S2 f vs H Q E) : vs.length = 2 := by obtain ⟨_, _, rfl, _⟩ := h; rfl
theorem w_S2 {f} (h : f a b H Q E) : S2 f [a, b] H Q E := ⟨a, b, rfl, h⟩
end
theorem lt_line {n : Nat} (h : n < 10000000) : n < sizeLine := Nat.lt_of_lt_of_le h (by decide)
abbrev spLaw (K : PySem.W.Frag) : Sp := S1 fun a H Q _ => ∃ (p : Addr) (ns : List Int), a = .ref p ∧ SqL K H p (ns.map V.int) ∧ ns.length ≤ 63 ∧ ∀ H', Q (.bl true) H'
theorem tyx_list {K : PySem.W.Frag} {H : Hp} {p : Addr} {xs : List V} (h : SqL K H p xs) : TyX K H (.ref p) (.type U.Ob.list.nm) := by
  rcases h with (h | ⟨o, h⟩) | ⟨o, its, n, e, c, _⟩
  · exact .base (.lst h)
  · exact .base (.frz h)
  · exact .kList e c
theorem w_isi_list_L {K : PySem.W.Frag} {H : Hp} {Q : VK} {p : Addr} {xs : List V} (e : SqL K H p xs) (h : Q (.bl true) H) : uIsi K .list [.ref p, .ty "list"] H Q := ⟨rfl, .list, tyx_list e, h⟩
theorem lt_irr : ∀ a : List Int, HT.lexLt a a = false
  | [] => rfl
  | x :: xs => by rw [HT.lexLt_cons, if_pos rfl]; exact lt_irr xs
theorem lt_trans' : ∀ {a b c : List Int}, HT.lexLt a b = true → HT.lexLt b c = true → HT.lexLt a c = true
  | [], [], c, h, _ => by rw [HT.lexLt_nil_nil] at h; cases h
  | [], _ :: _, [], _, h => by rw [HT.lexLt_cons_nil] at h; cases h
  | [], _ :: _, z :: zs, _, _ => HT.lexLt_nil_cons z zs
  | _ :: _, [], c, h, _ => by rw [HT.lexLt_cons_nil] at h; cases h
  | _ :: _, _ :: _, [], _, h => by rw [HT.lexLt_cons_nil] at h; cases h
  | x :: xs, y :: ys, z :: zs, h1, h2 => by
    rw [HT.lexLt_cons] at h1 h2 ⊢
    by_cases e1 : x = y
    · subst e1
      rw [if_pos rfl] at h1
      by_cases e2 : x = z
      · rw [if_pos e2] at h2 ⊢
        exact lt_trans' h1 h2
      · rw [if_neg e2] at h2 ⊢
        exact h2
    · rw [if_neg e1] at h1
      have l1 := of_decide_eq_true h1
      by_cases e2 : y = z
      · subst e2
        rw [if_neg e1]
        exact h1
      · rw [if_neg e2] at h2
        have l2 := of_decide_eq_true h2
        rw [if_neg (by omega)]
        exact decide_eq_true (by omega)
theorem lt_tri : ∀ a b : List Int, HT.lexLt a b = true ∨ a = b ∨ HT.lexLt b a = true
  | [], [] => .inr (.inl rfl)
  | [], _ :: _ => .inl rfl
  | _ :: _, [] => .inr (.inr rfl)
  | x :: xs, y :: ys => by
    rw [HT.lexLt_cons, HT.lexLt_cons]
    by_cases e : x = y
    · subst e
      rw [if_pos rfl, if_pos rfl]
      rcases lt_tri xs ys with h | h | h
      · exact .inl h
      · exact .inr (.inl (by rw [h]))
      · exact .inr (.inr h)
    · rw [if_neg e, if_neg (fun q => e q.symm)]
      rcases Int.lt_or_gt_of_ne e with h | h
      · exact .inl (decide_eq_true h)
      · exact .inr (.inr (decide_eq_true h))
theorem lt_asym {a b : List Int} (h : HT.lexLt a b = true) : HT.lexLt b a = false := by
  cases e : HT.lexLt b a with
  | false => rfl
  | true =>
    have := lt_trans' h e
    rw [lt_irr] at this
    cases this
theorem le_iff {a b : List Int} : lexLe a b = true ↔ a = b ∨ HT.lexLt a b = true := by
  unfold lexLe
  rw [Bool.not_eq_true']
  constructor
  · intro h
    rcases lt_tri a b with q | q | q
    · exact .inr q
    · exact .inl q
    · rw [q] at h; cases h
  · rintro (rfl | h)
    · exact lt_irr _
    · exact lt_asym h
/-- strictly ascending -/
def Asc : List (List Int) → Prop
  | [] => True
  | [_] => True
  | a :: b :: r => HT.lexLt a b = true ∧ Asc (b :: r)
theorem Asc.tail {a : List Int} {r : List (List Int)} (h : Asc (a :: r)) : Asc r := by
  cases r with
  | nil => trivial
  | cons b r => exact h.2
theorem Asc.head {a : List Int} : ∀ {r : List (List Int)}, Asc (a :: r) → ∀ b ∈ r, HT.lexLt a b = true
  | [], _, b, hb => by cases hb
  | c :: r, h, b, hb => by
    rcases List.mem_cons.mp hb with rfl | hb
    · exact h.1
    · exact lt_trans' h.1 (Asc.head h.2 b hb)
theorem Asc.snoc : ∀ {r : List (List Int)} {b : List Int}, Asc r → (∀ a, r.getLast? = some a → HT.lexLt a b = true) → Asc (r ++ [b])
  | [], _, _, _ => trivial
  | [a], b, _, h => ⟨h a rfl, trivial⟩
  | a :: c :: r, b, h, hl => ⟨h.1, Asc.snoc (r := c :: r) h.2 (fun x hx => hl x (by rw [List.getLast?_cons_cons]; exact hx))⟩
/-- in an ascending list those that are less stand first -/
theorem less_first (k : List Int) : ∀ {r : List (List Int)}, Asc r → (r.filter fun x => HT.lexLt x k) = r.takeWhile fun x => HT.lexLt x k
  | [], _ => rfl
  | a :: r, h => by
    rw [List.filter_cons, List.takeWhile_cons]
    by_cases e : HT.lexLt a k = true
    · rw [if_pos e, e, less_first k h.tail]; rfl
    · rw [if_neg e, Bool.eq_false_iff.mpr e]
      refine List.filter_eq_nil_iff.mpr fun b hb q => e ?_
      exact lt_trans' (h.head b hb) q
theorem upto_first (k : List Int) : ∀ {r : List (List Int)}, Asc r → (r.filter fun x => lexLe x k) = r.takeWhile fun x => lexLe x k
  | [], _ => rfl
  | a :: r, h => by
    rw [List.filter_cons, List.takeWhile_cons]
    by_cases e : lexLe a k = true
    · rw [if_pos e, e, upto_first k h.tail]; rfl
    · rw [if_neg e, Bool.eq_false_iff.mpr e]
      refine List.filter_eq_nil_iff.mpr fun b hb q => e ?_
      refine le_iff.mpr (.inr ?_)
      rcases le_iff.mp q with rfl | q
      · exact h.head _ hb
      · exact lt_trans' (h.head b hb) q
/-- an item: a tuple that begins with a tuple of ints, its key -/
def ItK (K : PySem.W.Frag) (H : Hp) (v : V) (k : List Int) : Prop := ∃ p a xs, v = .ref p ∧ SqT K H p (.ref a :: xs) ∧ SqT K H a (k.map V.int)
theorem ItK.same {K : PySem.W.Frag} {H H' : Hp} {v : V} {k : List Int} (s : Same H H') (h : ItK K H v k) : ItK K H' v k := by
  obtain ⟨p, a, xs, e, h1, h2⟩ := h
  exact ⟨p, a, xs, e, U.Same.sqt s h1, U.Same.sqt s h2⟩
def ItKs (K : PySem.W.Frag) (H : Hp) (vs : List V) (ks : List (List Int)) : Prop := vs.length = ks.length ∧ ∀ (i : Nat) (v : V) (k : List Int), vs[i]? = some v → ks[i]? = some k → ItK K H v k
theorem ItKs.same {K : PySem.W.Frag} {H H' : Hp} {vs : List V} {ks : List (List Int)} (s : Same H H') (h : ItKs K H vs ks) : ItKs K H' vs ks := ⟨h.1, fun i v k a b => (h.2 i v k a b).same s⟩
theorem w_key {K : PySem.W.Frag} {H : Hp} {Q : VK} {vs : List V} {ks : List (List Int)} {p : Addr} {n : Int} (hk : ItKs K H vs ks) (e : SqL K H p vs) (h0 : 0 ≤ n ∧ n.toNat < ks.length)
    (h : ∀ v q a xs, vs[n.toNat]? = some v → v = .ref q → SqT K H q (.ref a :: xs) → SqT K H a ((ks.getD n.toNat []).map V.int) → Q v H) : uIx K (.ref p) (.int n) H Q := by
  refine w_ixA e ⟨h0.1, by rw [hk.1]; exact h0.2⟩ fun v hv => ?_
  obtain ⟨q, a, xs, rfl, h1, h2⟩ := hk.2 _ v (ks.getD n.toNat []) hv (by rw [List.getD_eq_getElem?_getD, List.getElem?_eq_getElem h0.2]; rfl)
  exact h _ q a xs hv rfl h1 h2
def splitV {α : Type} (vs : List α) (m : Nat) : List (List α) := if vs.length ≤ m then [vs] else [vs.take ((vs.length + 1) / 2), vs.drop ((vs.length + 1) / 2)]
/-- lists at qs, in this order the lists of xss -/
def ListsAt (H : Hp) (qs : List Addr) (xss : List (List V)) : Prop := qs.length = xss.length ∧ ∀ (i : Nat) (q : Addr), qs[i]? = some q → ∃ xs, xss[i]? = some xs ∧ H q = some (.lst xs)
theorem ListsAt.one {H : Hp} {q : Addr} {xs : List V} (h : H q = some (.lst xs)) : ListsAt H [q] [xs] := ⟨rfl, fun i r hr => by
  match i, hr with
  | 0, hr => cases hr; exact ⟨xs, rfl, h⟩⟩
theorem ListsAt.two {H : Hp} {q r : Addr} {xs ys : List V} (h : H q = some (.lst xs)) (h2 : H r = some (.lst ys)) : ListsAt H [q, r] [xs, ys] := ⟨rfl, fun i s hs => by
  match i, hs with
  | 0, hr => cases hr; exact ⟨xs, rfl, h⟩
  | 1, hr => cases hr; exact ⟨ys, rfl, h2⟩⟩
theorem ListsAt.same {H H' : Hp} {qs : List Addr} {xss : List (List V)} (s : Same H H') (h : ListsAt H qs xss) : ListsAt H' qs xss := ⟨h.1, fun i q hq => by
  obtain ⟨xs, a, b⟩ := h.2 i q hq
  exact ⟨xs, a, s _ _ b⟩⟩
def sp_split_items (K : PySem.W.Frag) (_ : Ex) : Sp := S2 fun a b H Q _ => ∃ (p : Addr) (vs : List V) (m : Nat), a = .ref p ∧ b = .int (m : Int) ∧ SqL K H p vs ∧ vs.length ≤ 10000 ∧
  ∀ H' r qs, Same H H' → H' r = some (.lst (qs.map V.ref)) → H r = none → ListsAt H' qs (splitV vs m) → (∀ q ∈ qs, H q = none ∧ q ≠ r) → qs.Nodup → Q (.ref r) H'
def t_split_items (K : PySem.W.Frag) (C : Ex) (E : XK) : TS :=
  tSeq (tIfS (tTest (tOp (uLe K) (tCB (uLen K) (tCons (tVar 0) (tNil))) (tVar 1))) (tRet (tLst (tCons (tCB (uList K) (tCons (tVar 0) (tNil))) (tNil)))) (tNext))
  (tSeq (tAsg (tOp (uDiv) (tOp (uAdd K) (tCB (uLen K) (tCons (tVar 0) (tNil))) (tC (.int 1))) (tC (.int 2))) (gName 2))
  (tRet (tLst (tCons (tSl (uSl K) (tVar 0) (tNoPart) (tPart (tVar 2))) (tCons (tSl (uSl K) (tVar 0) (tPart (tVar 2)) (tNoPart)) (tNil))))))
theorem pure_split_items {K : PySem.W.Frag} {C : Ex} {vs : List V} {H : Hp} {Q : VK} {E : XK} (h : sp_split_items K C vs H Q E) : t_split_items K C E { nx := fun _ H' => Q .non H', rt := Q } (start ["items", "most", "half"] vs) H := by
  obtain ⟨a, b, rfl, p, vs, m, rfl, rfl, hS, hz, k⟩ := h
  unfold t_split_items
  walk_at "run1"
  · refine w_tlist hS fun q hq => ?_
    walk_at "run1"
    rename_i hle r hr
    have h1 := none_of_upd hr
    refine k _ r [q] (by walk_at "sm") upd_same h1.1 ?_ (fun x hx => ?_) (by simp)
    · rw [splitV, if_pos (by omega)]
      exact .one (upd_old upd_same hr)
    · rw [List.mem_singleton.mp hx]
      exact ⟨hq, fun e => h1.2 e.symm⟩
  · walk_at "run1"
    rename_i hlt
    have e : ((vs.length : Int) + 1) / 2 = (((vs.length + 1) / 2 : Nat) : Int) := by omega
    rw [e]
    refine w_slL hS fun q1 h1 => ?_
    rw [cut_take]
    walk_at "run1"
    refine w_slL (sql_old hS h1) fun q2 h2 => ?_
    rw [cut_drop]
    walk_at "run1"
    rename_i r hr
    have g2 := none_of_upd h2
    have g3 := none_of_upd hr
    have g4 := none_of_upd g3.1
    refine k _ r [q1, q2] (by walk_at "sm") upd_same g4.1 ?_ (fun x hx => ?_) (by simp only [List.nodup_cons, List.mem_singleton, List.not_mem_nil, not_false_eq_true, List.nodup_nil, and_true]; exact fun e => g2.2 e.symm)
    · rw [splitV, if_neg (by omega)]
      exact .two (upd_old (upd_old upd_same h2) hr) (upd_old upd_same hr)
    · simp only [List.mem_cons, List.not_mem_nil, or_false] at hx
      rcases hx with rfl | rfl
      · exact ⟨h1, fun e => g4.2 e.symm⟩
      · exact ⟨g2.1, fun e => g3.2 e.symm⟩
def placeOf (ks : List (List Int)) (key : List Int) : Nat := (ks.takeWhile fun x => HT.lexLt x key).length
def childOf (ks : List (List Int)) (key : List Int) : Nat := (ks.tail.takeWhile fun x => lexLe x key).length
/-- a prefix that holds, the next that does not -/
theorem while_len {α : Type} {p : α → Bool} {l : List α} {n : Nat} (h1 : n ≤ l.length) (h2 : ∀ i x, i < n → l[i]? = some x → p x = true) (h3 : ∀ x, l[n]? = some x → p x = false) : (l.takeWhile p).length = n := by
  induction l generalizing n with
  | nil => simp at h1; simp [h1]
  | cons a l ih =>
    cases n with
    | zero => rw [List.takeWhile_cons, h3 a rfl]; rfl
    | succ n =>
      rw [List.takeWhile_cons, h2 0 a (Nat.succ_pos n) rfl]
      have := ih (n := n) (by simpa using h1) (fun i x hi hx => h2 (i + 1) x (by omega) (by simpa using hx)) (fun x hx => h3 x (by simpa using hx))
      simp [this]
def sp_place_of (K : PySem.W.Frag) (_ : Ex) : Sp := S2 fun a b H Q _ => ∃ (p q : Addr) (vs : List V) (ks : List (List Int)) (key : List Int), a = .ref p ∧ b = .ref q ∧ SqL K H p vs ∧ ItKs K H vs ks ∧ SqT K H q (key.map V.int) ∧
  Q (.int (placeOf ks key : Nat)) H
def t_place_of (K : PySem.W.Frag) (C : Ex) (E : XK) : TS :=
  tSeq (tAsg (tC (.int 0)) (gName 2))
  (tSeq (tWhile (tAnd (tTest (tOp (uLt K) (tVar 2) (tCB (uLen K) (tCons (tVar 0) (tNil))))) (tTest (tOp (uLt K) (tOp (uIx K) (tOp (uIx K) (tVar 0) (tVar 2)) (tC (.int 0))) (tVar 1))))
  (tAug 2 (tC (.int 1)) (ipI fun i j => i + j)))
  (tRet (tVar 2)))
theorem pure_place_of {K : PySem.W.Frag} {C : Ex} {vs : List V} {H : Hp} {Q : VK} {E : XK} (h : sp_place_of K C vs H Q E) : t_place_of K C E { nx := fun _ H' => Q .non H', rt := Q } (start ["items", "key", "place"] vs) H := by
  obtain ⟨a, b, rfl, p, q, vs, ks, key, rfl, rfl, hS, hk, hq, k⟩ := h
  unfold t_place_of
  walk_at "run1"
  refine f_while (fun σ H' => H' = H ∧ ∃ n : Nat, σ = [some (.ref p), some (.ref q), some (.int (n : Int))] ∧ n ≤ ks.length ∧ ∀ i x, i < n → ks[i]? = some x → HT.lexLt x key = true)
    (fun σ H => match σ with | [_, _, some (.int n)] => ks.length - n.toNat | _ => 0) ⟨rfl, 0, rfl, Nat.zero_le _, fun i x h => absurd h (Nat.not_lt_zero _)⟩ ?_
  rintro σ H' ⟨rfl, n, rfl, hn, hp⟩
  have hl := hk.1
  walk_at "run1"
  · rename_i hlt
    have hn' : n < ks.length := by omega
    refine w_key hk hS (by omega) fun v q' a' xs' hv ev h1 h2 => ?_
    subst ev
    walk_at "run1"
    refine ⟨_, key, h2, hq, ?_⟩
    walk_at "run1"
    refine ifB (fun hb => ?_) (fun hb => ?_)
    · walk_at "run1"
      refine ⟨⟨rfl, n + 1, by simp, by omega, fun i x hi hx => ?_⟩, ?_⟩
      · rcases Nat.lt_succ_iff_lt_or_eq.mp hi with hi | rfl
        · exact hp i x hi hx
        · rw [Int.toNat_natCast, List.getD_eq_getElem?_getD, hx] at hb
          exact hb
      · show ks.length - ((n : Int) + 1).toNat < ks.length - (n : Int).toNat
        omega
    · walk_at "run1"
      have e : placeOf ks key = n := while_len hn hp fun x hx => by
        rw [Int.toNat_natCast, List.getD_eq_getElem?_getD, hx] at hb
        exact hb
      rw [e] at k
      exact k
  · walk_at "run1"
    rename_i hge
    have e : placeOf ks key = n := while_len hn hp fun x hx => by
      rw [List.getElem?_eq_none (by omega)] at hx; cases hx
    rw [e] at k
    exact k
def sp_child_of (K : PySem.W.Frag) (_ : Ex) : Sp := S2 fun a b H Q _ => ∃ (p q : Addr) (vs : List V) (ks : List (List Int)) (key : List Int), a = .ref p ∧ b = .ref q ∧ SqL K H p vs ∧ ItKs K H vs ks ∧ SqT K H q (key.map V.int) ∧
  Q (.int (childOf ks key : Nat)) H
def t_child_of (K : PySem.W.Frag) (C : Ex) (E : XK) : TS :=
  tSeq (tAsg (tC (.int 0)) (gName 2))
  (tSeq (tWhile (tAnd (tTest (tOp (uLt K) (tOp (uAdd K) (tVar 2) (tC (.int 1))) (tCB (uLen K) (tCons (tVar 0) (tNil))))) (tTest (tOp (uLe K) (tOp (uIx K) (tOp (uIx K) (tVar 0) (tOp (uAdd K) (tVar 2) (tC (.int 1)))) (tC (.int 0))) (tVar 1))))
  (tAug 2 (tC (.int 1)) (ipI fun i j => i + j)))
  (tRet (tVar 2)))
theorem pure_child_of {K : PySem.W.Frag} {C : Ex} {vs : List V} {H : Hp} {Q : VK} {E : XK} (h : sp_child_of K C vs H Q E) : t_child_of K C E { nx := fun _ H' => Q .non H', rt := Q } (start ["items", "key", "child"] vs) H := by
  obtain ⟨a, b, rfl, p, q, vs, ks, key, rfl, rfl, hS, hk, hq, k⟩ := h
  unfold t_child_of
  walk_at "run1"
  refine f_while (fun σ H' => H' = H ∧ ∃ n : Nat, σ = [some (.ref p), some (.ref q), some (.int (n : Int))] ∧ n ≤ ks.tail.length ∧ ∀ i x, i < n → ks.tail[i]? = some x → lexLe x key = true)
    (fun σ H => match σ with | [_, _, some (.int n)] => ks.length - n.toNat | _ => 0) ⟨rfl, 0, rfl, Nat.zero_le _, fun i x h => absurd h (Nat.not_lt_zero _)⟩ ?_
  rintro σ H' ⟨rfl, n, rfl, hn, hp⟩
  have hl := hk.1
  have ht : ks.tail.length = ks.length - 1 := List.length_tail
  walk_at "run1"
  · rename_i hlt
    have hn' : n + 1 < ks.length := by omega
    refine w_key hk hS (by omega) fun v q' a' xs' hv ev h1 h2 => ?_
    subst ev
    walk_at "run1"
    refine ⟨_, key, h2, hq, ?_⟩
    have en : ((n : Int) + 1).toNat = n + 1 := by omega
    walk_at "run1"
    refine ifB (fun hb => ?_) (fun hb => ?_)
    · walk_at "run1"
      refine ⟨⟨rfl, n + 1, by simp, by omega, fun i x hi hx => ?_⟩, ?_⟩
      · rcases Nat.lt_succ_iff_lt_or_eq.mp hi with hi | rfl
        · exact hp i x hi hx
        · rw [List.getElem?_tail] at hx
          rw [en, List.getD_eq_getElem?_getD, hx] at hb
          exact hb
      · show ks.length - ((n : Int) + 1).toNat < ks.length - (n : Int).toNat
        omega
    · walk_at "run1"
      have e : childOf ks key = n := while_len hn hp fun x hx => by
        rw [List.getElem?_tail] at hx
        rw [en, List.getD_eq_getElem?_getD, hx] at hb
        exact hb
      rw [e] at k
      exact k
  · walk_at "run1"
    rename_i hge
    have e : childOf ks key = n := while_len hn hp fun x hx => by
      rw [List.getElem?_eq_none (by omega)] at hx; cases hx
    rw [e] at k
    exact k
def sp__law_cell (K : PySem.W.Frag) (_ : Ex) : Sp := S2 fun a b H Q _ => ∃ (p : Addr) (ns : List Int) (k : Int), a = .ref p ∧ b = .int k ∧ SqL K H p (ns.map V.int) ∧ 0 ≤ k ∧ Q (.int (ns.getD k.toNat 0)) H
def t__law_cell (K : PySem.W.Frag) (C : Ex) (E : XK) : TS :=
  tSeq (tIfS (tTest (tOp (uLt K) (tVar 1) (tCB (uLen K) (tCons (tVar 0) (tNil))))) (tRet (tOp (uIx K) (tVar 0) (tVar 1))) (tNext))
  (tRet (tC (.int 0)))
theorem pure__law_cell {K : PySem.W.Frag} {C : Ex} {vs : List V} {H : Hp} {Q : VK} {E : XK} (h : sp__law_cell K C vs H Q E) : t__law_cell K C E { nx := fun _ H' => Q .non H', rt := Q } (start ["_law_script", "_law_k"] vs) H := by
  obtain ⟨a, b, rfl, p, ts, k, rfl, rfl, hS, hk, q⟩ := h
  unfold t__law_cell
  walk_at "run1"
  · walk_at "run1"
    exact q
  · walk_at "run1"
    rename_i hlt
    rw [List.getD_eq_getElem?_getD, List.getElem?_eq_none (by simp only [List.length_map] at hlt; omega)] at q
    exact q
theorem u__law_cell {K : PySem.W.Frag} {C : Ex} {H : Hp} {Q : VK} {E : XK} {p : Addr} {ns : List Int} {k : Int} (e : SqL K H p (ns.map V.int)) (h0 : 0 ≤ k) (h : Q (.int (ns.getD k.toNat 0)) H) : sp__law_cell K C [.ref p, .int k] H Q E := w_S2 ⟨p, ns, k, rfl, rfl, e, h0, h⟩
local macro_rules | `(tactic| walk_at "x") => `(tactic| ((with_reducible apply u__law_cell); (· walk_at "hk"); (· omega)))
abbrev It12 := PySem.W.Tup Int × Int
def keys12 (ds : List It12) : List (List Int) := ds.map fun d => d.1.items
theorem tupOnly12 : ∀ ds : List It12, tupOnlyAll (ds.map PySem.W.Datum.toD) = true
  | [] => by simp [tupOnlyAll]
  | d :: ds => by
    have h : tupOnly (PySem.W.Datum.toD d) = true := by
      show tupOnly (.tuple [.tuple (d.1.items.map PyData.int), .int d.2]) = true
      simp [tupOnly, tupOnlyAll, tupOnly_ints]
    simp only [List.map_cons, tupOnlyAll, h, tupOnly12 ds, Bool.and_self]
theorem itk12 {K : PySem.W.Frag} {H : Hp} {v : V} {d : It12} (h : Dt K H v d) : ItK K H v d.1.items := by
  have h : Dp K H v (.tuple [.tuple (d.1.items.map PyData.int), .int d.2]) := h
  cases h with
  | tup e a =>
    cases a with
    | cons h1 h2 =>
      cases h1 with
      | tup e1 a1 =>
        rw [dpInts a1] at e1
        exact ⟨_, _, _, rfl, e, e1⟩
theorem itks12 {K : PySem.W.Frag} {H : Hp} {vs : List V} {ds : List It12} (h : DtAll K H vs ds) : ItKs K H vs (keys12 ds) := by
  refine ⟨by rw [h.length]; unfold keys12; rw [List.length_map], fun i v k hv hk => ?_⟩
  obtain ⟨d, hd, hh⟩ := h.get hv
  unfold keys12 at hk
  rw [List.getElem?_map, hd] at hk
  cases hk
  exact itk12 hh
theorem DtAll.take {α : Type} [DecidableEq α] [PySem.W.Datum α] {K : PySem.W.Frag} {H : Hp} : ∀ {vs : List V} {as : List α} (n : Nat), DtAll K H vs as → DtAll K H (vs.take n) (as.take n)
  | _, _, 0, _ => .nil
  | [], [], _ + 1, _ => .nil
  | [], _ :: _, _, h => by cases h
  | _ :: _, [], _, h => by cases h
  | _ :: _, _ :: _, n + 1, h => by
    cases h with
    | cons h1 h2 => exact DpAll.cons h1 (DtAll.take n h2)
theorem DtAll.drop {α : Type} [DecidableEq α] [PySem.W.Datum α] {K : PySem.W.Frag} {H : Hp} : ∀ {vs : List V} {as : List α} (n : Nat), DtAll K H vs as → DtAll K H (vs.drop n) (as.drop n)
  | _, _, 0, h => h
  | [], [], _ + 1, _ => .nil
  | [], _ :: _, _, h => by cases h
  | _ :: _, [], _, h => by cases h
  | _ :: _, _ :: _, n + 1, h => by
    cases h with
    | cons h1 h2 => exact DtAll.drop n h2
theorem dts_split {K : PySem.W.Frag} {H : Hp} {vs : List V} {ds : List It12} {m : Nat} {qs : List Addr} (hd : DtAll K H vs ds) (h : ListsAt H qs (splitV vs m)) : DtAll K H (qs.map V.ref) (splitV ds m) := by
  have hl := hd.length
  unfold splitV at h ⊢
  rw [hl] at h
  by_cases c : ds.length ≤ m
  · rw [if_pos c] at h ⊢
    obtain ⟨h1, h2⟩ := h
    match qs, h1 with
    | [q], _ =>
      obtain ⟨xs, e, hq⟩ := h2 0 q rfl
      cases e
      exact .cons (.list (SqL.of hq) hd) .nil
  · rw [if_neg c] at h ⊢
    obtain ⟨h1, h2⟩ := h
    match qs, h1 with
    | [q, r], _ =>
      obtain ⟨xs, e, hq⟩ := h2 0 q rfl
      cases e
      obtain ⟨ys, e, hr⟩ := h2 1 r rfl
      cases e
      exact .cons (.list (SqL.of hq) (DtAll.take _ hd)) (.cons (.list (SqL.of hr) (DtAll.drop _ hd)) .nil)
/-- the place of the last key that is at most the key -/
theorem child_is {ks : List (List Int)} {key : List Int} (ha : Asc ks) (hne : ks ≠ []) : ((childOf ks key : Nat) : Int) = (if (0 : Int) > ((ks.takeWhile fun x => lexLe x key).length : Int) - 1 then 0 else ((ks.takeWhile fun x => lexLe x key).length : Int) - 1) := by
  cases ks with
  | nil => exact absurd rfl hne
  | cons a r =>
    unfold childOf
    rw [List.takeWhile_cons, List.tail_cons]
    by_cases e : lexLe a key = true
    · rw [e]
      simp only [if_true, List.length_cons]
      rw [if_neg (by omega)]
      omega
    · rw [Bool.eq_false_iff.mpr e]
      have z : (r.takeWhile fun x => lexLe x key) = [] := by
        cases r with
        | nil => rfl
        | cons b r =>
          rw [List.takeWhile_cons]
          by_cases q : lexLe b key = true
          · exfalso
            refine e (le_iff.mpr (.inr ?_))
            rcases le_iff.mp q with rfl | q
            · exact ha.1
            · exact lt_trans' ha.1 q
          · rw [Bool.eq_false_iff.mpr q]; rfl
      rw [z]
      simp
theorem filter1 {α : Type} {f : α → Bool} {a : α} (h : f a = true) : [a].filter f = [a] := by rw [List.filter_cons, h]; rfl
theorem filter0 {α : Type} {f : α → Bool} {a : α} (h : f a = false) : [a].filter f = [] := by rw [List.filter_cons, h]; rfl
def sp_law (K : PySem.W.Frag) (_ : Ex) : Sp := spLaw K
def t_law (K : PySem.W.Frag) (C : Ex) (E : XK) : TS :=
  tSeq (tAsg (tOp (uAdd K) (tC (.int 4)) (tOp (uMod) (uCall (sp__law_cell K C) (WB E) (tCons (tVar 0) (tCons (tC (.int 0)) (tNil)))) (tC (.int 2)))) (gName 1))
  (tSeq (tAsg (tLst (tNil)) (gName 2))
  (tSeq (tAsg (tTup (tCons (tOp (uMod) (tOp (uDiv) (uCall (sp__law_cell K C) (WB E) (tCons (tVar 0) (tCons (tC (.int 0)) (tNil)))) (tC (.int 2))) (tC (.int 3))) (tCons (tC (.int 0)) (tCons (tC (.int 0)) (tNil))))) (gName 3))
  (tSeq (tFor (iRng1 (tCons (tOp (uMod) (tOp (uDiv) (uCall (sp__law_cell K C) (WB E) (tCons (tVar 0) (tCons (tC (.int 0)) (tNil)))) (tC (.int 6))) (tOp (uAdd K) (tOp (uMul) (tC (.int 2)) (tVar 1)) (tC (.int 1)))) (tNil))) (gName 4)
  (tSeq (tAsg (uCall (sp__law_cell K C) (WB E) (tCons (tVar 0) (tCons (tOp (uAdd K) (tC (.int 2)) (tVar 4)) (tNil)))) (gName 5))
  (tCut (tIfS (tTest (tOp (uEq K) (tOp (uMod) (tVar 5) (tC (.int 3))) (tC (.int 0)))) (tAsg (tTup (tCons (tOp (uAdd K) (tOp (uIx K) (tVar 3) (tC (.int 0))) (tC (.int 1))) (tCons (tC (.int 0)) (tCons (tOp (uMod) (tOp (uDiv) (tVar 5) (tC (.int 3))) (tOp (uPow) (tC (.int 10)) (tC (.int 18)))) (tNil))))) (gName 3)) (tIfS (tTest (tOp (uEq K) (tOp (uMod) (tVar 5) (tC (.int 3))) (tC (.int 1)))) (tAsg (tTup (tCons (tOp (uIx K) (tVar 3) (tC (.int 0))) (tCons (tOp (uAdd K) (tOp (uIx K) (tVar 3) (tC (.int 1))) (tC (.int 1))) (tCons (tC (.int 0)) (tNil))))) (gName 3)) (tAsg (tTup (tCons (tOp (uIx K) (tVar 3) (tC (.int 0))) (tCons (tOp (uIx K) (tVar 3) (tC (.int 1))) (tCons (tOp (uAdd K) (tOp (uAdd K) (tOp (uIx K) (tVar 3) (tC (.int 2))) (tC (.int 1))) (tOp (uMod) (tOp (uDiv) (tVar 5) (tC (.int 3))) (tC (.int 4)))) (tNil))))) (gName 3))))
  (tDrop (tBM K "list" (rAppend) (tVar 2) (tCons (tTup (tCons (tVar 3) (tCons (tVar 4) (tNil)))) (tNil)))))))
  (tSeq (tAsg (tTup (tCons (tOp (uMod) (uCall (sp__law_cell K C) (WB E) (tCons (tVar 0) (tCons (tC (.int 1)) (tNil)))) (tC (.int 4))) (tCons (tOp (uMod) (tOp (uDiv) (uCall (sp__law_cell K C) (WB E) (tCons (tVar 0) (tCons (tC (.int 1)) (tNil)))) (tC (.int 4))) (tC (.int 4))) (tCons (tOp (uMod) (tOp (uDiv) (uCall (sp__law_cell K C) (WB E) (tCons (tVar 0) (tCons (tC (.int 1)) (tNil)))) (tC (.int 16))) (tC (.int 5))) (tNil))))) (gName 6))
  (tCut (tIfS (tAnd (tTest (tOp (uNe K) (tVar 2) (tLst (tNil)))) (tTest (tOp (uEq K) (tOp (uMod) (tOp (uDiv) (uCall (sp__law_cell K C) (WB E) (tCons (tVar 0) (tCons (tC (.int 1)) (tNil)))) (tC (.int 80))) (tC (.int 2))) (tC (.int 1))))) (tAsg (tOp (uIx K) (tOp (uIx K) (tVar 2) (tOp (uMod) (tOp (uDiv) (uCall (sp__law_cell K C) (WB E) (tCons (tVar 0) (tCons (tC (.int 1)) (tNil)))) (tC (.int 160))) (tCB (uLen K) (tCons (tVar 2) (tNil))))) (tC (.int 0))) (gName 6)) (tNext))
  (tSeq (tAsg (tCB (uList K) (tCons (tVar 2) (tNil))) (gName 7))
  (tSeq (tAsg (uCall (sp_split_items K C) (WB E) (tCons (tVar 7) (tCons (tVar 1) (tNil)))) (gName 8))
  (tSeq (tAsg (tLst (tCons (tVar 2) (tNil))) (gName 9))
  (tCut (tIfS (tTest (tOp (uGt) (tCB (uLen K) (tCons (tVar 2) (tNil))) (tVar 1))) (tSeq (tAsg (tOp (uDiv) (tOp (uAdd K) (tCB (uLen K) (tCons (tVar 2) (tNil))) (tC (.int 1))) (tC (.int 2))) (gName 10))
  (tAsg (tLst (tCons (tSl (uSl K) (tVar 2) (tNoPart) (tPart (tVar 10))) (tCons (tSl (uSl K) (tVar 2) (tPart (tVar 10)) (tNoPart)) (tNil)))) (gName 9))) (tNext))
  (tSeq (tIfS (tOr (tNot (uTru K (tCB (uIsi K .list) (tCons (tVar 8) (tCons (tC (.ty "list")) (tNil)))))) (tOr (tTest (tOp (uNe K) (tVar 8) (tVar 9))) (tTest (tOp (uNe K) (tVar 7) (tVar 2))))) (tRet (tC (.bl false))) (tNext))
  (tSeq (tDrop (tBM K "list" (rAppend) (tOp (uIx K) (tVar 8) (tC (.int 0))) (tCons (tTup (tCons (tTup (tCons (tC (.int 9)) (tCons (tC (.int 9)) (tCons (tC (.int 9)) (tNil))))) (tCons (tC (.int 9)) (tNil)))) (tNil))))
  (tSeq (tAsg (tCB (uLen K) (tCons (tLc (iList K (tVar 2)) (gName 13) (tTest (tOp (uLt K) (tOp (uIx K) (tVar 13) (tC (.int 0))) (tVar 6))) (tVar 13) [13]) (tNil))) (gName 11))
  (tSeq (tIfS (tOr (tTest (tOp (uNe K) (tVar 7) (tVar 2))) (tTest (tOp (uNe K) (uCall (sp_place_of K C) (WB E) (tCons (tVar 7) (tCons (tVar 6) (tNil)))) (tVar 11)))) (tRet (tC (.bl false))) (tNext))
  (tSeq (tIfS (tTest (tOp (uEq K) (tVar 2) (tLst (tNil)))) (tRet (tC (.bl true))) (tNext))
  (tSeq (tAsg (tCB (uLen K) (tCons (tLc (iList K (tVar 2)) (gName 13) (tTest (tOp (uLe K) (tOp (uIx K) (tVar 13) (tC (.int 0))) (tVar 6))) (tVar 13) [13]) (tNil))) (gName 12))
  (tRet (tAndV (tOp (uEq K) (uCall (sp_child_of K C) (WB E) (tCons (tVar 7) (tCons (tVar 6) (tNil)))) (tCB (uMax) (tCons (tOp (uSub) (tVar 12) (tC (.int 1))) (tCons (tC (.int 0)) (tNil))))) (tOp (uEq K) (tVar 7) (tVar 2)))))))))))))))))))
theorem pure_law {K : PySem.W.Frag} {C : Ex} {vs : List V} {H : Hp} {Q : VK} {E : XK} (h : sp_law K C vs H Q E) : t_law K C E { nx := fun _ H' => Q .non H', rt := Q } (start ["_law_script", "_law_most", "_law_items", "_law_key", "_law_turn", "_law_cell_here", "_law_asked", "_law_given", "_law_parts", "_law_due", "_law_half", "_law_less", "_law_upto", "_law_item"] vs) H := by
  obtain ⟨a, rfl, p, ns, rfl, hS, hn, k⟩ := h
  unfold t_law
  walk_at "run1"
  rename_i L hL kp hkp
  generalize hc0 : ns.getD (Int.toNat 0) 0 = c0
  have hcnt : 0 ≤ c0 / 6 % (2 * (4 + c0 % 2) + 1) ∧ c0 / 6 % (2 * (4 + c0 % 2) + 1) < 11 := by
    have h1 := Int.emod_nonneg (c0 / 6) (b := 2 * (4 + c0 % 2) + 1) (by omega)
    have h2 := Int.emod_lt_of_pos (c0 / 6) (b := 2 * (4 + c0 % 2) + 1) (by omega)
    omega
  obtain ⟨m, hm, hm5⟩ : ∃ m : Nat, 4 + c0 % 2 = (m : Int) ∧ m ≤ 5 := ⟨(4 + c0 % 2).toNat, by omega, by omega⟩
  rw [hm] at hcnt ⊢
  refine w_rng1v (by omega) (by omega) ?_
  refine f_range (fun i σ H' => ∃ (kp : Addr) (x y z : Int) (u w : Option V) (its : List V) (ds : List It12), σ = [some (.ref p), some (.int (m : Int)), some (.ref L), some (.ref kp), u, w, none, none, none, none, none, none, none, none] ∧
      Same H H' ∧ H' kp = some (.tup [.int x, .int y, .int z]) ∧ H' L = some (.lst its) ∧ DtAll K H' its ds ∧ Asc (keys12 ds) ∧ its.length ≤ i ∧ ∀ a, (keys12 ds).getLast? = some a → lexLe a [x, y, z] = true)
    ⟨kp, _, _, _, _, _, [], [], rfl, by walk_at "sm", upd_same, by walk_at "hk", .nil, trivial, Nat.le_refl _, fun a h => by cases h⟩ ?_ ?_
  · rintro i σ H1 hi ⟨kp, x, y, z, u, w, its, ds, rfl, hs, hk1, hL1, hd, ha, hz, hlast⟩
    have hS1 := hs.seq hS
    walk_at "run1"
    generalize ns.getD (2 + (0 + (i : Int))).toNat 0 = c
    refine w_cut (fun σ H' => ∃ (kq : Addr) (x' y' z' : Int), σ = [some (.ref p), some (.int (m : Int)), some (.ref L), some (.ref kq), some (.int (0 + (i : Int))), some (.int c), none, none, none, none, none, none, none, none] ∧
      Same H1 H' ∧ H' kq = some (.tup [.int x', .int y', .int z']) ∧ HT.lexLt [x, y, z] [x', y', z'] = true) ?_ ?_
    · walk_at "run1"
      · rename_i t ht
        refine ⟨t, _, _, _, rfl, by walk_at "sm", upd_same, ?_⟩
        rw [HT.lexLt_cons, if_neg (by omega)]
        exact decide_eq_true (by omega)
      · walk_at "run1"
        · rename_i t ht
          refine ⟨t, _, _, _, rfl, by walk_at "sm", upd_same, ?_⟩
          rw [HT.lexLt_cons, if_pos rfl, HT.lexLt_cons, if_neg (by omega)]
          exact decide_eq_true (by omega)
        · walk_at "run1"
          rename_i t ht
          refine ⟨t, _, _, _, rfl, by walk_at "sm", upd_same, ?_⟩
          rw [HT.lexLt_cons, if_pos rfl, HT.lexLt_cons, if_pos rfl, HT.lexLt_cons, if_neg (by omega)]
          exact decide_eq_true (by omega)
    rintro σ H2 ⟨kq, x', y', z', rfl, s2, hk2, hlt⟩
    have hL2 := s2 _ _ hL1
    walk_at "run1"
    rename_i t ht
    refine w_app (upd_old hL2 ht) (lt_line (by omega)) ?_
    walk_at "run1"
    have hd3 : DtAll K (upd (upd H2 t (.tup [.ref kq, .int (0 + (i : Int))])) L (.lst (its ++ [.ref t]))) (its ++ [.ref t]) (ds ++ [(⟨[x', y', z']⟩, 0 + (i : Int))]) := by
      refine DpAll.wr (upd_old hL2 ht) (fun _ q => nomatch q) (fun _ _ q => nomatch q) (tupOnly12 _) ?_
      exact DtAll.append (hd.same (s2.trans (same_new ht))) (.cons (.pair (SqT.of upd_same) (.tup (SqT.of (upd_old hk2 ht)) (DtAll.ints [x', y', z'])) .int) .nil)
    refine ⟨kq, x', y', z', _, _, _, _, rfl, by walk_at "sm", ?_, upd_same, hd3, ?_, by rw [List.length_append]; show its.length + 1 ≤ i + 1; omega, ?_⟩
    · exact upd_oth (upd_old hk2 ht) fun e => by
        subst e
        rw [hL2] at hk2; cases hk2
    · unfold keys12
      rw [List.map_append]
      refine Asc.snoc ha fun a hq => ?_
      rcases le_iff.mp (hlast a hq) with rfl | h
      · exact hlt
      · exact lt_trans' h hlt
    · intro a hq
      unfold keys12 at hq
      rw [List.map_append, List.map_cons, List.map_nil, List.getLast?_concat] at hq
      cases hq
      exact le_iff.mpr (.inl rfl)
  rintro σ H1 ⟨kp, x, y, z, u, w, its, ds, rfl, hs, hk1, hL1, hd, ha, hz, hlast⟩
  have hS1 := hs.seq hS
  walk_at "run1"
  generalize ns.getD (Int.toNat 1) 0 = c1
  rename_i ap hap
  have hlen : its.length = ds.length := hd.length
  have hz11 : its.length ≤ 10 := by
    have : (c0 / 6 % (2 * (m : Int) + 1)).toNat ≤ 10 := by omega
    omega
  refine w_cut (fun σ H' => ∃ (aq : Addr) (key : List Int) (u w : Option V), σ = [some (.ref p), some (.int (m : Int)), some (.ref L), some (.ref kp), u, w, some (.ref aq), none, none, none, none, none, none, none] ∧ Same H1 H' ∧ SqT K H' aq (key.map V.int)) ?_ ?_
  · have s1 : Same H1 (upd H1 ap (.tup [.int (c1 % 4), .int (c1 / 4 % 4), .int (c1 / 16 % 5)])) := same_new hap
    have key1 : SqT K (upd H1 ap (.tup [.int (c1 % 4), .int (c1 / 4 % 4), .int (c1 / 16 % 5)])) ap ([c1 % 4, c1 / 4 % 4, c1 / 16 % 5].map V.int) := SqT.of upd_same
    walk_at "run1"
    rename_i el hel
    have s2 := s1.trans (same_new (o := .lst []) hel)
    refine w_neD (a := ds) (b := ([] : List It12)) (.list (SqL.of (s2 _ _ hL1)) (hd.same s2)) (.list (SqL.of upd_same) .nil) (by decide) ⟨_, rfl⟩ ?_
    walk_at "run1"
    · rename_i hne _
      have hpos : 0 < ds.length := by
        cases hq : ds with
        | nil => exact absurd hq hne
        | cons a l => simp
      walk_at "run1"
      have h1 := Int.emod_nonneg (ns.getD (Int.toNat 1) 0 / 160) (b := (its.length : Int)) (by omega)
      have h2 := Int.emod_lt_of_pos (ns.getD (Int.toNat 1) 0 / 160) (b := (its.length : Int)) (by omega)
      refine w_key ((itks12 hd).same s2) (SqL.of (s2 _ _ hL1)) ⟨h1, by unfold keys12; rw [List.length_map]; omega⟩ fun v q a xs hv ev hq ha => ?_
      subst ev
      walk_at "run1"
      exact ⟨a, _, _, _, rfl, s2, ha⟩
    · walk_at "run1"
      exact ⟨ap, _, _, _, rfl, s2, key1.imp (fun h => rd_old h hel) id⟩
    · walk_at "run1"
      exact ⟨ap, _, _, _, rfl, s2, key1.imp (fun h => rd_old h hel) id⟩
  rintro σ H2 ⟨aq, key, u, w, rfl, s12, hq⟩
  have hL2 := s12 _ _ hL1
  walk_at "run1"
  refine w_tlist (SqL.of hL2) fun G hG => ?_
  walk_at "run1"
  have hL3 : (upd H2 G (.lst its)) L = some (.lst its) := upd_old hL2 hG
  refine w_S2 ⟨G, its, m, rfl, rfl, SqL.of upd_same, by omega, fun H4 r qs s4 hr hr0 hql hqn hqd => ?_⟩
  walk_at "run1"
  rename_i d0 hd0
  have s24 : Same H2 H4 := (same_new hG).trans s4
  have s25 := s24.trans (same_new (o := .lst [.ref L]) hd0)
  have hL5 := s25 _ _ hL2
  refine w_cut (fun σ H' => ∃ (dq : Addr) (qs2 : List Addr) (hf : Option V), σ = [some (.ref p), some (.int (m : Int)), some (.ref L), some (.ref kp), u, w, some (.ref aq), some (.ref G), some (.ref r), some (.ref dq), hf, none, none, none] ∧
      Same H4 H' ∧ H' dq = some (.lst (qs2.map V.ref)) ∧ ListsAt H' qs2 (splitV its m)) ?_ ?_
  · have s45 := same_new (o := .lst [.ref L]) hd0
    walk_at "run1"
    · rename_i hgt
      have e : ((its.length : Int) + 1) / 2 = (((its.length + 1) / 2 : Nat) : Int) := by omega
      rw [e]
      refine w_slL (SqL.of hL5) fun q1 h1 => ?_
      rw [cut_take]
      walk_at "run1"
      refine w_slL (SqL.of (upd_old hL5 h1)) fun q2 h2 => ?_
      rw [cut_drop]
      walk_at "run1"
      rename_i r2 hr2
      refine ⟨r2, [q1, q2], _, rfl, by walk_at "sm", upd_same, ?_⟩
      rw [splitV, if_neg (by omega)]
      exact .two (upd_old (upd_old upd_same h2) hr2) (upd_old upd_same hr2)
    · walk_at "run1"
      rename_i hle
      refine ⟨d0, [L], _, rfl, s45, upd_same, ?_⟩
      rw [splitV, if_pos (by omega)]
      exact .one hL5
  rintro σ H5 ⟨dq, qs2, hf, rfl, s5, hdq, hq2⟩
  have s15 : Same H1 H5 := (s12.trans s24).trans s5
  have hd5 := hd.same s15
  have hL5 := s15 _ _ hL1
  have hG5 : H5 G = some (.lst its) := s5 _ _ (s4 _ _ upd_same)
  have hr5 := s5 _ _ hr
  walk_at "run1"
  refine w_isi_list_L (SqL.of hr5) ?_
  walk_at "run1"
  refine w_neD (a := splitV ds m) (b := splitV ds m) (.list (SqL.of hr5) (dts_split hd5 (hql.same s5))) (.list (SqL.of hdq) (dts_split hd5 hq2)) (by decide) ⟨_, rfl⟩ ?_
  walk_at "run1"
  refine w_neD (a := ds) (b := ds) (.list (SqL.of hG5) hd5) (.list (SqL.of hL5) hd5) (by decide) ⟨_, rfl⟩ ?_
  walk_at "run1"
  have hqpos : 0 < qs.length := by
    rw [hql.1]
    unfold splitV
    split <;> simp
  obtain ⟨q0, hq0⟩ : ∃ q0, qs[0]? = some q0 := ⟨qs[0], List.getElem?_eq_getElem hqpos⟩
  obtain ⟨xs0, hx0, hq04⟩ := hql.2 0 q0 hq0
  have hq05 := s5 _ _ hq04
  have hx0l : xs0.length ≤ 10 := by
    unfold splitV at hx0
    split at hx0
    · cases hx0; exact hz11
    · cases hx0; rw [List.length_take]; omega
  refine w_ixL (k := 0) (SqL.of hr5) rfl (by rw [List.getElem?_map, hq0]; rfl) ?_
  walk_at "run1"
  rename_i t1 ht1 t2 ht2
  refine w_app (upd_old (upd_old hq05 ht1) ht2) (lt_line (by omega)) ?_
  walk_at "run1"
  have hqL : L ≠ q0 := ne_of_none (upd_old hL2 hG) (hqn q0 (List.mem_of_getElem? hq0)).1
  have hqG : G ≠ q0 := ne_of_none upd_same (hqn q0 (List.mem_of_getElem? hq0)).1
  have hqa : ∀ {xs : List V}, SqT K H2 aq xs → SqT K (upd (upd (upd H5 t1 (.tup [.int 9, .int 9, .int 9])) t2 (.tup [.ref t1, .int 9])) q0 (.lst (xs0 ++ [.ref t2]))) aq xs := fun h =>
    sqt_wr (U.Same.sqt (((s24.trans s5).trans (same_new ht1)).trans (same_new ht2)) h) (upd_old (upd_old hq05 ht1) ht2) (fun _ q => nomatch q) (fun _ _ q => nomatch q)
  have hd6 : DtAll K (upd (upd (upd H5 t1 (.tup [.int 9, .int 9, .int 9])) t2 (.tup [.ref t1, .int 9])) q0 (.lst (xs0 ++ [.ref t2]))) its ds :=
    DpAll.wr (upd_old (upd_old hq05 ht1) ht2) (fun _ q => nomatch q) (fun _ _ q => nomatch q) (tupOnly12 _) ((hd5.same (same_new ht1)).same (same_new ht2))
  have hL6 : (upd (upd (upd H5 t1 (.tup [.int 9, .int 9, .int 9])) t2 (.tup [.ref t1, .int 9])) q0 (.lst (xs0 ++ [.ref t2]))) L = some (.lst its) := upd_oth (upd_old (upd_old hL5 ht1) ht2) hqL
  have hG6 : (upd (upd (upd H5 t1 (.tup [.int 9, .int 9, .int 9])) t2 (.tup [.ref t1, .int 9])) q0 (.lst (xs0 ++ [.ref t2]))) G = some (.lst its) := upd_oth (upd_old (upd_old hG5 ht1) ht2) hqG
  have hq6 := hqa hq
  generalize upd (upd (upd H5 t1 (.tup [.int 9, .int 9, .int 9])) t2 (.tup [.ref t1, .int 9])) q0 (.lst (xs0 ++ [.ref t2])) = H6 at *
  walk_at "run1"
  refine l_list (xs := its) (fun D i H => ∃ acc, H = upd H6 D (.lst acc) ∧ acc.length = (((keys12 ds).take i).filter fun x => HT.lexLt x key).length) (fun D hD => ⟨[], rfl, rfl⟩) (fun D i H hD ⟨acc, e, _⟩ => by rw [e]; exact sql_old (SqL.of hL6) hD) (fun D i x H hD hx ⟨acc, e, hacc⟩ => ?_) (fun D H hD ⟨acc, e, hacc⟩ => ?_)
  · subst e
    have hil := (List.getElem?_eq_some_iff.mp hx).1
    have hki : (keys12 ds)[i]? = some ((keys12 ds).getD i []) := by
      rw [List.getD_eq_getElem?_getD, List.getElem?_eq_getElem (by unfold keys12; rw [List.length_map]; omega)]; rfl
    obtain ⟨q, a, xs, rfl, h1, h2⟩ := (itks12 hd6).2 i x _ hx hki
    have h1' : SqT K (upd H6 D (.lst acc)) q (.ref a :: xs) := sqt_old h1 hD
    have h2' := sqt_old (o := .lst acc) h2 hD
    have hq' := sqt_old (o := .lst acc) hq6 hD
    have ht : (keys12 ds).take (i + 1) = (keys12 ds).take i ++ [(keys12 ds).getD i []] := by
      have hl : i < (keys12 ds).length := by unfold keys12; rw [List.length_map]; omega
      rw [List.take_succ_eq_append_getElem hl, List.getD_eq_getElem?_getD, List.getElem?_eq_getElem hl]; rfl
    walk_at "run1"
    refine ⟨rfl, ?_⟩
    walk_at "run1"
    refine ⟨_, key, h2', hq', ?_⟩
    walk_at "run1"
    refine ifB (fun hb => ?_) (fun hb => ?_)
    · walk_at "run1"
      refine ⟨acc, upd_same, lt_line ?_, acc ++ [.ref q], upd_upd, ?_⟩
      · rw [hacc]
        refine Nat.lt_of_le_of_lt (List.length_filter_le _ _) (Nat.lt_of_le_of_lt (List.length_take_le' _ _) ?_)
        unfold keys12; rw [List.length_map]; omega
      · rw [ht, List.filter_append, List.length_append, List.length_append, hacc, filter1 (f := fun x => HT.lexLt x key) hb]
        rfl
    · refine ⟨acc, rfl, ?_⟩
      rw [ht, List.filter_append, List.length_append, hacc, filter0 (f := fun x => HT.lexLt x key) hb]
      rfl
  rw [show its.length = (keys12 ds).length by unfold keys12; rw [List.length_map]; exact hlen, List.take_length] at hacc
  subst e
  walk_at "run1"
  rw [hacc, less_first key ha]
  have s67 := same_new (o := .lst acc) hD
  have hd7 := hd6.same s67
  refine w_neD (a := ds) (b := ds) (.list (SqL.of (s67 _ _ hG6)) hd7) (.list (SqL.of (s67 _ _ hL6)) hd7) (by decide) ⟨_, rfl⟩ ?_
  walk_at "run1"
  refine w_S2 ⟨G, aq, its, keys12 ds, key, rfl, rfl, SqL.of (s67 _ _ hG6), itks12 hd7, sqt_old hq6 hD, ?_⟩
  walk_at "run1"
  rename_i el hel
  have s68 := s67.trans (same_new (o := .lst []) hel)
  have hd8 := hd6.same s68
  refine w_eqD (a := ds) (b := ([] : List It12)) (.list (SqL.of (s68 _ _ hL6)) hd8) (.list (SqL.of upd_same) .nil) (by decide) ⟨_, rfl⟩ ?_
  walk_at "run1"
  · exact k _
  rename_i hne
  have hL8 := s68 _ _ hL6
  have hG8 := s68 _ _ hG6
  have hq8 := U.Same.sqt s68 hq6
  generalize upd (upd H6 D (.lst acc)) el (.lst []) = H8 at *
  walk_at "run1"
  refine l_list (xs := its) (fun D i H => ∃ acc, H = upd H8 D (.lst acc) ∧ acc.length = (((keys12 ds).take i).filter fun x => lexLe x key).length) (fun D hD => ⟨[], rfl, rfl⟩) (fun D i H hD ⟨acc, e, _⟩ => by rw [e]; exact sql_old (SqL.of hL8) hD) (fun D i x H hD hx ⟨acc, e, hacc⟩ => ?_) (fun D H hD ⟨acc, e, hacc⟩ => ?_)
  · subst e
    have hil := (List.getElem?_eq_some_iff.mp hx).1
    have hki : (keys12 ds)[i]? = some ((keys12 ds).getD i []) := by
      rw [List.getD_eq_getElem?_getD, List.getElem?_eq_getElem (by unfold keys12; rw [List.length_map]; omega)]; rfl
    obtain ⟨q, a, xs, rfl, h1, h2⟩ := (itks12 hd8).2 i x _ hx hki
    have h1' : SqT K (upd H8 D (.lst acc)) q (.ref a :: xs) := sqt_old h1 hD
    have h2' := sqt_old (o := .lst acc) h2 hD
    have hq' := sqt_old (o := .lst acc) hq8 hD
    have ht : (keys12 ds).take (i + 1) = (keys12 ds).take i ++ [(keys12 ds).getD i []] := by
      have hl : i < (keys12 ds).length := by unfold keys12; rw [List.length_map]; omega
      rw [List.take_succ_eq_append_getElem hl, List.getD_eq_getElem?_getD, List.getElem?_eq_getElem hl]; rfl
    walk_at "run1"
    refine ⟨rfl, ?_⟩
    walk_at "run1"
    refine ⟨_, key, h2', hq', ?_⟩
    walk_at "run1"
    refine ifB (fun hb => ?_) (fun hb => ?_)
    · walk_at "run1"
      refine ⟨acc, upd_same, lt_line ?_, acc ++ [.ref q], upd_upd, ?_⟩
      · rw [hacc]
        refine Nat.lt_of_le_of_lt (List.length_filter_le _ _) (Nat.lt_of_le_of_lt (List.length_take_le' _ _) ?_)
        unfold keys12; rw [List.length_map]; omega
      · rw [ht, List.filter_append, List.length_append, List.length_append, hacc, filter1 (f := fun x => lexLe x key) hb]
        rfl
    · refine ⟨acc, rfl, ?_⟩
      rw [ht, List.filter_append, List.length_append, hacc, filter0 (f := fun x => lexLe x key) hb]
      rfl
  rw [show its.length = (keys12 ds).length by unfold keys12; rw [List.length_map]; exact hlen, List.take_length] at hacc
  subst e
  walk_at "run1"
  rw [hacc, upto_first key ha]
  have s89 := same_new (o := .lst acc) hD
  have hd9 := hd8.same s89
  refine w_S2 ⟨G, aq, its, keys12 ds, key, rfl, rfl, SqL.of (s89 _ _ hG8), itks12 hd9, sqt_old hq8 hD, ?_⟩
  walk_at "run1"
  · refine w_eqD (a := ds) (b := ds) (.list (SqL.of (s89 _ _ hG8)) hd9) (.list (SqL.of (s89 _ _ hL8)) hd9) (by decide) ⟨_, rfl⟩ ?_
    rw [decide_eq_true rfl]
    exact k _
  · rename_i hx
    exact absurd (child_is ha (by cases hds : ds with | nil => exact absurd hds hne | cons a l => simp [keys12])) hx
def topS (i : Nat) : Stmt := PySem.Challenge.pw_laminae_k12_places_and_parts.main.body.getD i (.Pass ⟨0, 0, 0, 0⟩)
abbrev s_split_items : Stmt := topS 1
theorem sc_split_items : FnScope ["items", "most", "half"] ["items", "most"] (defScope s_split_items) := ⟨rfl, rfl, rfl, by decide +kernel, rfl, by decide +kernel, by decide +kernel⟩
abbrev s_place_of : Stmt := topS 2
theorem sc_place_of : FnScope ["items", "key", "place"] ["items", "key"] (defScope s_place_of) := ⟨rfl, rfl, rfl, by decide +kernel, rfl, by decide +kernel, by decide +kernel⟩
abbrev s_child_of : Stmt := topS 3
theorem sc_child_of : FnScope ["items", "key", "child"] ["items", "key"] (defScope s_child_of) := ⟨rfl, rfl, rfl, by decide +kernel, rfl, by decide +kernel, by decide +kernel⟩
abbrev s__law_cell : Stmt := topS 5
theorem sc__law_cell : FnScope ["_law_script", "_law_k"] ["_law_script", "_law_k"] (defScope s__law_cell) := ⟨rfl, rfl, rfl, by decide +kernel, rfl, by decide +kernel, by decide +kernel⟩
abbrev s_law : Stmt := topS 6
theorem sc_law : FnScope ["_law_script", "_law_most", "_law_items", "_law_key", "_law_turn", "_law_cell_here", "_law_asked", "_law_given", "_law_parts", "_law_due", "_law_half", "_law_less", "_law_upto", "_law_item"] ["_law_script"] (defScope s_law) := ⟨rfl, rfl, rfl, by decide +kernel, rfl, by decide +kernel, by decide +kernel⟩
structure Adr where
  ex : Ex
  f_split_items : Addr
  d_split_items : FuncData
  f_place_of : Addr
  d_place_of : FuncData
  f_child_of : Addr
  d_child_of : FuncData
  f__law_cell : Addr
  d__law_cell : FuncData
  f_law : Addr
  d_law : FuncData
structure Top (K : PySem.W.Frag) (mg : Str → Option Value) (A : Adr) : Prop where
  F_split_items : Fun K "split_items" "split_items" s_split_items A.f_split_items A.d_split_items
  b_split_items : Binds K A.d_split_items ["items", "most"] []
  g_split_items : mg "split_items" = some (.ref A.f_split_items)
  F_place_of : Fun K "place_of" "place_of" s_place_of A.f_place_of A.d_place_of
  b_place_of : Binds K A.d_place_of ["items", "key"] []
  g_place_of : mg "place_of" = some (.ref A.f_place_of)
  F_child_of : Fun K "child_of" "child_of" s_child_of A.f_child_of A.d_child_of
  b_child_of : Binds K A.d_child_of ["items", "key"] []
  g_child_of : mg "child_of" = some (.ref A.f_child_of)
  F__law_cell : Fun K "_law_cell" "_law_cell" s__law_cell A.f__law_cell A.d__law_cell
  b__law_cell : Binds K A.d__law_cell ["_law_script", "_law_k"] []
  g__law_cell : mg "_law_cell" = some (.ref A.f__law_cell)
  F_law : Fun K "law" "law" s_law A.f_law A.d_law
  b_law : Binds K A.d_law ["_law_script"] []
  g_law : mg "law" = some (.ref A.f_law)
  n_isinstance : mg "isinstance" = none
  n_len : mg "len" = none
  n_list : mg "list" = none
  n_max : mg "max" = none
  n_range : mg "range" = none
section
variable {P : Program} {w : World} {K : PySem.W.Frag} {mg : Str → Option Value} {base : Heap} {A : Adr}
theorem ok_split_items (T : Top K mg A) : FnOk P w K mg base (L2.CX P w) 1 A.f_split_items A.d_split_items ["items", "most"] (sp_split_items K A.ex) := by
  refine T.F_split_items.okX sc_split_items (fun vs H Q E h => len2 h) (fun cdv Ar outer s H vs Q E hr h => ⟨t_split_items K A.ex E, ?_, pure_split_items h⟩)
  have tk : Takes (cxOf (L2.CX P w) P w K mg base ["items", "most", "half"] "split_items" (defScope s_split_items) A.f_split_items cdv Ar outer s H E) (WB E) := takes_of rfl rfl rfl rfl
  have hu := hu_of hr
  have hl := Nat.lt_of_succ_lt hu
  exact pss_cons (ps_if (pt_cmpR (o_le hl) (pe_callB (c_len) (by rfl) T.n_len (by decide +kernel) (pa_cons (pv 0) (pa_nil))) (pv 1) (nomark _)) (pss_one (ps_ret (pe_lst (pa_cons (pe_callTy (c_list) (by rfl) T.n_list (by decide +kernel) (pa_cons (pv 0) (pa_nil))) (pa_nil))))) (pss_nil))
        (pss_cons (ps_set (i := 2) sc_split_items.nd rfl (Or.inl rfl) (pe_op o_div (pe_op o_add (pe_callB (c_len) (by rfl) T.n_len (by decide +kernel) (pa_cons (pv 0) (pa_nil))) (pe_int)) (pe_int)))
        (pss_one (ps_ret (pe_lst (pa_cons (e_sl (pv 0) (po_none) (po_some (pv 2))) (pa_cons (e_sl (pv 0) (po_some (pv 2)) (po_none)) (pa_nil)))))))
theorem ok_place_of (T : Top K mg A) : FnOk P w K mg base (L2.CX P w) 1 A.f_place_of A.d_place_of ["items", "key"] (sp_place_of K A.ex) := by
  refine T.F_place_of.okX sc_place_of (fun vs H Q E h => len2 h) (fun cdv Ar outer s H vs Q E hr h => ⟨t_place_of K A.ex E, ?_, pure_place_of h⟩)
  have tk : Takes (cxOf (L2.CX P w) P w K mg base ["items", "key", "place"] "place_of" (defScope s_place_of) A.f_place_of cdv Ar outer s H E) (WB E) := takes_of rfl rfl rfl rfl
  have po : PassesOwn (model P w) (cxOf (L2.CX P w) P w K mg base ["items", "key", "place"] "place_of" (defScope s_place_of) A.f_place_of cdv Ar outer s H E).A (cxOf (L2.CX P w) P w K mg base ["items", "key", "place"] "place_of" (defScope s_place_of) A.f_place_of cdv Ar outer s H E).env (cxOf (L2.CX P w) P w K mg base ["items", "key", "place"] "place_of" (defScope s_place_of) A.f_place_of cdv Ar outer s H E).xe := passes_of rfl
  have hu := hu_of hr
  have hl := Nat.lt_of_succ_lt hu
  exact pss_cons (ps_set (i := 2) sc_place_of.nd rfl (Or.inl rfl) (pe_int))
        (pss_cons (ps_while po (PW.pt (pw_and (pt_cmpR (o_lt hl) (pv 2) (pe_callB (c_len) (by rfl) T.n_len (by decide +kernel) (pa_cons (pv 0) (pa_nil))) (nomark _)) (pw_and1 (pt_cmpR (o_lt hl) (e_ix (e_ix (pv 0) (pv 2)) (pe_int)) (pv 1) (nomark _)))))
        (pss_one (ps_aug (i := 2) sc_place_of.nd rfl (Or.inl rfl) (pe_int) ip_add)))
        (pss_one (ps_ret (pv 2))))
theorem ok_child_of (T : Top K mg A) : FnOk P w K mg base (L2.CX P w) 1 A.f_child_of A.d_child_of ["items", "key"] (sp_child_of K A.ex) := by
  refine T.F_child_of.okX sc_child_of (fun vs H Q E h => len2 h) (fun cdv Ar outer s H vs Q E hr h => ⟨t_child_of K A.ex E, ?_, pure_child_of h⟩)
  have tk : Takes (cxOf (L2.CX P w) P w K mg base ["items", "key", "child"] "child_of" (defScope s_child_of) A.f_child_of cdv Ar outer s H E) (WB E) := takes_of rfl rfl rfl rfl
  have po : PassesOwn (model P w) (cxOf (L2.CX P w) P w K mg base ["items", "key", "child"] "child_of" (defScope s_child_of) A.f_child_of cdv Ar outer s H E).A (cxOf (L2.CX P w) P w K mg base ["items", "key", "child"] "child_of" (defScope s_child_of) A.f_child_of cdv Ar outer s H E).env (cxOf (L2.CX P w) P w K mg base ["items", "key", "child"] "child_of" (defScope s_child_of) A.f_child_of cdv Ar outer s H E).xe := passes_of rfl
  have hu := hu_of hr
  have hl := Nat.lt_of_succ_lt hu
  exact pss_cons (ps_set (i := 2) sc_child_of.nd rfl (Or.inl rfl) (pe_int))
        (pss_cons (ps_while po (PW.pt (pw_and (pt_cmpR (o_lt hl) (pe_op o_add (pv 2) (pe_int)) (pe_callB (c_len) (by rfl) T.n_len (by decide +kernel) (pa_cons (pv 0) (pa_nil))) (nomark _)) (pw_and1 (pt_cmpR (o_le hl) (e_ix (e_ix (pv 0) (pe_op o_add (pv 2) (pe_int))) (pe_int)) (pv 1) (nomark _)))))
        (pss_one (ps_aug (i := 2) sc_child_of.nd rfl (Or.inl rfl) (pe_int) ip_add)))
        (pss_one (ps_ret (pv 2))))
theorem ok__law_cell (T : Top K mg A) : FnOk P w K mg base (L2.CX P w) 1 A.f__law_cell A.d__law_cell ["_law_script", "_law_k"] (sp__law_cell K A.ex) := by
  refine T.F__law_cell.okX sc__law_cell (fun vs H Q E h => len2 h) (fun cdv Ar outer s H vs Q E hr h => ⟨t__law_cell K A.ex E, ?_, pure__law_cell h⟩)
  have tk : Takes (cxOf (L2.CX P w) P w K mg base ["_law_script", "_law_k"] "_law_cell" (defScope s__law_cell) A.f__law_cell cdv Ar outer s H E) (WB E) := takes_of rfl rfl rfl rfl
  have hu := hu_of hr
  have hl := Nat.lt_of_succ_lt hu
  exact pss_cons (ps_if (pt_cmpR (o_lt hl) (pv 1) (pe_callB (c_len) (by rfl) T.n_len (by decide +kernel) (pa_cons (pv 0) (pa_nil))) (nomark _)) (pss_one (ps_ret (e_ix (pv 0) (pv 1)))) (pss_nil))
        (pss_one (ps_ret (pe_int)))
theorem ok_law (T : Top K mg A) : FnOk P w K mg base (L2.CX P w) 2 A.f_law A.d_law ["_law_script"] (sp_law K A.ex) := by
  refine T.F_law.okX sc_law (fun vs H Q E h => len1 (show spLaw K vs H Q E from h)) (fun cdv Ar outer s H vs Q E hr h => ⟨t_law K A.ex E, ?_, pure_law h⟩)
  have tk : Takes (cxOf (L2.CX P w) P w K mg base ["_law_script", "_law_most", "_law_items", "_law_key", "_law_turn", "_law_cell_here", "_law_asked", "_law_given", "_law_parts", "_law_due", "_law_half", "_law_less", "_law_upto", "_law_item"] "law" (defScope s_law) A.f_law cdv Ar outer s H E) (WB E) := takes_of rfl rfl rfl rfl
  have po : PassesOwn (model P w) (cxOf (L2.CX P w) P w K mg base ["_law_script", "_law_most", "_law_items", "_law_key", "_law_turn", "_law_cell_here", "_law_asked", "_law_given", "_law_parts", "_law_due", "_law_half", "_law_less", "_law_upto", "_law_item"] "law" (defScope s_law) A.f_law cdv Ar outer s H E).A (cxOf (L2.CX P w) P w K mg base ["_law_script", "_law_most", "_law_items", "_law_key", "_law_turn", "_law_cell_here", "_law_asked", "_law_given", "_law_parts", "_law_due", "_law_half", "_law_less", "_law_upto", "_law_item"] "law" (defScope s_law) A.f_law cdv Ar outer s H E).env (cxOf (L2.CX P w) P w K mg base ["_law_script", "_law_most", "_law_items", "_law_key", "_law_turn", "_law_cell_here", "_law_asked", "_law_given", "_law_parts", "_law_due", "_law_half", "_law_less", "_law_upto", "_law_item"] "law" (defScope s_law) A.f_law cdv Ar outer s H E).xe := passes_of rfl
  have hu := hu_of hr
  have hl := Nat.lt_of_succ_lt hu
  exact pss_cons (ps_set (i := 1) sc_law.nd rfl (Or.inl rfl) (pe_op o_add (pe_int) (pe_op o_mod (e_call (ok__law_cell T) (hr.mono (by decide)) T.g__law_cell T.F__law_cell.kp T.b__law_cell tk (pa_cons (pv 0) (pa_cons (pe_int) (pa_nil)))) (pe_int))))
        (pss_cons (ps_set (i := 2) sc_law.nd rfl (Or.inl rfl) (pe_lst (pa_nil)))
        (pss_cons (ps_set (i := 3) sc_law.nd rfl (Or.inl rfl) (pe_tup (pa_cons (pe_op o_mod (pe_op o_div (e_call (ok__law_cell T) (hr.mono (by decide)) T.g__law_cell T.F__law_cell.kp T.b__law_cell tk (pa_cons (pv 0) (pa_cons (pe_int) (pa_nil)))) (pe_int)) (pe_int)) (pa_cons (pe_int) (pa_cons (pe_int) (pa_nil))))))
        (pss_cons (ps_for po rfl (pi_range1 (by rfl) T.n_range (pa_cons (pe_op o_mod (pe_op o_div (e_call (ok__law_cell T) (hr.mono (by decide)) T.g__law_cell T.F__law_cell.kp T.b__law_cell tk (pa_cons (pv 0) (pa_cons (pe_int) (pa_nil)))) (pe_int)) (pe_op o_add (pe_op o_mul (pe_int) (pv 1)) (pe_int))) (pa_nil))) (pg_name (i := 4) sc_law.nd rfl (Or.inl rfl))
        (pss_cons (ps_set (i := 5) sc_law.nd rfl (Or.inl rfl) (e_call (ok__law_cell T) (hr.mono (by decide)) T.g__law_cell T.F__law_cell.kp T.b__law_cell tk (pa_cons (pv 0) (pa_cons (pe_op o_add (pe_int) (pv 4)) (pa_nil)))))
        (pss_cut (ps_if (pt_cmpR (o_eq hr.units) (pe_op o_mod (pv 5) (pe_int)) (pe_int) (nomark _)) (pss_one (ps_set (i := 3) sc_law.nd rfl (Or.inl rfl) (pe_tup (pa_cons (pe_op o_add (e_ix (pv 3) (pe_int)) (pe_int)) (pa_cons (pe_int) (pa_cons (pe_op o_mod (pe_op o_div (pv 5) (pe_int)) (pe_op o_pow (pe_int) (pe_int))) (pa_nil))))))) (pss_one (ps_if (pt_cmpR (o_eq hr.units) (pe_op o_mod (pv 5) (pe_int)) (pe_int) (nomark _)) (pss_one (ps_set (i := 3) sc_law.nd rfl (Or.inl rfl) (pe_tup (pa_cons (e_ix (pv 3) (pe_int)) (pa_cons (pe_op o_add (e_ix (pv 3) (pe_int)) (pe_int)) (pa_cons (pe_int) (pa_nil))))))) (pss_one (ps_set (i := 3) sc_law.nd rfl (Or.inl rfl) (pe_tup (pa_cons (e_ix (pv 3) (pe_int)) (pa_cons (e_ix (pv 3) (pe_int)) (pa_cons (pe_op o_add (pe_op o_add (e_ix (pv 3) (pe_int)) (pe_int)) (pe_op o_mod (pe_op o_div (pv 5) (pe_int)) (pe_int))) (pa_nil))))))))))
        (pss_one (ps_expr (pe_bm PySem.F.plainAttrs_list PySem.F.slot_list_append PySem.F.type_list_append mt_append (pv 2) (pa_cons (pe_tup (pa_cons (pv 3) (pa_cons (pv 4) (pa_nil)))) (pa_nil))))))))
        (pss_cons (ps_set (i := 6) sc_law.nd rfl (Or.inr rfl) (pe_tup (pa_cons (pe_op o_mod (e_call (ok__law_cell T) (hr.mono (by decide)) T.g__law_cell T.F__law_cell.kp T.b__law_cell tk (pa_cons (pv 0) (pa_cons (pe_int) (pa_nil)))) (pe_int)) (pa_cons (pe_op o_mod (pe_op o_div (e_call (ok__law_cell T) (hr.mono (by decide)) T.g__law_cell T.F__law_cell.kp T.b__law_cell tk (pa_cons (pv 0) (pa_cons (pe_int) (pa_nil)))) (pe_int)) (pe_int)) (pa_cons (pe_op o_mod (pe_op o_div (e_call (ok__law_cell T) (hr.mono (by decide)) T.g__law_cell T.F__law_cell.kp T.b__law_cell tk (pa_cons (pv 0) (pa_cons (pe_int) (pa_nil)))) (pe_int)) (pe_int)) (pa_nil))))))
        (pss_cut (ps_if (PW.pt (pw_and (pt_cmpR (o_ne hr.units) (pv 2) (pe_lst (pa_nil)) (nomark _)) (pw_and1 (pt_cmpR (o_eq hr.units) (pe_op o_mod (pe_op o_div (e_call (ok__law_cell T) (hr.mono (by decide)) T.g__law_cell T.F__law_cell.kp T.b__law_cell tk (pa_cons (pv 0) (pa_cons (pe_int) (pa_nil)))) (pe_int)) (pe_int)) (pe_int) (nomark _))))) (pss_one (ps_set (i := 6) sc_law.nd rfl (Or.inr rfl) (e_ix (e_ix (pv 2) (pe_op o_mod (pe_op o_div (e_call (ok__law_cell T) (hr.mono (by decide)) T.g__law_cell T.F__law_cell.kp T.b__law_cell tk (pa_cons (pv 0) (pa_cons (pe_int) (pa_nil)))) (pe_int)) (pe_callB (c_len) (by rfl) T.n_len (by decide +kernel) (pa_cons (pv 2) (pa_nil))))) (pe_int)))) (pss_nil))
        (pss_cons (ps_set (i := 7) sc_law.nd rfl (Or.inl rfl) (pe_callTy (c_list) (by rfl) T.n_list (by decide +kernel) (pa_cons (pv 2) (pa_nil))))
        (pss_cons (ps_set (i := 8) sc_law.nd rfl (Or.inl rfl) (e_call (ok_split_items T) (hr.mono (by decide)) T.g_split_items T.F_split_items.kp T.b_split_items tk (pa_cons (pv 7) (pa_cons (pv 1) (pa_nil)))))
        (pss_cons (ps_set (i := 9) sc_law.nd rfl (Or.inl rfl) (pe_lst (pa_cons (pv 2) (pa_nil))))
        (pss_cut (ps_if (pt_cmpR (o_gt) (pe_callB (c_len) (by rfl) T.n_len (by decide +kernel) (pa_cons (pv 2) (pa_nil))) (pv 1) (nomark _)) (pss_cons (ps_set (i := 10) sc_law.nd rfl (Or.inl rfl) (pe_op o_div (pe_op o_add (pe_callB (c_len) (by rfl) T.n_len (by decide +kernel) (pa_cons (pv 2) (pa_nil))) (pe_int)) (pe_int)))
        (pss_one (ps_set (i := 9) sc_law.nd rfl (Or.inl rfl) (pe_lst (pa_cons (e_sl (pv 2) (po_none) (po_some (pv 10))) (pa_cons (e_sl (pv 2) (po_some (pv 10)) (po_none)) (pa_nil))))))) (pss_nil))
        (pss_cons (ps_if (PW.pt (pw_or (pt_not (t_tru (pe_callB (c_isi .list) (by rfl) T.n_isinstance (by decide +kernel) (pa_cons (pv 8) (pa_cons (pe_bltn rfl T.n_list (by decide +kernel) rfl) (pa_nil)))))) (pw_or (pt_cmpR (o_ne hr.units) (pv 8) (pv 9) (nomark _)) (pw_or1 (pt_cmpR (o_ne hr.units) (pv 7) (pv 2) (nomark _)))))) (pss_one (ps_ret (pe_bl))) (pss_nil))
        (pss_cons (ps_expr (pe_bm PySem.F.plainAttrs_list PySem.F.slot_list_append PySem.F.type_list_append mt_append (e_ix (pv 8) (pe_int)) (pa_cons (pe_tup (pa_cons (pe_tup (pa_cons (pe_int) (pa_cons (pe_int) (pa_cons (pe_int) (pa_nil))))) (pa_cons (pe_int) (pa_nil)))) (pa_nil))))
        (pss_cons (ps_set (i := 11) sc_law.nd rfl (Or.inl rfl) (pe_callB (c_len) (by rfl) T.n_len (by decide +kernel) (pa_cons (pe_lc (own := [("_law_item", 13)]) (by rfl) sc_law.nd (pi_list (pv 2)) (blkOk_by (N := ["_law_script", "_law_most", "_law_items", "_law_key", "_law_turn", "_law_cell_here", "_law_asked", "_law_given", "_law_parts", "_law_due", "_law_half", "_law_less", "_law_upto", "_law_item"]) (sc := defScope s_law) (by decide +kernel)) (fun _ _ _ _ _ => pg_name (i := 13) sc_law.nd rfl (Or.inl rfl)) (fun _ _ _ _ _ => pts_one (pt_cmpR (o_lt hl) (e_ix (pv 13) (pe_int)) (pv 6) (nomark _))) (fun _ _ _ _ _ => pv 13)) (pa_nil))))
        (pss_cons (ps_if (PW.pt (pw_or (pt_cmpR (o_ne hr.units) (pv 7) (pv 2) (nomark _)) (pw_or1 (pt_cmpR (o_ne hr.units) (e_call (ok_place_of T) (hr.mono (by decide)) T.g_place_of T.F_place_of.kp T.b_place_of tk (pa_cons (pv 7) (pa_cons (pv 6) (pa_nil)))) (pv 11) (nomark _))))) (pss_one (ps_ret (pe_bl))) (pss_nil))
        (pss_cons (ps_if (pt_cmpR (o_eq hr.units) (pv 2) (pe_lst (pa_nil)) (nomark _)) (pss_one (ps_ret (pe_bl))) (pss_nil))
        (pss_cons (ps_set (i := 12) sc_law.nd rfl (Or.inl rfl) (pe_callB (c_len) (by rfl) T.n_len (by decide +kernel) (pa_cons (pe_lc (own := [("_law_item", 13)]) (by rfl) sc_law.nd (pi_list (pv 2)) (blkOk_by (N := ["_law_script", "_law_most", "_law_items", "_law_key", "_law_turn", "_law_cell_here", "_law_asked", "_law_given", "_law_parts", "_law_due", "_law_half", "_law_less", "_law_upto", "_law_item"]) (sc := defScope s_law) (by decide +kernel)) (fun _ _ _ _ _ => pg_name (i := 13) sc_law.nd rfl (Or.inl rfl)) (fun _ _ _ _ _ => pts_one (pt_cmpR (o_le hl) (e_ix (pv 13) (pe_int)) (pv 6) (nomark _))) (fun _ _ _ _ _ => pv 13)) (pa_nil))))
        (pss_one (ps_ret (pe_and (pe_cmpR (o_eq hr.units) (e_call (ok_child_of T) (hr.mono (by decide)) T.g_child_of T.F_child_of.kp T.b_child_of tk (pa_cons (pv 7) (pa_cons (pv 6) (pa_nil)))) (pe_callB (c_max rfl) (by rfl) T.n_max (by decide +kernel) (pa_cons (pe_op o_sub (pv 12) (pe_int)) (pa_cons (pe_int) (pa_nil)))) (nomark _)) (pe_one (pe_cmpR (o_eq hr.units) (pv 7) (pv 2) (nomark _)))))))))))))))))))))
end
theorem all_mk {P : Program} {w : World} {K : PySem.W.Frag} {h : Heap} {mg : Str → Option Value} {fa : Addr} (X : K.In h) (G : h.Ns mainGlobals mg) (hfa : mg "law" = some (.ref fa))
    {f_split_items f_place_of f_child_of f__law_cell f_law : Addr}
    {od_split_items an_split_items : Option Addr} {sl_split_items : Array (Option Value)} {oc_split_items kV_split_items dc_split_items pm_split_items cd_split_items ct_split_items : Value}
    {od_place_of an_place_of : Option Addr} {sl_place_of : Array (Option Value)} {oc_place_of kV_place_of dc_place_of pm_place_of cd_place_of ct_place_of : Value}
    {od_child_of an_child_of : Option Addr} {sl_child_of : Array (Option Value)} {oc_child_of kV_child_of dc_child_of pm_child_of cd_child_of ct_child_of : Value}
    {od__law_cell an__law_cell : Option Addr} {sl__law_cell : Array (Option Value)} {oc__law_cell kV__law_cell dc__law_cell pm__law_cell cd__law_cell ct__law_cell : Value}
    {od_law an_law : Option Addr} {sl_law : Array (Option Value)} {oc_law kV_law dc_law pm_law cd_law ct_law : Value}
    (a_split_items : PySem.W.nsIn K mainGlobals "split_items" = some (some (.ref f_split_items)))
    (l_split_items : K.lookup f_split_items = some ⟨oc_split_items, od_split_items, .func (PySem.W.fnOf "split_items" "split_items" (defArgs s_split_items) (defBody s_split_items) (defScope s_split_items) .none kV_split_items dc_split_items pm_split_items an_split_items cd_split_items ct_split_items), sl_split_items⟩)
    (c_split_items : PySem.W.codeIn K cd_split_items "split_items" = true)
    (k_split_items : PySem.W.keepIn K (.ref f_split_items) = true)
    (a_place_of : PySem.W.nsIn K mainGlobals "place_of" = some (some (.ref f_place_of)))
    (l_place_of : K.lookup f_place_of = some ⟨oc_place_of, od_place_of, .func (PySem.W.fnOf "place_of" "place_of" (defArgs s_place_of) (defBody s_place_of) (defScope s_place_of) .none kV_place_of dc_place_of pm_place_of an_place_of cd_place_of ct_place_of), sl_place_of⟩)
    (c_place_of : PySem.W.codeIn K cd_place_of "place_of" = true)
    (k_place_of : PySem.W.keepIn K (.ref f_place_of) = true)
    (a_child_of : PySem.W.nsIn K mainGlobals "child_of" = some (some (.ref f_child_of)))
    (l_child_of : K.lookup f_child_of = some ⟨oc_child_of, od_child_of, .func (PySem.W.fnOf "child_of" "child_of" (defArgs s_child_of) (defBody s_child_of) (defScope s_child_of) .none kV_child_of dc_child_of pm_child_of an_child_of cd_child_of ct_child_of), sl_child_of⟩)
    (c_child_of : PySem.W.codeIn K cd_child_of "child_of" = true)
    (k_child_of : PySem.W.keepIn K (.ref f_child_of) = true)
    (a__law_cell : PySem.W.nsIn K mainGlobals "_law_cell" = some (some (.ref f__law_cell)))
    (l__law_cell : K.lookup f__law_cell = some ⟨oc__law_cell, od__law_cell, .func (PySem.W.fnOf "_law_cell" "_law_cell" (defArgs s__law_cell) (defBody s__law_cell) (defScope s__law_cell) .none kV__law_cell dc__law_cell pm__law_cell an__law_cell cd__law_cell ct__law_cell), sl__law_cell⟩)
    (c__law_cell : PySem.W.codeIn K cd__law_cell "_law_cell" = true)
    (k__law_cell : PySem.W.keepIn K (.ref f__law_cell) = true)
    (a_law : PySem.W.nsIn K mainGlobals "law" = some (some (.ref f_law)))
    (l_law : K.lookup f_law = some ⟨oc_law, od_law, .func (PySem.W.fnOf "law" "law" (defArgs s_law) (defBody s_law) (defScope s_law) .none kV_law dc_law pm_law an_law cd_law ct_law), sl_law⟩)
    (c_law : PySem.W.codeIn K cd_law "law" = true)
    (k_law : PySem.W.keepIn K (.ref f_law) = true)
    (n_isinstance : PySem.W.nsIn K mainGlobals "isinstance" = some none)
    (n_len : PySem.W.nsIn K mainGlobals "len" = some none)
    (n_list : PySem.W.nsIn K mainGlobals "list" = some none)
    (n_max : PySem.W.nsIn K mainGlobals "max" = some none)
    (n_range : PySem.W.nsIn K mainGlobals "range" = some none) :
    ∃ fd : FuncData, (∀ (s : Shared) (v : Value), BindsTo s fd ⟨[v], []⟩ [("_law_script", v)]) ∧ ∀ base : Heap, K.In base → base.Ns mainGlobals mg → FnOk P w K mg base (L2.CX P w) 2 fa fd ["_law_script"] (spLaw K) := by
  have e := hfa.symm.trans (PySem.W.mg_of X G a_law)
  cases e
  have F_split_items := fun_mk (st := s_split_items) l_split_items c_split_items k_split_items
  have F_place_of := fun_mk (st := s_place_of) l_place_of c_place_of k_place_of
  have F_child_of := fun_mk (st := s_child_of) l_child_of c_child_of k_child_of
  have F__law_cell := fun_mk (st := s__law_cell) l__law_cell c__law_cell k__law_cell
  have F_law := fun_mk (st := s_law) l_law c_law k_law
  let A : Adr := {
    ex := { },
    f_split_items := f_split_items, d_split_items := PySem.W.fnOf "split_items" "split_items" (defArgs s_split_items) (defBody s_split_items) (defScope s_split_items) .none kV_split_items dc_split_items pm_split_items an_split_items cd_split_items ct_split_items,
    f_place_of := f_place_of, d_place_of := PySem.W.fnOf "place_of" "place_of" (defArgs s_place_of) (defBody s_place_of) (defScope s_place_of) .none kV_place_of dc_place_of pm_place_of an_place_of cd_place_of ct_place_of,
    f_child_of := f_child_of, d_child_of := PySem.W.fnOf "child_of" "child_of" (defArgs s_child_of) (defBody s_child_of) (defScope s_child_of) .none kV_child_of dc_child_of pm_child_of an_child_of cd_child_of ct_child_of,
    f__law_cell := f__law_cell, d__law_cell := PySem.W.fnOf "_law_cell" "_law_cell" (defArgs s__law_cell) (defBody s__law_cell) (defScope s__law_cell) .none kV__law_cell dc__law_cell pm__law_cell an__law_cell cd__law_cell ct__law_cell,
    f_law := fa, d_law := PySem.W.fnOf "law" "law" (defArgs s_law) (defBody s_law) (defScope s_law) .none kV_law dc_law pm_law an_law cd_law ct_law }
  have T : Top K mg A := {
    F_split_items := F_split_items,
    b_split_items := F_split_items.binds (ps := ["items", "most"]) fun _ _ _ _ _ _ us hl => match us, hl with | [_, _], _ => rfl,
    g_split_items := PySem.W.mg_of X G a_split_items,
    F_place_of := F_place_of,
    b_place_of := F_place_of.binds (ps := ["items", "key"]) fun _ _ _ _ _ _ us hl => match us, hl with | [_, _], _ => rfl,
    g_place_of := PySem.W.mg_of X G a_place_of,
    F_child_of := F_child_of,
    b_child_of := F_child_of.binds (ps := ["items", "key"]) fun _ _ _ _ _ _ us hl => match us, hl with | [_, _], _ => rfl,
    g_child_of := PySem.W.mg_of X G a_child_of,
    F__law_cell := F__law_cell,
    b__law_cell := F__law_cell.binds (ps := ["_law_script", "_law_k"]) fun _ _ _ _ _ _ us hl => match us, hl with | [_, _], _ => rfl,
    g__law_cell := PySem.W.mg_of X G a__law_cell,
    F_law := F_law,
    b_law := F_law.binds (ps := ["_law_script"]) fun _ _ _ _ _ _ us hl => match us, hl with | [_], _ => rfl,
    g_law := PySem.W.mg_of X G a_law,
    n_isinstance := PySem.W.mg_none_of X G n_isinstance,
    n_len := PySem.W.mg_none_of X G n_len,
    n_list := PySem.W.mg_none_of X G n_list,
    n_max := PySem.W.mg_none_of X G n_max,
    n_range := PySem.W.mg_none_of X G n_range }
  exact ⟨_, fun s v => .of_eq rfl, fun base _ _ => ok_law (A := A) T⟩
theorem walk {l : PySem.W.OpenLaw} {q : Program} {loose : List Str} {XP : (Str → Option Value) → Heap → Prop} {YP : World → Heap → Prop} {d : DefRec} {K : Params → PySem.W.Frag} (hn : l.most = some 63) (hdf : d.params.defaults = [])
    (hY : ∀ (w : World) (h : Heap), YP w h → (K w.params).In h)
    (F : ∀ (w : World) (mg : Str → Option Value) (fa : Addr) (h : Heap), (K w.params).In h → h.Ns mainGlobals mg → mg d.name = some (.ref fa) →
      ∃ fd : FuncData, (∀ (s : Shared) (u : Value), BindsTo s fd ⟨[u], []⟩ [("_law_script", u)]) ∧ ∀ base : Heap, (K w.params).In base → base.Ns mainGlobals mg → FnOk l.prog w (K w.params) mg base (L2.CX l.prog w) 2 fa fd ["_law_script"] (spLaw (K w.params))) :
    PySem.W.WalkO q loose XP YP l.row.toRowW d [] (fun f vs => PySem.call f vs) :=
  L2.walk_of (n := 63) (k := 2) (x := "_law_script") (CX := fun w => L2.CX l.prog w) (sp := fun w => spLaw (K w.params)) hn (by decide) hdf ⟨rfl, by decide, by decide⟩ hY F (fun _ _ a ns hl _ hS => ⟨_, rfl, a, ns, rfl, hS, hl, fun _ => rfl⟩) fun _ _ _ _ _ ⟨_, _, _, _, _, _, _, _, _, _, _, _, z⟩ => z
end Lam
open PySem PySem.W PyProof.Rows
set_option maxRecDepth 100000 in
set_option maxHeartbeats 0 in
theorem PySem.Challenge.cw_laminae_k12_places_and_parts_holds : PySem.Challenge.rw_laminae_k12_places_and_parts.Holds := by
  w_on; o_law; k_head; (case hw => w_witness2)
  k_fill
  refine Lam.walk (l := PySem.Challenge.rw_laminae_k12_places_and_parts) rfl rfl (fun w h Y => PySem.W.kIn_of Y) ?F
  case F =>
    intro w mg fa h KX G hmg
    refine' Lam.all_mk KX G hmg ?a_split_items ?l_split_items ?c_split_items ?k_split_items ?a_place_of ?l_place_of ?c_place_of ?k_place_of ?a_child_of ?l_child_of ?c_child_of ?k_child_of ?a__law_cell ?l__law_cell ?c__law_cell ?k__law_cell ?a_law ?l_law ?c_law ?k_law ?n_isinstance ?n_len ?n_list ?n_max ?n_range
    (case a_split_items => k_is); (case l_split_items => k_is); (case c_split_items => k_is); (case k_split_items => k_is); (case a_place_of => k_is); (case l_place_of => k_is)
    (case c_place_of => k_is); (case k_place_of => k_is); (case a_child_of => k_is); (case l_child_of => k_is); (case c_child_of => k_is); (case k_child_of => k_is)
    (case a__law_cell => k_is); (case l__law_cell => k_is); (case c__law_cell => k_is); (case k__law_cell => k_is); (case a_law => k_is); (case l_law => k_is)
    (case c_law => k_is); (case k_law => k_is); (case n_isinstance => k_is); (case n_len => k_is); (case n_list => k_is); (case n_max => k_is)
    (case n_range => k_is)
#print axioms PySem.Challenge.cw_laminae_k12_places_and_parts_holds
