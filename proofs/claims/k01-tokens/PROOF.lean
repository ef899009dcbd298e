import PyProof.Rows.All
import Wide.All
import OpenK.AllK
import Wide.FinOn
import HandS.ForMost
import HandS.TupAny
import HandS.Deep
import HandS.IsInst
import HandS.Evl
import HandS.Flow
import HandS.Conv
import HandS.Zip
import HandS.Codes
import PySem.Challenge.RW_pactloom_k01_tokens_that_were_written
set_option Elab.async false
set_option linter.all false
set_option maxRecDepth 100000
set_option maxHeartbeats 2000000
namespace PL
open PySem PySem.Spec PyProof.Rows L2

/-! ## rules by the values' kinds, so that a body's term follows from its letters alone -/
section
variable {X : Cx}
def uAdd (K : PySem.W.Frag) : R2 := fun x y H Q => match x with
  | .int i => ∃ j, y = .int j ∧ Q (.int (i + j)) H
  | .str a => ∃ b, y = .str b ∧ a.length + b.length ≤ sizeLine ∧ Q (.str (a ++ b)) H
  | .ref _ => rCat x y H Q ∨ rCatA K x y H Q
  | _ => False
theorem op_addU {K : PySem.W.Frag} (hK : X.K = K := by rfl) : OpR X (binaryOp .Add) (uAdd K) := by
  subst hK
  intro pins s σ H x y v u Q I rx ry h
  cases x with
  | int i => obtain ⟨j, rfl, q⟩ := h; exact op_add pins s σ H _ _ v u Q I rx ry ⟨i, j, rfl, rfl, q⟩
  | str a => obtain ⟨b, rfl, hl, q⟩ := h; exact op_add_str pins s σ H _ _ v u Q I rx ry ⟨a, b, rfl, rfl, hl, q⟩
  | ref a =>
    rcases h with h | h
    · exact op_cat pins s σ H _ _ v u Q I rx ry h
    · exact op_catA pins s σ H _ _ v u Q I rx ry h
  | _ => exact h.elim
def uMul : R2 := fun x y H Q => match x with
  | .int i => ∃ j, y = .int j ∧ CMul i j ∧ Q (.int (i * j)) H
  | .str a => ∃ n, y = .int n ∧ MulOk a n ∧ Q (.str (Txt.mul a n)) H
  | .ref _ => rRep x y H Q
  | _ => False
theorem op_mulU : OpR X (binaryOp .Mult) uMul := by
  intro pins s σ H x y v u Q I rx ry h
  cases x with
  | int i => obtain ⟨j, rfl, c, q⟩ := h; exact op_mul pins s σ H _ _ v u Q I rx ry ⟨i, j, rfl, rfl, c, q⟩
  | str a =>
    obtain ⟨n, rfl, c, q⟩ := h
    obtain ⟨t, rfl⟩ := rx
    obtain ⟨t', rfl⟩ := ry
    exact SB.mul c fun t'' k => ⟨.str _, H, I.tok _, ⟨_, rfl⟩, q⟩
  | ref a => exact op_rep pins s σ H _ _ v u Q I rx ry h
  | _ => exact h.elim
def uEq (K : PySem.W.Frag) : R2 := fun x y H Q => match scal x y with
  | true => Q (.bl (decide (x = y))) H
  | false => rEqD K x y H Q
theorem op_eqU {K : PySem.W.Frag} (hu : X.A.units + 64 < cLine) (hK : X.K = K := by rfl) : OpR X (compareOp .Eq) (uEq K) := by
  subst hK
  intro pins s σ H x y v u Q I rx ry h
  unfold uEq at h
  split at h
  · rename_i e; exact op_eq pins s σ H _ _ v u Q I rx ry ⟨e, h⟩
  · exact op_eqD hu pins s σ H _ _ v u Q I rx ry h
def uNe (K : PySem.W.Frag) : R2 := fun x y H Q => match scal x y with
  | true => Q (.bl (!decide (x = y))) H
  | false => rNeD K x y H Q
theorem op_neU {K : PySem.W.Frag} (hu : X.A.units + 64 < cLine) (hK : X.K = K := by rfl) : OpR X (compareOp .NotEq) (uNe K) := by
  subst hK
  intro pins s σ H x y v u Q I rx ry h
  unfold uNe at h
  split at h
  · rename_i e; exact op_ne pins s σ H _ _ v u Q I rx ry ⟨e, h⟩
  · exact op_neD hu pins s σ H _ _ v u Q I rx ry h
/-- in: a sign in a text; a flat thing in a list or tuple; data in a list -/
def uIn (K : PySem.W.Frag) (neg : Bool) : R2 := fun x y H Q => match y with
  | .str z => ∃ c : Nat, x = .str ⟨#[c]⟩ ∧ Q (.bl (if neg then !decide (c ∈ z.cps.toList) else decide (c ∈ z.cps.toList))) H
  | .ref _ => rIn K neg x y H Q ∨ (if neg then rNotInD K x y H Q else rInD K x y H Q)
  | _ => False
theorem op_inU {K : PySem.W.Frag} (hu : X.A.units + 65 < cLine) (hK : X.K = K := by rfl) : OpR X (compareOp .In) (uIn K false) := by
  subst hK
  intro pins s σ H x y v u Q I rx ry h
  cases y with
  | str z => obtain ⟨c, rfl, q⟩ := h; exact op_in_sign pins s σ H _ _ v u Q I rx ry ⟨c, z, rfl, rfl, q⟩
  | ref a =>
    rcases h with h | h
    · exact op_in_seq pins s σ H _ _ v u Q I rx ry h
    · exact op_inD hu pins s σ H _ _ v u Q I rx ry h
  | _ => exact h.elim
theorem op_notInU {K : PySem.W.Frag} (hu : X.A.units + 65 < cLine) (hK : X.K = K := by rfl) : OpR X (compareOp .NotIn) (uIn K true) := by
  subst hK
  intro pins s σ H x y v u Q I rx ry h
  cases y with
  | str z => obtain ⟨c, rfl, q⟩ := h; exact op_notIn_sign pins s σ H _ _ v u Q I rx ry ⟨c, z, rfl, rfl, q⟩
  | ref a =>
    rcases h with h | h
    · exact op_notIn_seq pins s σ H _ _ v u Q I rx ry h
    · exact op_notInD hu pins s σ H _ _ v u Q I rx ry h
  | _ => exact h.elim
/-- <, <=, >, >= of ints or texts -/
def uLt : R2 := fun x y H Q => match x with
  | .int i => ∃ j, y = .int j ∧ Q (.bl (decide (i < j))) H
  | .str a => ∃ b, y = .str b ∧ Q (.bl (decide (a.cps.toList < b.cps.toList))) H
  | _ => False
theorem op_ltU : OpR X (compareOp .Lt) uLt := by
  intro pins s σ H x y v u Q I rx ry h
  cases x with
  | int i => obtain ⟨j, rfl, q⟩ := h; exact op_lt pins s σ H _ _ v u Q I rx ry ⟨i, j, rfl, rfl, q⟩
  | str a => obtain ⟨b, rfl, q⟩ := h; exact op_lt_str pins s σ H _ _ v u Q I rx ry ⟨a, b, rfl, rfl, q⟩
  | _ => exact h.elim
def uLe : R2 := fun x y H Q => match x with
  | .int i => ∃ j, y = .int j ∧ Q (.bl (decide (i ≤ j))) H
  | .str a => ∃ b, y = .str b ∧ Q (.bl (!decide (b.cps.toList < a.cps.toList))) H
  | _ => False
theorem op_leU : OpR X (compareOp .LtE) uLe := by
  intro pins s σ H x y v u Q I rx ry h
  cases x with
  | int i => obtain ⟨j, rfl, q⟩ := h; exact op_le pins s σ H _ _ v u Q I rx ry ⟨i, j, rfl, rfl, q⟩
  | str a => obtain ⟨b, rfl, q⟩ := h; exact op_le_str pins s σ H _ _ v u Q I rx ry ⟨a, b, rfl, rfl, q⟩
  | _ => exact h.elim
def uGt : R2 := fun x y H Q => match x with
  | .int i => ∃ j, y = .int j ∧ Q (.bl (decide (j < i))) H
  | .str a => ∃ b, y = .str b ∧ Q (.bl (decide (b.cps.toList < a.cps.toList))) H
  | _ => False
theorem op_gtU : OpR X (compareOp .Gt) uGt := by
  intro pins s σ H x y v u Q I rx ry h
  cases x with
  | int i => obtain ⟨j, rfl, q⟩ := h; exact op_gt pins s σ H _ _ v u Q I rx ry ⟨i, j, rfl, rfl, q⟩
  | str a => obtain ⟨b, rfl, q⟩ := h; exact op_gt_str pins s σ H _ _ v u Q I rx ry ⟨a, b, rfl, rfl, q⟩
  | _ => exact h.elim
def uGe : R2 := fun x y H Q => match x with
  | .int i => ∃ j, y = .int j ∧ Q (.bl (decide (j ≤ i))) H
  | .str a => ∃ b, y = .str b ∧ Q (.bl (!decide (a.cps.toList < b.cps.toList))) H
  | _ => False
theorem op_geU : OpR X (compareOp .GtE) uGe := by
  intro pins s σ H x y v u Q I rx ry h
  cases x with
  | int i => obtain ⟨j, rfl, q⟩ := h; exact op_ge pins s σ H _ _ v u Q I rx ry ⟨i, j, rfl, rfl, q⟩
  | str a => obtain ⟨b, rfl, q⟩ := h; exact op_ge_str pins s σ H _ _ v u Q I rx ry ⟨a, b, rfl, rfl, q⟩
  | _ => exact h.elim
/-- o[i] -/
def uIx (K : PySem.W.Frag) : R2 := fun x y H Q => match x with
  | .str z => ∃ i c, y = .int i ∧ z.length ≤ sizeLine ∧ atI z.cps.toList i = some c ∧ Q (.str ⟨#[c]⟩) H
  | .ref p => ∃ xs i v, y = .int i ∧ (SqL K H p xs ∨ SqT K H p xs) ∧ atI xs i = some v ∧ Q v H
  | _ => False
theorem ix_u {K : PySem.W.Frag} (hK : X.K = K := by rfl) : IxR X (uIx K) := by
  subst hK
  intro va sl pins s σ H x y v u Q I rx ry h hp
  cases x with
  | str z => obtain ⟨i, c, rfl, hz, ha, q⟩ := h; exact ix_str va sl pins s σ H _ _ v u Q I rx ry ⟨z, i, c, rfl, rfl, hz, ha, q⟩ hp
  | ref p =>
    obtain ⟨xs, i, w, rfl, hs | hs, ha, q⟩ := h
    · exact ix_list va sl pins s σ H _ _ v u Q I rx ry ⟨p, xs, i, w, rfl, rfl, hs, ha, q⟩ hp
    · exact ix_tup va sl pins s σ H _ _ v u Q I rx ry ⟨p, xs, i, w, rfl, rfl, hs, ha, q⟩ hp
  | _ => exact h.elim
/-- o[lo:hi] -/
def uSl (K : PySem.W.Frag) : V → Option Int → Option Int → Hp → VK → Prop := fun x lo hi H Q => match x with
  | .str z => z.length ≤ sizeLine ∧ Q (.str (cutS z lo hi)) H
  | .ref _ => rSlL K x lo hi H Q ∨ rSlA K x lo hi H Q
  | _ => False
theorem sl_u {K : PySem.W.Frag} (hK : X.K = K := by rfl) : SlR X (uSl K) := by
  subst hK
  intro pins s σ H x v vl vu lo hi sl Q I rx hs pl pu h
  cases x with
  | str z => exact sl_str pins s σ H _ v vl vu lo hi sl Q I rx hs pl pu ⟨z, rfl, h⟩
  | ref p =>
    rcases h with h | h
    · exact sl_list pins s σ H _ v vl vu lo hi sl Q I rx hs pl pu h
    · exact sl_tupA pins s σ H _ v vl vu lo hi sl Q I rx hs pl pu h
  | _ => exact h.elim
/-- what a for walks: a list, a tuple, a text -/
def itOf (K : PySem.W.Frag) (x : V) (H : Hp) (J : It) : Prop := match x with
  | .ref a => ((∃ xs, SqL K H a xs) ∧ J = Itl K a) ∨ ((∃ xs, SqT K H a xs) ∧ J = Itt K a)
  | .str z => J = Its z
  | _ => False
def iAny (K : PySem.W.Frag) (tl : TE) : TI := fun σ H R => tl σ H fun x H1 => ∃ J, itOf K x H1 J ∧ R J H1
theorem pi_any {K : PySem.W.Frag} {tg l : Expr} {tl : TE} (hl : PE X l tl) (hK : X.K = K := by rfl) : PI X tg l (iAny K tl) := by
  subst hK
  refine ⟨fun pins s σ H R I h => ?_⟩
  refine thn (hl.run pins s σ H _ I h) fun v s1 ⟨x, H1, I1, r1, J, q1, q⟩ => ?_
  cases x with
  | ref a =>
    cases r1
    rcases q1 with ⟨⟨xs, hq⟩, rfl⟩ | ⟨⟨xs, hq⟩, rfl⟩
    · obtain ⟨its, rv, p, hz⟩ := I1.list hq
      refine wpAny_pyIter_list p.isList ?_
      refine ⟨s1.heap.objs.size, [s1.heap.objs.size], _, _, H1, rfl, I1.kept (t' := s1.toks) fun b o e => Heap.get?_push_of_some _ e, turn_list a _, ⟨_, Heap.get?_push_size _ rfl, rfl, rfl⟩, fun b hb => ?_, q⟩
      have e : b = s1.heap.objs.size := by simpa using hb
      subst e
      exact I1.fpOk (Nat.le_refl _) (I1.hok.fresh (Nat.le_refl _))
    · obtain ⟨its, rv, p, hz⟩ := I1.tuple hq
      refine wpAny_pyIter_tuple (show s1.heap.IsTuple a its.toArray from p) ?_
      refine ⟨s1.heap.objs.size, [s1.heap.objs.size], _, _, H1, rfl, I1.kept (t' := s1.toks) fun b o e => Heap.get?_push_of_some _ e, turn_tuple a _, ⟨_, Heap.get?_push_size _ rfl, rfl, rfl⟩, fun b hb => ?_, q⟩
      have e : b = s1.heap.objs.size := by simpa using hb
      subst e
      exact I1.fpOk (Nat.le_refl _) (I1.hok.fresh (Nat.le_refl _))
  | str x =>
    obtain ⟨t, rfl⟩ := r1
    cases (show J = Its x from q1)
    cases ha : x.cps.all (· < 128)
    · exact wpAny_pyIter_wide ha (pi_one (tk := s1.toks) I1 _ (turn_str _ x t "str_iterator" (.inr rfl)) ⟨_, Heap.get?_push_size _ rfl, rfl, rfl⟩ q)
    · exact wpAny_pyIter_ascii ha (pi_one (tk := s1.toks) I1 _ (turn_str _ x t "str_ascii_iterator" (.inl rfl)) ⟨_, Heap.get?_push_size _ rfl, rfl, rfl⟩ q)
  | _ => exact False.elim q1
/-! built-ins by name -/
def cLen (K : PySem.W.Frag) : List V → Hp → VK → Prop := fun xs H Q => ∃ x n, xs = [x] ∧ LenV K x H n ∧ Q (.int n) H
theorem c_len {K : PySem.W.Frag} (hK : X.K = K := by rfl) : CallR X (.builtin "len") (cLen K) := by subst hK; exact call_len
def cInt : List V → Hp → VK → Prop := fun xs H Q => match xs with
  | [.int i] => Q (.int i) H
  | [.bl k] => Q (.int (if k then 1 else 0)) H
  | [.str a] => ∃ n, PySem.intText? a = some n ∧ a.length ≤ 640 ∧ Q (.int n) H
  | _ => False
theorem c_int : CallR X (.type "int") cInt := by
  intro pins s σ H xs us Q I r h
  unfold cInt at h
  split at h
  · exact call_int1 pins s σ H _ us Q I r (.inl ⟨_, rfl, h⟩)
  · exact call_int1 pins s σ H _ us Q I r (.inr ⟨_, rfl, h⟩)
  · obtain ⟨n, h1, h2, q⟩ := h
    exact call_int_str pins s σ H _ us Q I r ⟨_, n, rfl, h1, h2, q⟩
  · exact h.elim
def cStr : List V → Hp → VK → Prop := fun xs H Q => ∃ i, xs = [.int i] ∧ i.natAbs.log2 < 1920 ∧ Q (.str (toString i)) H
theorem c_str : CallR X (.type "str") cStr := call_str_int
def cOrd : List V → Hp → VK → Prop := fun xs H Q => ∃ x, xs = [.str x] ∧ x.length = 1 ∧ Q (.int (x.cps.getD 0 0 : Nat)) H
theorem c_ord : CallR X (.builtin "ord") cOrd := call_ord
def cList (K : PySem.W.Frag) : List V → Hp → VK → Prop := fun xs H Q => ∃ p ys, xs = [.ref p] ∧ (SqL K H p ys ∨ SqT K H p ys) ∧ ∀ l, H l = none → Q (.ref l) (upd H l (.lst ys))
theorem c_list {K : PySem.W.Frag} (hK : X.K = K := by rfl) : CallR X (.type "list") (cList K) := by subst hK; exact call_list_of
def cTup (K : PySem.W.Frag) : List V → Hp → VK → Prop := fun xs H Q => ∃ p ys, xs = [.ref p] ∧ ((SqL K H p ys ∧ ∀ l, H l = none → Q (.ref l) (upd H l (.tup ys))) ∨ (SqT K H p ys ∧ Q (.ref p) H))
theorem c_tup {K : PySem.W.Frag} (hK : X.K = K := by rfl) : CallR X (.type "tuple") (cTup K) := by subst hK; exact call_tuple_of
theorem c_isi {K : PySem.W.Frag} (hK : X.K = K := by rfl) : CallR X (.builtin "isinstance") (rIsi K) := by subst hK; exact call_isi
def cMax2 : List V → Hp → VK → Prop := fun xs H Q => ∃ i j, xs = [.int i, .int j] ∧ Q (.int (if j > i then j else i)) H
theorem c_max2 (hc : X.calm = true) : CallR X (.builtin "max") cMax2 := call_max2 hc
def cMin2 : List V → Hp → VK → Prop := fun xs H Q => ∃ i j, xs = [.int i, .int j] ∧ Q (.int (if j < i then j else i)) H
theorem c_min2 (hc : X.calm = true) : CallR X (.builtin "min") cMin2 := call_min2 hc
theorem pg_k {K : PySem.W.Frag} {e : Expr} {t : TGs} {n : Nat} (h : PG X e (gTup X.K n t)) (hK : X.K = K := by rfl) : PG X e (gTup K n t) := by subst hK; exact h
def tTru (K : PySem.W.Frag) (ta : TE) : TT := fun σ H Q => ta σ H fun x H' => ∃ k, TruV K x H' k ∧ Q k H'
theorem pt_truthU {K : PySem.W.Frag} {a : Expr} {ta : TE} (ha : PE X a ta) (he : ∀ whole, isTrue a X.env whole = (do let v ← whole; standAt a.pos; holding [v] (truthy v))) (hK : X.K = K := by rfl) : PT X a (tTru K ta) := by subst hK; exact pt_truth ha he
def uBM (K : PySem.W.Frag) (T : String) (r : V → List V → Hp → VK → Prop) (to : TE) (t : TA) : TE := tBM K T r to t
def uBM0 (K : PySem.W.Frag) (T : String) (r : V → List V → Hp → VK → Prop) (to : TE) : TE := tBM0 K T r to
theorem uBM_mk {K : PySem.W.Frag} {e : Expr} {T : String} {r : V → List V → Hp → VK → Prop} {to : TE} {t : TA} (h : PE X e (tBM X.K T r to t)) (hK : X.K = K := by rfl) : PE X e (uBM K T r to t) := by subst hK; exact h
theorem uBM0_mk {K : PySem.W.Frag} {e : Expr} {T : String} {r : V → List V → Hp → VK → Prop} {to : TE} (h : PE X e (tBM0 X.K T r to)) (hK : X.K = K := by rfl) : PE X e (uBM0 K T r to) := by subst hK; exact h
def uJoin (K : PySem.W.Frag) : V → List V → Hp → VK → Prop := fun x xs H Q => ∃ a p, ∃ ys : List Str, x = .str a ∧ xs = [.ref p] ∧ (SqL K H p (ys.map V.str) ∨ SqT K H p (ys.map V.str)) ∧
      (ys.map (·.length)).sum + ys.length * a.length ≤ 16777216 ∧ Q (.str (Txt.join a ys)) H
theorem pe_joinU {K : PySem.W.Frag} {o e : Expr} {to te : TE} {apos pos : Pos} (ho : PE X o to) (he : PE X e te) (hs : starEach [e] X.env = [(false, eval e X.env)] := by rfl) (hbase : attributeBase o "join" X.env (eval o X.env) = eval o X.env := by rfl) (hline : (apos.endLine == pos.line) = true := by rfl) (hK : X.K = K := by rfl) :
    PE X (.Call (.Attribute o "join" apos) [e] [] pos) (tM1 (uJoin K) to te) := by subst hK; exact pe_join ho he hs hbase hline
def uSplit : V → List V → Hp → VK → Prop := fun x xs H Q => ∃ a b, x = .str a ∧ xs = [.str b] ∧ (b.length == 0) = false ∧ a.length + 2 ≤ sizeLine ∧ rNewStrs (Txt.split a b) H Q
theorem pe_splitU {o e : Expr} {to te : TE} {apos pos : Pos} (ho : PE X o to) (he : PE X e te) (hs : starEach [e] X.env = [(false, eval e X.env)] := by rfl) (hbase : attributeBase o "split" X.env (eval o X.env) = eval o X.env := by rfl) (hline : (apos.endLine == pos.line) = true := by rfl) :
    PE X (.Call (.Attribute o "split" apos) [e] [] pos) (tM1 uSplit to te) := pe_split ho he hs hbase hline
end
end PL

set_option Elab.async false
set_option linter.all false
set_option maxRecDepth 100000
set_option maxHeartbeats 2000000
namespace PL
open PySem PySem.Spec PyProof.Rows L2
open Evl (Ex)
open C8 (tCut pss_cut)

/-! ## defs of the text, constants, built-ins -/
structure Def (K : PySem.W.Frag) (mg : Str → Option Value) (x : Str) (st : Stmt) (ps : List Str) (f : Addr) (fd : FuncData) : Prop where
  F : Fun K x x st f fd
  m : mg x = some (.ref f)
  b : Binds K fd ps []
structure Blt (mg : Str → Option Value) : Prop where
  «len» : mg "len" = none
  «ord» : mg "ord" = none
  «str» : mg "str" = none
  «int» : mg "int" = none
  «list» : mg "list" = none
  «tuple» : mg "tuple" = none
  «range» : mg "range" = none
  «min» : mg "min" = none
  «max» : mg "max" = none
  «isinstance» : mg "isinstance" = none
  «sorted» : mg "sorted" = none
  «enumerate» : mg "enumerate" = none
  «set» : mg "set" = none
  «dict» : mg "dict" = none
  «sum» : mg "sum" = none
  «zip» : mg "zip" = none
  «bool» : mg "bool" = none
def Cst (mg : Str → Option Value) (x : Str) (v : V) : Prop := ∃ u, mg x = some u ∧ RelV v u
theorem slen (x y : Str) : (x ++ y).length = x.length + y.length := by rw [TL.len_tl, TL.tl_append, List.length_append, ← TL.len_tl, ← TL.len_tl]
theorem lit_len (s : String) : (Str.ofString s).length = s.toList.length := by rw [TL.len_tl, TL.tl_ofString, List.length_map]
theorem mk_len (l : List Nat) : (⟨l.toArray⟩ : Str).length = l.length := by rw [TL.len_tl]
theorem lit0 : (Str.ofString " ").length = 1 := rfl
theorem lit1 : (Str.ofString "\n").length = 1 := rfl
theorem lit2 : (Str.ofString ".").length = 1 := rfl
theorem lit3 : (Str.ofString "->").length = 2 := rfl
theorem lit4 : (Str.ofString "q").length = 1 := rfl
theorem lit5 : (Str.ofString "1").length = 1 := rfl
theorem lit6 : (Str.ofString " \n").length = 2 := rfl
theorem lit7 : (Str.ofString "  ").length = 2 := rfl
theorem lit8 : (Str.ofString "end").length = 3 := rfl
theorem lit9 : (Str.ofString "a").length = 1 := rfl
theorem lit10 : (Str.ofString "b").length = 1 := rfl
theorem lit11 : (Str.ofString "s").length = 1 := rfl
theorem lit12 : (Str.ofString "x").length = 1 := rfl
theorem lit13 : (Str.ofString "").length = 0 := rfl
theorem lit14 : (Str.ofString " -> ").length = 4 := rfl
theorem lit15 : (Str.ofString ": ").length = 2 := rfl
theorem lit16 : (Str.ofString "; ").length = 2 := rfl
theorem lit17 : (Str.ofString " | ").length = 3 := rfl
theorem lit18 : (Str.ofString "{").length = 1 := rfl
theorem lit19 : (Str.ofString "}").length = 1 := rfl
theorem lit20 : (Str.ofString "(").length = 1 := rfl
theorem lit21 : (Str.ofString ")").length = 1 := rfl
theorem lit22 : (Str.ofString ", ").length = 2 := rfl
theorem lit23 : (Str.ofString "state ").length = 6 := rfl
theorem lit24 : (Str.ofString "goto ").length = 5 := rfl
theorem lit25 : (Str.ofString " goto ").length = 6 := rfl
theorem lit26 : (Str.ofString " end").length = 4 := rfl
theorem pe_cst {X : Cx} {x : Str} {v : V} {pos : Pos} (hg : Gl X x) (h : Cst X.mg x v) (hd : (x == ("__debug__" : Str)) = false := by decide) : PE X (.Name x pos) (tC v) :=
  let ⟨_, hm, r⟩ := h; pe_glob hg hm r hd
theorem pe_ty {X : Cx} (T : String) {x : Str} {pos : Pos} (hg : Gl X x) (hm : X.mg x = none) (hv : bootBuiltins x = some (.type T)) (hn : x ≠ "__name__" := by decide) (hd : (x == ("__debug__" : Str)) = false := by decide) : PE X (.Name x pos) (tC (.ty T)) := pe_bltn hg hm hv rfl hn hd
theorem u64 {A : Around} {k : Nat} (r : Room k A) : A.units + 64 < cLine := by have := r.un; omega
theorem u65 {A : Around} {k : Nat} (r : Room k A) : A.units + 65 < cLine := by have := r.un; omega

/-! ## texts as lists of codes -/
abbrev mk (l : List Nat) : Str := ⟨l.toArray⟩
theorem mk_eq {z : Str} {l : List Nat} (h : TL.tl z = l) : z = mk l := by subst h; exact (TL.mk_tl z).symm
theorem mk_inj {a b : List Nat} : mk a = mk b ↔ a = b := ⟨fun e => by have := congrArg TL.tl e; exact this, fun e => by rw [e]⟩
theorem tl_cutS (z : Str) (lo hi : Option Int) : TL.tl (cutS z lo hi) = ((TL.tl z).drop (HT.sIx z.length 0 lo)).take (HT.sIx z.length z.length hi - HT.sIx z.length 0 lo) := rfl
theorem sIx_nat {n d i : Nat} (h : i ≤ n) : HT.sIx n d (some (i : Int)) = i := by
  show (if (i : Int) < 0 then ((i : Int) + (n : Int)).toNat else min (i : Int).toNat n) = i
  rw [if_neg (by omega)]; omega
theorem sIx_neg {n d i : Nat} (h : i ≤ n) (h0 : 0 < i) : HT.sIx n d (some (-(i : Int))) = n - i := by
  show (if (-(i : Int)) < 0 then (-(i : Int) + (n : Int)).toNat else min (-(i : Int)).toNat n) = n - i
  rw [if_pos (by omega)]; omega
theorem cutS_to {z : Str} {i : Nat} (h : i ≤ z.length) : cutS z none (some (i : Int)) = mk ((TL.tl z).take i) := by
  refine mk_eq ?_
  rw [tl_cutS, sIx_nat h]
  show ((TL.tl z).drop 0).take (i - 0) = _
  rw [List.drop_zero, Nat.sub_zero]
theorem cutS_from {z : Str} {i : Nat} (h : i ≤ z.length) : cutS z (some (i : Int)) none = mk ((TL.tl z).drop i) := by
  refine mk_eq ?_
  rw [tl_cutS, sIx_nat h]
  show ((TL.tl z).drop i).take (z.length - i) = _
  rw [List.take_of_length_le (by rw [List.length_drop, TL.len_tl]; exact Nat.le_refl _)]
theorem cutS_both {z : Str} {i j : Nat} (h : i ≤ z.length) (h2 : j ≤ z.length) : cutS z (some (i : Int)) (some (j : Int)) = mk (((TL.tl z).drop i).take (j - i)) := by
  refine mk_eq ?_
  rw [tl_cutS, sIx_nat h, sIx_nat h2]
theorem inV_strs (x : Str) : ∀ l : List Str, inV (.str x) (l.map V.str) = decide (x ∈ l)
  | [] => rfl
  | y :: l => by
    have ih := inV_strs x l
    show (eqV (.str y) (.str x) || inV (.str x) (l.map V.str)) = _
    rw [ih]
    show ((y == x) || _) = _
    by_cases h : x = y
    · subst h; simp
    · rw [beq_eq_false_iff_ne.mpr (Ne.symm h)]; simp [h]
theorem inV_ints (x : Int) : ∀ l : List Int, inV (.int x) (l.map V.int) = decide (x ∈ l)
  | [] => rfl
  | y :: l => by
    have ih := inV_ints x l
    show (eqV (.int y) (.int x) || inV (.int x) (l.map V.int)) = _
    rw [ih]
    show ((y == x) || _) = _
    by_cases h : x = y
    · subst h; simp
    · rw [beq_eq_false_iff_ne.mpr (Ne.symm h)]; simp [h]
theorem flat_strs (l : List Str) : (l.map V.str).all flatV = true := List.all_eq_true.mpr fun v hv => by obtain ⟨x, _, rfl⟩ := List.mem_map.mp hv; rfl
theorem flat_ints (l : List Int) : (l.map V.int).all flatV = true := List.all_eq_true.mpr fun v hv => by obtain ⟨x, _, rfl⟩ := List.mem_map.mp hv; rfl

/-! ## readings, one step each -/
section
variable {K : PySem.W.Frag} {σ : L2.St} {H : Hp} {D : Ends} {t u tb ts : TS} {te ta tc : TE} {tt tu tv : TT} {tA : TA} {Q : VK} {QB : Bool → Hp → Prop} {g : TG}
theorem r_seq (h : t { D with nx := u D } σ H) : tSeq t u D σ H := h
theorem r_nocut (h : t { D with nx := u D } σ H) : tCut t u D σ H := ⟨_, h, fun _ _ h => h⟩
theorem r_cut (Mid : L2.St → Hp → Prop) (h : t { D with nx := Mid } σ H) (k : ∀ σ' H', Mid σ' H' → u D σ' H') : tCut t u D σ H := ⟨Mid, h, k⟩
theorem r_asg (h : te σ H fun x H1 => g x σ H1 D.nx) : tAsg te g D σ H := h
theorem r_name {i : Nat} {v : V} {R : L2.St → Hp → Prop} (h : R (σ.set i (some v)) H) : gName i v σ H R := h
theorem r_drop (h : te σ H fun _ H1 => D.nx σ H1) : tDrop te D σ H := h
theorem r_ret (h : te σ H D.rt) : tRet te D σ H := h
theorem r_retN (h : D.rt .non H) : tRetN D σ H := h
theorem r_ifS (h : tt σ H fun b H1 => if b = true then t D σ H1 else u D σ H1) : tIfS tt t u D σ H := h
theorem r_next (h : D.nx σ H) : tNext D σ H := h
theorem r_brk (h : D.bk σ H) : tBreak D σ H := h
theorem r_cnt (h : D.ct σ H) : tCont D σ H := h
theorem r_aug {i : Nat} {ti : TIp} {x : V} (e : σ[i]? = some (some x)) (h : te σ H fun y H1 => ti x y H1 fun z H2 => D.nx (σ.set i (some z)) H2) : tAug i te ti D σ H := ⟨x, e, h⟩
theorem r_ipI {f : Int → Int → Int} {i j : Int} (h : Q (.int (f i j)) H) : ipI f (.int i) (.int j) H Q := ⟨i, j, rfl, rfl, h⟩
theorem r_var {i : Nat} {v : V} (e : σ[i]? = some (some v)) (q : Q v H) : tVar i σ H Q := ⟨v, e, q⟩
theorem r_C {v : V} (q : Q v H) : tC v σ H Q := q
theorem r_op {r : R2} (h : ta σ H fun x H1 => te σ H1 fun y H2 => r x y H2 Q) : tOp r ta te σ H Q := h
theorem r_un {r : V → Hp → VK → Prop} (h : ta σ H fun x H1 => r x H1 Q) : tUn r ta σ H Q := h
theorem r_rU {f : Int → V} {i : Int} (h : Q (f i) H) : rU f (.int i) H Q := ⟨i, rfl, h⟩
theorem r_I0 {f : Int → Int → V} {i j : Int} (h : Q (f i j) H) : rI0 f (.int i) (.int j) H Q := ⟨i, j, rfl, rfl, h⟩
theorem r_I {C : Int → Int → Prop} {f : Int → Int → V} {i j : Int} (c : C i j) (h : Q (f i j) H) : rI C f (.int i) (.int j) H Q := ⟨i, j, rfl, rfl, c, h⟩
theorem r_addI {i j : Int} (h : Q (.int (i + j)) H) : uAdd K (.int i) (.int j) H Q := ⟨j, rfl, h⟩
theorem r_addS {a b : Str} (l : a.length + b.length ≤ sizeLine) (h : Q (.str (a ++ b)) H) : uAdd K (.str a) (.str b) H Q := ⟨b, rfl, l, h⟩
theorem r_mulI {i j : Int} (c : CMul i j) (h : Q (.int (i * j)) H) : uMul (.int i) (.int j) H Q := ⟨j, rfl, c, h⟩
theorem r_eqI {i j : Int} (h : Q (.bl (decide (i = j))) H) : uEq K (.int i) (.int j) H Q := by
  show Q (.bl (decide (V.int i = V.int j))) H
  rw [dec_int, Bool.beq_eq_decide_eq]; exact h
theorem r_neI {i j : Int} (h : Q (.bl (!decide (i = j))) H) : uNe K (.int i) (.int j) H Q := by
  show Q (.bl (!decide (V.int i = V.int j))) H
  rw [dec_int, Bool.beq_eq_decide_eq]; exact h
theorem r_eqS {i j : Str} (h : Q (.bl (decide (i = j))) H) : uEq K (.str i) (.str j) H Q := by
  show Q (.bl (decide (V.str i = V.str j))) H
  have e : decide (V.str i = V.str j) = decide (i = j) := by simp
  rw [e]; exact h
theorem r_neS {i j : Str} (h : Q (.bl (!decide (i = j))) H) : uNe K (.str i) (.str j) H Q := by
  show Q (.bl (!decide (V.str i = V.str j))) H
  have e : decide (V.str i = V.str j) = decide (i = j) := by simp
  rw [e]; exact h
theorem r_eqB {i j : Bool} (h : Q (.bl (i == j)) H) : uEq K (.bl i) (.bl j) H Q := by
  show Q (.bl (decide (V.bl i = V.bl j))) H
  rw [dec_bl]; exact h
theorem r_neB {i j : Bool} (h : Q (.bl (!(i == j))) H) : uNe K (.bl i) (.bl j) H Q := by
  show Q (.bl (!decide (V.bl i = V.bl j))) H
  rw [dec_bl]; exact h
theorem r_eqD {x y : V} {d e : PyData} (hs : scal x y = false) (h1 : Dp K H x d) (h2 : Dp K H y e) (s1 : SeqAt.shaped d = true) (s2 : SeqAt.shaped e = true) (h : Q (.bl (PyData.eqv d e)) H) : uEq K x y H Q := by
  show (match scal x y with | true => Q (.bl (decide (x = y))) H | false => rEqD K x y H Q)
  rw [hs]; exact ⟨d, e, h1, h2, s1, s2, h⟩
theorem r_neD {x y : V} {d e : PyData} (hs : scal x y = false) (h1 : Dp K H x d) (h2 : Dp K H y e) (s1 : SeqAt.shaped d = true) (s2 : SeqAt.shaped e = true) (h : Q (.bl (!PyData.eqv d e)) H) : uNe K x y H Q := by
  show (match scal x y with | true => Q (.bl (!decide (x = y))) H | false => rNeD K x y H Q)
  rw [hs]; exact ⟨d, e, h1, h2, s1, s2, h⟩
theorem r_ltI {i j : Int} (h : Q (.bl (decide (i < j))) H) : uLt (.int i) (.int j) H Q := ⟨j, rfl, h⟩
theorem r_leI {i j : Int} (h : Q (.bl (decide (i ≤ j))) H) : uLe (.int i) (.int j) H Q := ⟨j, rfl, h⟩
theorem r_gtI {i j : Int} (h : Q (.bl (decide (j < i))) H) : uGt (.int i) (.int j) H Q := ⟨j, rfl, h⟩
theorem r_geI {i j : Int} (h : Q (.bl (decide (j ≤ i))) H) : uGe (.int i) (.int j) H Q := ⟨j, rfl, h⟩
theorem r_inC {c : Nat} {z : Str} (h : Q (.bl (decide (c ∈ z.cps.toList))) H) : uIn K false (.str ⟨#[c]⟩) (.str z) H Q := ⟨c, rfl, h⟩
theorem r_ninC {c : Nat} {z : Str} (h : Q (.bl (!decide (c ∈ z.cps.toList))) H) : uIn K true (.str ⟨#[c]⟩) (.str z) H Q := ⟨c, rfl, h⟩
theorem r_inL {x : V} {p : Addr} {xs : List V} (hs : SqL K H p xs ∨ SqT K H p xs) (f1 : flatV x = true) (f2 : xs.all flatV = true) (h : Q (.bl (inV x xs)) H) : uIn K false x (.ref p) H Q := .inl ⟨p, xs, rfl, hs, f1, f2, h⟩
theorem r_ninL {x : V} {p : Addr} {xs : List V} (hs : SqL K H p xs ∨ SqT K H p xs) (f1 : flatV x = true) (f2 : xs.all flatV = true) (h : Q (.bl (!inV x xs)) H) : uIn K true x (.ref p) H Q := .inl ⟨p, xs, rfl, hs, f1, f2, h⟩
theorem r_ixS {z : Str} {i : Int} {c : Nat} (hz : z.length ≤ sizeLine) (ha : atI z.cps.toList i = some c) (h : Q (.str ⟨#[c]⟩) H) : uIx K (.str z) (.int i) H Q := ⟨i, c, rfl, hz, ha, h⟩
theorem r_ixL {p : Addr} {xs : List V} {i : Int} {v : V} (hs : SqL K H p xs ∨ SqT K H p xs) (ha : atI xs i = some v) (h : Q v H) : uIx K (.ref p) (.int i) H Q := ⟨xs, i, v, rfl, hs, ha, h⟩
theorem r_slS {z : Str} {lo hi : Option Int} (hz : z.length ≤ sizeLine) (h : Q (.str (cutS z lo hi)) H) : uSl K (.str z) lo hi H Q := ⟨hz, h⟩
theorem r_sl {r : V → Option Int → Option Int → Hp → VK → Prop} {tl th : TO} (h : te σ H fun x H1 => tl σ H1 fun l H2 => th σ H2 fun u H3 => r x l u H3 Q) : tSl r te tl th σ H Q := h
theorem r_part {R : Option Int → Hp → Prop} (h : te σ H fun x H1 => ∃ i, x = .int i ∧ R (some i) H1) : tPart te σ H R := h
theorem r_nopart {R : Option Int → Hp → Prop} (h : R none H) : tNoPart σ H R := h
theorem r_exI {i : Int} {R : Int → Prop} (h : R i) : ∃ j, V.int i = .int j ∧ R j := ⟨i, rfl, h⟩
theorem r_exB {i : Bool} {R : Bool → Prop} (h : R i) : ∃ j, V.bl i = .bl j ∧ R j := ⟨i, rfl, h⟩
theorem r_test (h : te σ H fun x H' => ∃ k, x = .bl k ∧ QB k H') : tTest te σ H QB := h
theorem r_B (h : te σ H fun x H' => ∃ k, x = .bl k ∧ QB k H') : tB te σ H QB := h
theorem r_and (h : tt σ H fun c H1 => if c = true then tu σ H1 QB else QB false H1) : tAnd tt tu σ H QB := h
theorem r_or (h : tt σ H fun c H1 => if c = true then QB true H1 else tu σ H1 QB) : tOr tt tu σ H QB := h
theorem r_not (h : tt σ H fun c H1 => QB (!c) H1) : tNot tt σ H QB := h
theorem r_andV (h : ta σ H fun x H1 => ∃ c, x = .bl c ∧ if c = true then te σ H1 Q else Q (.bl false) H1) : tAndV ta te σ H Q := h
theorem r_orV (h : ta σ H fun x H1 => ∃ c, x = .bl c ∧ if c = true then Q (.bl true) H1 else te σ H1 Q) : tOrV ta te σ H Q := h
theorem r_notV (h : ta σ H fun x H1 => ∃ c, x = .bl c ∧ Q (.bl (!c)) H1) : tNotV ta σ H Q := h
theorem r_if (h : tt σ H fun c H1 => if c = true then ta σ H1 Q else te σ H1 Q) : tIf tt ta te σ H Q := h
theorem r_truB {b : Bool} {R : Bool → Prop} (h : R b) : ∃ k, TruV K (.bl b) H k ∧ R k := ⟨b, rfl, h⟩
theorem r_truI {i : Int} {R : Bool → Prop} (h : R (i != 0)) : ∃ k, TruV K (.int i) H k ∧ R k := ⟨_, rfl, h⟩
theorem r_truN {R : Bool → Prop} (h : R false) : ∃ k, TruV K .non H k ∧ R k := ⟨_, rfl, h⟩
theorem r_truL {a : Addr} {xs : List V} {R : Bool → Prop} (hs : SqL K H a xs ∨ SqT K H a xs) (h : R (!xs.isEmpty)) : ∃ k, TruV K (.ref a) H k ∧ R k :=
  ⟨_, hs.elim (fun z => .inl ⟨xs, z, rfl⟩) (fun z => .inr (.inl ⟨xs, z, rfl⟩)), h⟩
theorem r_nil {R : List V → Hp → Prop} (h : R [] H) : tNil σ H R := h
theorem r_cons {R : List V → Hp → Prop} (h : te σ H fun x H1 => tA σ H1 fun xs H2 => R (x :: xs) H2) : tCons te tA σ H R := h
theorem r_CB {r : List V → Hp → VK → Prop} (h : tA σ H fun vs H1 => r vs H1 Q) : tCB r tA σ H Q := h
theorem r_call {sp : Sp} {dvs : List V} {E : XK} (h : tA σ H fun vs H1 => sp (vs ++ dvs) H1 Q E) : tCall sp dvs E tA σ H Q := h
theorem r_lenL {p : Addr} {xs : List V} (hs : SqL K H p xs ∨ SqT K H p xs) (h : Q (.int xs.length) H) : cLen K [.ref p] H Q :=
  ⟨_, _, rfl, hs.elim (fun z => .inl ⟨xs, z, rfl⟩) (fun z => .inr ⟨xs, z, rfl⟩), h⟩
theorem r_lenS {z : Str} (hz : z.length ≤ sizeLine) (h : Q (.int z.length) H) : cLen K [.str z] H Q := ⟨_, _, rfl, ⟨hz, rfl⟩, h⟩
theorem r_intI {i : Int} (h : Q (.int i) H) : cInt [.int i] H Q := h
theorem r_str {i : Int} (c : i.natAbs.log2 < 1920) (h : Q (.str (toString i)) H) : cStr [.int i] H Q := ⟨i, rfl, c, h⟩
theorem r_min2 {i j : Int} (h : Q (.int (if j < i then j else i)) H) : cMin2 [.int i, .int j] H Q := ⟨i, j, rfl, h⟩
theorem r_max2 {i j : Int} (h : Q (.int (if j > i then j else i)) H) : cMax2 [.int i, .int j] H Q := ⟨i, j, rfl, h⟩
theorem r_ord {c : Nat} (h : Q (.int c) H) : cOrd [.str ⟨#[c]⟩] H Q := ⟨_, rfl, rfl, h⟩
theorem r_tup {R : VK} (h : tA σ H fun xs H1 => xs.length ≤ sizeLine ∧ ∀ p, H1 p = none → R (.ref p) (upd H1 p (.tup xs))) : tTup tA σ H R := h
theorem r_lst {R : VK} (h : tA σ H fun xs H1 => xs.length ≤ sizeLine ∧ ∀ p, H1 p = none → R (.ref p) (upd H1 p (.lst xs))) : tLst tA σ H R := h
theorem r_append {l : Addr} {xs : List V} {y : V} (hl : H l = some (.lst xs)) (hz : xs.length < sizeLine) (h : Q .non (upd H l (.lst (xs ++ [y])))) : rAppend (.ref l) [y] H Q := ⟨l, xs, y, rfl, rfl, hl, hz, h⟩
theorem r_BM {T : String} {r : V → List V → Hp → VK → Prop} (h : te σ H fun x H1 => tyV K T x H1 ∧ tA σ H1 fun xs H2 => r x xs H2 Q) : uBM K T r te tA σ H Q := h
theorem r_BM0 {T : String} {r : V → List V → Hp → VK → Prop} (h : te σ H fun x H1 => tyV K T x H1 ∧ r x [] H1 Q) : uBM0 K T r te σ H Q := h
theorem r_tyL {a : Addr} {xs : List V} {R : Prop} (hs : SqL K H a xs) (h : R) : tyV K "list" (.ref a) H ∧ R := ⟨.inl ⟨rfl, xs, hs⟩, h⟩
theorem r_M0 {r : V → List V → Hp → VK → Prop} {a : Str} (h : te σ H fun x H1 => (∃ a, x = .str a) ∧ r x [] H1 Q) : tM0 r te σ H Q := h
theorem r_M1 {r : V → List V → Hp → VK → Prop} (h : te σ H fun x H1 => (∃ a, x = .str a) ∧ ta σ H1 fun y H2 => r x [y] H2 Q) : tM1 r te ta σ H Q := h
theorem r_tyS {a : Str} {R : Prop} (h : R) : (∃ b, V.str a = .str b) ∧ R := ⟨⟨a, rfl⟩, h⟩
theorem r_gTup {n : Nat} {gs : TGs} {a : Addr} {xs : List V} {R : L2.St → Hp → Prop} (hs : SqT K H a xs) (hl : xs.length = n) (h : gs xs σ H R) : gTup K n gs (.ref a) σ H R := ⟨a, xs, rfl, hs, hl, h⟩
theorem r_gCons {v : V} {r : List V} {gs : TGs} {R : L2.St → Hp → Prop} (h : g v σ H fun σ' H' => gs r σ' H' R) : gCons g gs (v :: r) σ H R := ⟨v, r, rfl, h⟩
theorem r_gNil {R : L2.St → Hp → Prop} (h : R σ H) : gNil [] σ H R := ⟨rfl, h⟩
theorem r_gSub {v : V} {st : TSet} {R : L2.St → Hp → Prop} (h : te σ H fun o H1 => ta σ H1 fun i H2 => st o i v H2 fun H3 => R σ H3) : gSub te ta st v σ H R := h
theorem r_setL {p : Addr} {xs : List V} {k : Int} {j : Nat} {v : V} {R : Hp → Prop} (hp : H p = some (.lst xs)) (hj : ixN xs.length k = some j) (h : R (upd H p (.lst (xs.set j v)))) : rSetL (.ref p) (.int k) v H R := ⟨p, xs, k, j, rfl, rfl, hp, hj, h⟩
theorem r_isN {x : V} (h : Q (.bl (decide (x = .non))) H) : (fun (x y : V) (H : Hp) (Q : VK) => y = V.non ∧ Q (.bl (decide (x = .non))) H) x .non H Q := ⟨rfl, h⟩
theorem r_while (W : Nat → L2.St → Hp → Prop) (m0 : Nat) (h0 : W m0 σ H)
    (hs : ∀ m σ H, W m σ H → tt σ H fun b H1 => if b = true then ∃ N : L2.St → Hp → Prop, (∀ σ' H', N σ' H' → ∃ m', m' < m ∧ W m' σ' H') ∧ tb { D with nx := N, ct := N, bk := D.nx } σ H1 else D.nx σ H1) : tWhile tt tb D σ H :=
  ⟨W, ⟨m0, h0⟩, hs⟩
theorem r_turn {W : Nat → L2.St → Hp → Prop} {m : Nat} (h : tb { D with nx := fun σ' H' => ∃ m', m' < m ∧ W m' σ' H', ct := fun σ' H' => ∃ m', m' < m ∧ W m' σ' H', bk := D.nx } σ H) :
    ∃ N : L2.St → Hp → Prop, (∀ σ' H', N σ' H' → ∃ m', m' < m ∧ W m' σ' H') ∧ tb { D with nx := N, ct := N, bk := D.nx } σ H := ⟨_, fun _ _ h => h, h⟩
theorem r_for {wi : TI} (h : wi σ H fun J H1 => ∃ W : Nat → Nat → L2.St → Hp → Prop, (∃ m, W 0 m σ H1) ∧ ∀ i m σ H, W i m σ H →
  (J.stop i H ∧ D.nx σ H) ∨ (J.go i H ∧ ∃ N : L2.St → Hp → Prop, (∀ σ' H', N σ' H' → ∃ m', m' < m ∧ W (i + 1) m' σ' H') ∧ ∀ x H', J.yld i H x H' → g x σ H' fun σ2 H2 => tb { D with nx := N, ct := N, bk := D.nx } σ2 H2)) : tFor wi g tb D σ H := h
theorem r_iAny {R : It → Hp → Prop} (h : te σ H fun x H1 => ∃ J, itOf K x H1 J ∧ R J H1) : iAny K te σ H R := h
theorem r_itL {a : Addr} {xs : List V} {R : It → Prop} (hs : SqL K H a xs) (h : R (Itl K a)) : ∃ J, itOf K (.ref a) H J ∧ R J := ⟨_, .inl ⟨⟨xs, hs⟩, rfl⟩, h⟩
theorem r_itT {a : Addr} {xs : List V} {R : It → Prop} (hs : SqT K H a xs) (h : R (Itt K a)) : ∃ J, itOf K (.ref a) H J ∧ R J := ⟨_, .inr ⟨⟨xs, hs⟩, rfl⟩, h⟩
theorem r_itS {z : Str} {R : It → Prop} (h : R (Its z)) : ∃ J, itOf K (.str z) H J ∧ R J := ⟨_, rfl, h⟩
theorem r_tru (h : te σ H fun x H' => ∃ k, TruV K x H' k ∧ QB k H') : tTru K te σ H QB := h
theorem r_rng1 {R : It → Hp → Prop} (h : tA σ H fun vs H1 => ∃ j : Int, vs = [.int j] ∧ -(2 ^ 62) ≤ j ∧ j < 2 ^ 62 ∧ R (Itr 0 j.toNat) H1) : iRng1 tA σ H R := h
theorem r_rng2 {R : It → Hp → Prop} (h : tA σ H fun vs H1 => ∃ i j : Int, vs = [.int i, .int j] ∧ (-(2 ^ 62) ≤ i ∧ i < 2 ^ 62 ∧ -(2 ^ 62) ≤ j ∧ j < 2 ^ 62) ∧ R (Itr i (j - i).toNat) H1) : iRng2 tA σ H R := h
/-! data -/
mutual
theorem dp_mono {H' : Hp} (e : Ex H H') : ∀ {v : V} {d : PyData}, Dp K H v d → Dp K H' v d
  | _, _, .non => .non
  | _, _, .bl b => .bl b
  | _, _, .int i => .int i
  | _, _, .str x => .str x
  | _, _, .lst h a => .lst (Evl.ex_l e h) (dps_mono e a)
  | _, _, .tup h a => .tup (Evl.ex_t e h) (dps_mono e a)
theorem dps_mono {H' : Hp} (e : Ex H H') : ∀ {vs : List V} {ds : List PyData}, DpAll K H vs ds → DpAll K H' vs ds
  | _, _, .nil => .nil
  | _, _, .cons h a => .cons (dp_mono e h) (dps_mono e a)
end
/-- all tuples stand -/
def TEx (K : PySem.W.Frag) (H H' : Hp) : Prop := ∀ b xs, SqT K H b xs → SqT K H' b xs
theorem TEx.refl (H : Hp) : TEx K H H := fun _ _ h => h
theorem TEx.trans {H H1 H2 : Hp} (a : TEx K H H1) (b : TEx K H1 H2) : TEx K H H2 := fun x o h => b x o (a x o h)
theorem TEx.of {H H' : Hp} (e : Ex H H') : TEx K H H' := fun _ _ h => Evl.ex_t e h
/-- all but a stands -/
def Fr (a : Addr) (H H' : Hp) : Prop := ∀ b o, b ≠ a → H b = some o → H' b = some o
theorem Fr.refl (a : Addr) (H : Hp) : Fr a H H := fun _ _ _ h => h
theorem Fr.trans {a : Addr} {H H1 H2 : Hp} (x : Fr a H H1) (y : Fr a H1 H2) : Fr a H H2 := fun b o hb h => y b o hb (x b o hb h)
theorem Fr.of {a : Addr} {H H' : Hp} (e : Ex H H') : Fr a H H' := fun b o _ h => e b o h
theorem Fr.upd {a : Addr} {H : Hp} {o : HO} : Fr a H (upd H a o) := fun b u hb h => (upd_ne hb).trans h
theorem TEx.fr {a : Addr} {xs : List V} {H H' : Hp} (h : H a = some (.lst xs)) (f : Fr a H H') : TEx K H H' := fun b ys ht => by
  rcases ht with (ht | ⟨o, ht⟩) | ht
  · exact .inl (.inl (f b _ (fun e => by subst e; rw [h] at ht; cases ht) ht))
  · exact .inl (.inr ⟨o, f b _ (fun e => by subst e; rw [h] at ht; cases ht) ht⟩)
  · exact .inr ht
theorem Fr.free {a p : Addr} {o : HO} {H H' : Hp} (f : Fr a H H') (ha : H' a = some o) (hp : H' p = none) : H p = none := by
  cases q : H p with
  | none => rfl
  | some u =>
    by_cases e : p = a
    · subst e; rw [ha] at hp; cases hp
    · rw [f p u e q] at hp; cases hp
theorem Ex.of_fr {a : Addr} {H H1 H2 : Hp} (e : Ex H H1) (f : Fr a H1 H2) (ha : H a = none) : Ex H H2 := fun b o h => f b o (fun z => by subst z; rw [ha] at h; cases h) (e b o h)
/-- data without lists: whatever list changes, it stays -/
def noList : PyData → Bool
  | .list _ => false
  | .tuple ds => noLists ds
  | _ => true
where noLists : List PyData → Bool
  | [] => true
  | d :: ds => noList d && noLists ds
mutual
theorem dp_keep {H' : Hp} (e : TEx K H H') : ∀ {v : V} {d : PyData}, noList d = true → Dp K H v d → Dp K H' v d
  | _, _, _, .non => .non
  | _, _, _, .bl b => .bl b
  | _, _, _, .int i => .int i
  | _, _, _, .str x => .str x
  | _, _, z, .lst _ _ => nomatch z
  | _, _, z, .tup ht q => .tup (e _ _ ht) (dps_keep e z q)
theorem dps_keep {H' : Hp} (e : TEx K H H') : ∀ {vs : List V} {ds : List PyData}, noList.noLists ds = true → DpAll K H vs ds → DpAll K H' vs ds
  | _, _, _, .nil => .nil
  | _, _, z, .cons p q => .cons (dp_keep e (Bool.and_eq_true_iff.mp z).1 p) (dps_keep e (Bool.and_eq_true_iff.mp z).2 q)
end
theorem dps_app : ∀ {vs ws : List V} {ds es : List PyData}, DpAll K H vs ds → DpAll K H ws es → DpAll K H (vs ++ ws) (ds ++ es)
  | _, _, _, _, .nil, h => h
  | _, _, _, _, .cons h a, g => .cons h (dps_app a g)
theorem dps_len : ∀ {vs : List V} {ds : List PyData}, DpAll K H vs ds → vs.length = ds.length
  | _, _, .nil => rfl
  | _, _, .cons _ a => congrArg (· + 1) (dps_len a)
theorem dps_get : ∀ {vs : List V} {ds : List PyData} {i : Nat} {d : PyData}, DpAll K H vs ds → ds[i]? = some d → ∃ v, vs[i]? = some v ∧ Dp K H v d
  | _, _, _, _, .nil, e => by simp at e
  | _, _, 0, _, .cons h _, e => by simp at e; subst e; exact ⟨_, rfl, h⟩
  | _, _, i + 1, _, .cons _ a, e => by
    obtain ⟨v, h1, h2⟩ := dps_get (i := i) a (by simpa using e)
    exact ⟨v, by simpa using h1, h2⟩
theorem dps_getV : ∀ {vs : List V} {ds : List PyData} {i : Nat} {v : V}, DpAll K H vs ds → vs[i]? = some v → ∃ d, ds[i]? = some d ∧ Dp K H v d
  | _, _, _, _, .nil, e => by simp at e
  | _, _, 0, _, .cons h _, e => by simp at e; subst e; exact ⟨_, rfl, h⟩
  | _, _, i + 1, _, .cons _ a, e => by
    obtain ⟨d, h1, h2⟩ := dps_getV (i := i) a (by simpa using e)
    exact ⟨d, by simpa using h1, h2⟩
theorem dps_strs : ∀ l : List Str, DpAll K H (l.map V.str) (l.map PyData.str)
  | [] => .nil
  | x :: l => .cons (.str x) (dps_strs l)
theorem dps_take : ∀ {vs : List V} {ds : List PyData} (n : Nat), DpAll K H vs ds → DpAll K H (vs.take n) (ds.take n)
  | _, _, 0, _ => .nil
  | _, _, _ + 1, .nil => .nil
  | _, _, n + 1, .cons h a => .cons h (dps_take n a)
theorem iteNF {A B : Prop} (h : A) : if (!false) = true then A else B := iteT h
theorem iteNT {A B : Prop} (h : B) : if (!true) = true then A else B := iteF h
theorem r_nn {R : Prop} (h : R) : V.non = V.non ∧ R := ⟨rfl, h⟩
theorem r_nonT {A B : Prop} (h : A) : if decide (V.non = V.non) = true then A else B := iteT h
theorem r_refF {a : Addr} {A B : Prop} (h : B) : if decide (V.ref a = V.non) = true then A else B := iteF h
theorem r_intF {a : Int} {A B : Prop} (h : B) : if decide (V.int a = V.non) = true then A else B := iteF h
theorem r_strF {a : Str} {A B : Prop} (h : B) : if decide (V.str a = V.non) = true then A else B := iteF h
theorem r_nonF {A B : Prop} (h : B) : if (!decide (V.non = V.non)) = true then A else B := iteF h
theorem r_refT {a : Addr} {A B : Prop} (h : A) : if (!decide (V.ref a = V.non)) = true then A else B := iteT h
theorem r_intT {a : Int} {A B : Prop} (h : A) : if (!decide (V.int a = V.non)) = true then A else B := iteT h
theorem r_strT {a : Str} {A B : Prop} (h : A) : if (!decide (V.str a = V.non)) = true then A else B := iteT h
/-! branches -/
theorem ite_d {p A B : Prop} [Decidable p] (h1 : p → A) (h2 : ¬ p → B) : if decide p = true then A else B := by
  by_cases h : p
  · rw [decide_eq_true h]; exact iteT (h1 h)
  · rw [decide_eq_false h]; exact iteF (h2 h)
theorem ite_nd {p A B : Prop} [Decidable p] (h1 : ¬ p → A) (h2 : p → B) : if (!decide p) = true then A else B := by
  by_cases h : p
  · rw [decide_eq_true h]; exact iteF (h2 h)
  · rw [decide_eq_false h]; exact iteT (h1 h)
theorem ite_T {p A B : Prop} [Decidable p] (h : p) (h1 : A) : if decide p = true then A else B := ite_d (fun _ => h1) fun z => absurd h z
theorem ite_F {p A B : Prop} [Decidable p] (h : ¬ p) (h1 : B) : if decide p = true then A else B := ite_d (fun z => absurd z h) fun _ => h1
theorem ite_nT {p A B : Prop} [Decidable p] (h : ¬ p) (h1 : A) : if (!decide p) = true then A else B := ite_nd (fun _ => h1) fun z => absurd z h
theorem ite_nF {p A B : Prop} [Decidable p] (h : p) (h1 : B) : if (!decide p) = true then A else B := ite_nd (fun z => absurd h z) fun _ => h1
theorem ite_b {b : Bool} {A B : Prop} (h1 : b = true → A) (h2 : b = false → B) : if b = true then A else B := by
  cases b
  · exact iteF (h2 rfl)
  · exact iteT (h1 rfl)
theorem for_text {z : Str} (Pv : Nat → L2.St → Hp → Prop) (h0 : Pv 0 σ H)
    (hs : ∀ i (c : Nat) σ H, z.cps.toList[i]? = some c → Pv i σ H → g (.str ⟨#[c]⟩) σ H fun σ2 H2 => tb { D with nx := Pv (i + 1), ct := Pv (i + 1), bk := D.nx } σ2 H2) (hd : ∀ σ H, Pv z.length σ H → D.nx σ H) :
    ∃ W : Nat → Nat → L2.St → Hp → Prop, (∃ m, W 0 m σ H) ∧ ∀ i m σ H, W i m σ H →
      ((Its z).stop i H ∧ D.nx σ H) ∨ ((Its z).go i H ∧ ∃ N : L2.St → Hp → Prop, (∀ σ' H', N σ' H' → ∃ m', m' < m ∧ W (i + 1) m' σ' H') ∧ ∀ x H', (Its z).yld i H x H' → g x σ H' fun σ2 H2 => tb { D with nx := N, ct := N, bk := D.nx } σ2 H2) := by
  refine ⟨fun i m σ H => m = z.length - i ∧ i ≤ z.length ∧ Pv i σ H, ⟨z.length, by simp, Nat.zero_le _, h0⟩, ?_⟩
  rintro i m σ H ⟨rfl, hi, p⟩
  by_cases hlt : i < z.length
  · refine .inr ⟨hlt, Pv (i + 1), fun σ' H' p' => ⟨z.length - (i + 1), by omega, rfl, hlt, p'⟩, fun x H' y => ?_⟩
    obtain ⟨e, c, hc, e2⟩ := y
    subst e e2
    exact hs i c σ _ (by rw [Array.getElem?_toList]; exact hc) p
  · have e : i = z.length := by omega
    subst e
    exact .inl ⟨Nat.le_refl _, hd σ H p⟩
theorem lc_text {z : Str} {tt : TT} {te : TE} {vs : List Nat} {H1 : Hp} {D : Addr} {Qd : Hp → Prop} (Pv : Nat → Hp → Prop) (h0 : Pv 0 (upd H1 D (.lst [])))
    (hs : ∀ i (c : Nat) H, z.cps.toList[i]? = some c → Pv i H → g (.str ⟨#[c]⟩) (wipe σ vs) H fun σ2 H2 => wipe σ2 vs = wipe σ vs ∧ tt σ2 H2 fun b H3 =>
      if b = true then te σ2 H3 fun y H4 => ∃ acc, H4 D = some (.lst acc) ∧ acc.length < sizeLine ∧ Pv (i + 1) (upd H4 D (.lst (acc ++ [y]))) else Pv (i + 1) H3) (hd : ∀ H, Pv z.length H → Qd H) :
    ∃ W : Nat → Nat → Hp → Prop, (∃ m, W 0 m (upd H1 D (.lst []))) ∧ ∀ i m H, W i m H →
      ((Its z).stop i H ∧ Qd H) ∨ ((Its z).go i H ∧ ∃ Nx : Hp → Prop, (∀ H', Nx H' → ∃ m', m' < m ∧ W (i + 1) m' H') ∧ ∀ x H', (Its z).yld i H x H' → g x (wipe σ vs) H' fun σ2 H2 => wipe σ2 vs = wipe σ vs ∧ tt σ2 H2 fun b H3 =>
        if b = true then te σ2 H3 fun y H4 => ∃ acc, H4 D = some (.lst acc) ∧ acc.length < sizeLine ∧ Nx (upd H4 D (.lst (acc ++ [y]))) else Nx H3) := by
  refine ⟨fun i m H => m = z.length - i ∧ i ≤ z.length ∧ Pv i H, ⟨z.length, by simp, Nat.zero_le _, h0⟩, ?_⟩
  rintro i m H ⟨rfl, hi, p⟩
  by_cases hlt : i < z.length
  · refine .inr ⟨hlt, Pv (i + 1), fun H' p' => ⟨z.length - (i + 1), by omega, rfl, hlt, p'⟩, fun x H' y => ?_⟩
    obtain ⟨e, c, hc, e2⟩ := y
    subst e e2
    exact hs i c _ (by rw [Array.getElem?_toList]; exact hc) p
  · have e : i = z.length := by omega
    subst e
    exact .inl ⟨Nat.le_refl _, hd H p⟩
theorem r_lc {wi : TI} {vs : List Nat} (h : wi σ H fun J H1 => ∀ D, H1 D = none → ∃ W : Nat → Nat → Hp → Prop, (∃ m, W 0 m (upd H1 D (.lst []))) ∧ ∀ i m H, W i m H →
    (J.stop i H ∧ Q (.ref D) H) ∨ (J.go i H ∧ ∃ Nx : Hp → Prop, (∀ H', Nx H' → ∃ m', m' < m ∧ W (i + 1) m' H') ∧ ∀ x H', J.yld i H x H' → g x (wipe σ vs) H' fun σ2 H2 => wipe σ2 vs = wipe σ vs ∧ tt σ2 H2 fun b H3 =>
      if b = true then te σ2 H3 fun y H4 => ∃ acc, H4 D = some (.lst acc) ∧ acc.length < sizeLine ∧ Nx (upd H4 D (.lst (acc ++ [y]))) else Nx H3)) : tLc wi g tt te vs σ H Q := h
theorem r_yes (h : QB true H) : tYes σ H QB := h
end
end PL

set_option Elab.async false
set_option linter.all false
set_option maxRecDepth 100000
set_option maxHeartbeats 4000000
namespace PL
open PySem PySem.Spec PyProof.Rows L2 TL
open Evl (Ex)
/-! ### texts cut at one sign -/
def cut (s : Nat) (l : List Nat) : List (List Nat) := spl [s] 0 [] l
theorem spl_acc (s : Nat) : ∀ (l acc : List Nat), spl [s] 0 acc l = (acc ++ (cut s l).headD []) :: (cut s l).tail
  | [], acc => by show [acc] = [acc ++ []]; rw [List.append_nil]
  | c :: r, acc => by
    unfold cut
    by_cases h : c = s
    · subst h
      have e : pre [c] (c :: r) = true := by show ([c] == [c]) = true; exact beq_self_eq_true _
      rw [spl_hit e, spl_hit e]
      show acc :: _ = (acc ++ []) :: _
      rw [List.append_nil]; rfl
    · have e : pre [s] (c :: r) = false := pre_of_head [] r h
      rw [spl_miss e, spl_miss e, spl_acc s r (acc ++ [c]), spl_acc s r ([] ++ [c])]
      show _ = (acc ++ ([c] ++ _)) :: _
      rw [List.append_assoc]; rfl
theorem cut_nil (s : Nat) : cut s [] = [[]] := rfl
theorem cut_hit (s : Nat) (r : List Nat) : cut s (s :: r) = [] :: cut s r := by
  unfold cut
  rw [spl_hit (by show ([s] == [s]) = true; exact beq_self_eq_true _)]; rfl
theorem cut_miss {s c : Nat} (r : List Nat) (h : c ≠ s) : cut s (c :: r) = (c :: (cut s r).headD []) :: (cut s r).tail := by
  unfold cut
  rw [spl_miss (pre_of_head [] r h), spl_acc]; rfl
theorem cut_free {s : Nat} {p : List Nat} (h : s ∉ p) : cut s p = [p] := by
  unfold cut; rw [spl_last1 h, List.nil_append]
theorem cut_app {s : Nat} {p : List Nat} (r : List Nat) (h : s ∉ p) : cut s (p ++ s :: r) = p :: cut s r := by
  have e := spl_part1 (S := []) (rest := r) (acc := []) h
  rw [List.nil_append] at e
  exact e
theorem cut_len (s : Nat) : ∀ l : List Nat, (cut s l).length = l.count s + 1
  | [] => by rw [cut_nil]; rfl
  | c :: r => by
    by_cases h : c = s
    · subst h; rw [cut_hit, List.length_cons, cut_len c r, List.count_cons_self]
    · rw [cut_miss r h, List.length_cons, List.length_tail, cut_len s r, List.count_cons_of_ne h]; omega
theorem cut_ne (s : Nat) (l : List Nat) : cut s l ≠ [] := fun e => by have := cut_len s l; rw [e] at this; simp at this
theorem cut_sub (s : Nat) : ∀ (l p : List Nat), p ∈ cut s l → s ∉ p ∧ p.length ≤ l.length ∧ ∀ c ∈ p, c ∈ l
  | [], p, h => by rw [cut_nil] at h; have := List.mem_singleton.mp h; subst this; simp
  | c :: r, p, h => by
    by_cases e : c = s
    · subst e
      rw [cut_hit] at h
      rcases List.mem_cons.mp h with rfl | h
      · simp
      · obtain ⟨h1, h2, h3⟩ := cut_sub c r p h
        exact ⟨h1, Nat.le_succ_of_le h2, fun x hx => List.mem_cons_of_mem _ (h3 x hx)⟩
    · rw [cut_miss r e] at h
      rcases List.mem_cons.mp h with rfl | h
      · have hm : (cut s r).headD [] ∈ cut s r := by
          cases q : cut s r with
          | nil => exact absurd q (cut_ne s r)
          | cons x xs => simp
        obtain ⟨h1, h2, h3⟩ := cut_sub s r _ hm
        refine ⟨fun hx => ?_, Nat.succ_le_succ h2, fun x hx => ?_⟩
        · rcases List.mem_cons.mp hx with rfl | hx
          · exact e rfl
          · exact h1 hx
        · rcases List.mem_cons.mp hx with rfl | hx
          · exact List.mem_cons_self
          · exact List.mem_cons_of_mem _ (h3 x hx)
      · obtain ⟨h1, h2, h3⟩ := cut_sub s r p (List.mem_of_mem_tail h)
        exact ⟨h1, Nat.le_succ_of_le h2, fun x hx => List.mem_cons_of_mem _ (h3 x hx)⟩

theorem split_cut (z : Str) (s : Nat) (hs : s < 256) : Txt.split z (mk [s]) = (cut s (tl z)).map mk := by
  have e := split_spl z (mk [s]) (by rw [tl_mk]; simp) (kind_ok (by simp [hs]))
  have e2 : ((cut s (tl z)).map mk).map tl = spl (tl (mk [s])) 0 [] (tl z) := by
    rw [List.map_map, tl_mk]
    have : (tl ∘ mk) = id := by funext l; rfl
    rw [this, List.map_id]; rfl
  exact map_tl_inj (e.trans e2.symm)
/-! ### places, parts -/
theorem at_in {α : Type} {l : List α} {i : Int} (h0 : 0 ≤ i) (h1 : i < l.length) : ∃ c, atI l i = some c ∧ c ∈ l := by
  obtain ⟨j, rfl⟩ := Int.eq_ofNat_of_zero_le h0
  have hj : j < l.length := by omega
  exact ⟨l[j], atI_nat (List.getElem?_eq_getElem hj), List.getElem_mem hj⟩
theorem at_map {α β : Type} {g : α → β} {l : List α} {i : Int} (h0 : 0 ≤ i) (h1 : i < l.length) : ∃ x, x ∈ l ∧ atI (l.map g) i = some (g x) := by
  obtain ⟨j, rfl⟩ := Int.eq_ofNat_of_zero_le h0
  have hj : j < l.length := by omega
  exact ⟨l[j], List.getElem_mem hj, atI_nat (by rw [List.getElem?_map, List.getElem?_eq_getElem hj]; rfl)⟩
theorem cutV_init (xs : List V) (h : 0 < xs.length) : cutV xs none (some (-1)) = xs.dropLast := by
  unfold cutV
  have e : HT.sIx xs.length xs.length (some (-1)) = xs.length - 1 := sIx_neg (i := 1) h (by decide)
  rw [e]
  show (xs.drop 0).take (xs.length - 1 - 0) = _
  rw [List.drop_zero, Nat.sub_zero, List.dropLast_eq_take]
theorem cutV_to (xs : List V) (i : Nat) (h : i ≤ xs.length) : cutV xs none (some (i : Int)) = xs.take i := by
  unfold cutV
  rw [sIx_nat h]
  show (xs.drop 0).take (i - 0) = _
  rw [List.drop_zero, Nat.sub_zero]
theorem cutV_from (xs : List V) (i : Nat) (h : i ≤ xs.length) : cutV xs (some (i : Int)) none = xs.drop i := by
  unfold cutV
  rw [sIx_nat h]
  show (xs.drop i).take (xs.length - i) = _
  rw [List.take_of_length_le (by rw [List.length_drop]; exact Nat.le_refl _)]
theorem cutV_both (xs : List V) (i j : Nat) (h : i ≤ xs.length) (h2 : j ≤ xs.length) : cutV xs (some (i : Int)) (some (j : Int)) = (xs.drop i).take (j - i) := by
  unfold cutV
  rw [sIx_nat h, sIx_nat h2]
theorem fmod_lt {x y : Int} (h : 0 < y) : 0 ≤ x.fmod y ∧ x.fmod y < y := by
  rw [Int.fmod_eq_emod_of_nonneg _ (by omega)]
  exact ⟨Int.emod_nonneg _ (by omega), Int.emod_lt_of_pos _ h⟩
theorem fdiv_le {x y : Int} (h : 0 < y) (hx : 0 ≤ x) : 0 ≤ x.fdiv y ∧ x.fdiv y ≤ x := by
  rw [Int.fdiv_eq_ediv_of_nonneg _ (by omega)]
  exact ⟨Int.ediv_nonneg hx (by omega), Int.ediv_le_self _ hx⟩
theorem cutS_any {z : Str} {i : Nat} (j : Nat) (h : i ≤ z.length) : cutS z (some (i : Int)) (some (j : Int)) = mk (((tl z).drop i).take (j - i)) := by
  refine mk_eq ?_
  rw [tl_cutS, sIx_nat h]
  have e : HT.sIx z.length z.length (some (j : Int)) = min j z.length := by
    show (if (j : Int) < 0 then ((j : Int) + (z.length : Int)).toNat else min (j : Int).toNat z.length) = _
    rw [if_neg (by omega)]; rfl
  rw [e]
  by_cases hj : j ≤ z.length
  · rw [Nat.min_eq_left hj]
  · rw [Nat.min_eq_right (by omega), List.take_of_length_le (by rw [List.length_drop, ← len_tl]; exact Nat.le_refl _), List.take_of_length_le (by rw [List.length_drop, ← len_tl]; omega)]
theorem nodup_sub {α : Type} [DecidableEq α] : ∀ {l m : List α}, l.Nodup → (∀ x ∈ l, x ∈ m) → l.length ≤ m.length
  | [], _, _, _ => Nat.zero_le _
  | x :: l, m, h, hs => by
    rw [List.nodup_cons] at h
    have hx := hs x List.mem_cons_self
    have := nodup_sub (l := l) (m := m.erase x) h.2 fun y hy => (List.mem_erase_of_ne (fun e => h.1 (by subst e; exact hy))).mpr (hs y (List.mem_cons_of_mem _ hy))
    rw [List.length_erase_of_mem hx] at this
    have hp : 0 < m.length := List.length_pos_of_mem hx
    rw [List.length_cons]; omega
/-! ### numbers as texts -/
theorem num_len {n : Nat} (h : n ≤ 999999999) : (Str.ofString (toString ((n : Nat) : Int))).length ≤ 9 := by
  rw [len_tl, tl_num]; exact numL_len (by decide) (by omega)
theorem log_small {n : Nat} (h : n ≤ 999999999) : ((n : Int)).natAbs.log2 < 1920 := by
  rw [Int.natAbs_natCast]
  by_cases h0 : n = 0
  · subst h0; decide
  · exact Nat.lt_of_lt_of_le ((Nat.log2_lt h0).mpr (Nat.lt_of_le_of_lt h (by decide : 999999999 < 2 ^ 30))) (by decide)
/-! ### data that is compared -/
theorem eqv_nil (ds : List PyData) : PyData.eqv (.list ds) (.list []) = ds.isEmpty := by cases ds <;> simp [PyData.eqv, PyData.eqvAll]
theorem nil_shaped : SeqAt.shaped (.list []) = true := by decide
theorem signs_shaped (l : List Nat) (hl : ∀ c ∈ l, c < 1114112) : SeqAt.shaped (.list (l.map fun c => PyData.str ⟨#[c]⟩)) = true := by
  have h1 : ∀ l : List Nat, (∀ c ∈ l, c < 1114112) → PyData.canLayAll0 (l.map fun c => PyData.str ⟨#[c]⟩) = true := by
    intro l; induction l with
    | nil => intro _; rfl
    | cons c r ih =>
      intro hl
      have := hl c List.mem_cons_self
      simp [PyData.canLayAll0, PyData.canLay0, PyData.strOk, ih fun x hx => hl x (List.mem_cons_of_mem _ hx), this]
  have h2 : ∀ l : List Nat, PyData.depthAll (l.map fun c => PyData.str ⟨#[c]⟩) ≤ 1 := by
    intro l; induction l with
    | nil => simp [PyData.depthAll]
    | cons c r ih => simp only [List.map_cons, PyData.depthAll, PyData.depth]; omega
  show ((PyData.list _).canLay0 && decide ((PyData.list _).depth ≤ 64)) = true
  rw [Bool.and_eq_true]
  refine ⟨by simp only [PyData.canLay0]; exact h1 l hl, decide_eq_true ?_⟩
  have := h2 l
  simp only [PyData.depth]; omega
theorem dps_signs {K : PySem.W.Frag} {H : Hp} : ∀ l : List Nat, DpAll K H (l.map fun c => V.str ⟨#[c]⟩) (l.map fun c => PyData.str ⟨#[c]⟩)
  | [] => .nil
  | c :: l => .cons (.str _) (dps_signs l)
theorem strOk_asc {l : List Nat} (h : ∀ c ∈ l, c < 1114112) : PyData.strOk (mk l) = true := by
  unfold PyData.strOk
  rw [Array.all_eq_true']
  intro c hc
  exact decide_eq_true (h c (by simpa using hc))
theorem joinL_nil : ∀ l : List (List Nat), joinL [] l = l.flatten
  | [] => rfl
  | [p] => by show p = _; simp
  | p :: q :: r => by show p ++ ([] ++ joinL [] (q :: r)) = _; rw [joinL_nil (q :: r)]; simp
theorem join_mk (s : Str) (l : List (List Nat)) : Txt.join s (l.map mk) = mk (joinL (tl s) l) := by
  refine ext_tl ?_
  rw [join_eq, tl_join, List.map_map]
  have e : (tl ∘ mk) = id := by funext x; rfl
  rw [e, List.map_id]
theorem emp_iff (l : List Nat) : (mk l = Str.ofString "") ↔ l = [] := ⟨fun e => by have := congrArg tl e; exact this, fun e => by subst e; rfl⟩
theorem dp_list_ref {K : PySem.W.Frag} {H : Hp} {v : V} {ds : List PyData} (h : Dp K H v (.list ds)) : ∃ a, v = .ref a := by cases h; exact ⟨_, rfl⟩
theorem dp_tup_ref {K : PySem.W.Frag} {H : Hp} {v : V} {ds : List PyData} (h : Dp K H v (.tuple ds)) : ∃ a, v = .ref a := by cases h; exact ⟨_, rfl⟩
/-! ### isinstance of data -/
def pyType : PyData → String
  | .none => "NoneType" | .bool _ => "bool" | .int _ => "int" | .str _ => "str" | .list _ => "list" | .tuple _ => "tuple" | .dict _ => "dict"
def isT (a b : String) : Bool := a == b || (a == "bool" && b == "int")
theorem kit_all : ∀ a ∈ ["NoneType", "bool", "int", "str", "list", "tuple"], ∀ b ∈ ["bool", "int", "str", "list", "tuple"], kitB a b = some (isT a b) := by decide +kernel
theorem ty_of {K : PySem.W.Frag} {H : Hp} {v : V} {d : PyData} (h : Dp K H v d) : TyX K H v (.type (pyType d)) := by
  cases h with
  | non => exact .base .non
  | bl b => exact .base (.bl b)
  | int i => exact .base (.int i)
  | str x => exact .base (.str x)
  | lst hs _ =>
    rcases hs with (hs | ⟨o, hs⟩) | ⟨o, its, n, h1, h2, _⟩
    · exact .base (.lst hs)
    · exact .base (.frz hs)
    · exact .kList h1 h2
  | tup hs _ =>
    rcases hs with (hs | ⟨o, hs⟩) | ⟨o, its, n, h1, h2, _⟩
    · exact .base (.tup hs)
    · exact .fTuple hs
    · exact .kTuple h1 h2
theorem pyType_six {K : PySem.W.Frag} {H : Hp} {v : V} {d : PyData} (h : Dp K H v d) : pyType d ∈ ["NoneType", "bool", "int", "str", "list", "tuple"] := by cases h <;> simp [pyType]
def is_bool : PyData → Bool
  | .bool _ => true
  | _ => false
theorem r_isi_bool {K : PySem.W.Frag} {H : Hp} {v : V} {d : PyData} {b : Bool} {Q : VK} (h : Dp K H v d) (hb : is_bool d = b) (q : Q (.bl b) H) : rIsi K [v, .ty "bool"] H Q := by
  subst hb
  refine ⟨v, .ty "bool", _, _, _, rfl, .ty "bool", ty_of h, kit_ty (kit_all _ (pyType_six h) _ (by decide)), ?_⟩
  have e : isT (pyType d) "bool" = is_bool d := by cases h <;> (simp only [pyType, is_bool]; decide)
  rw [e]; exact q
def is_int : PyData → Bool
  | .int _ => true
  | .bool _ => true
  | _ => false
theorem r_isi_int {K : PySem.W.Frag} {H : Hp} {v : V} {d : PyData} {b : Bool} {Q : VK} (h : Dp K H v d) (hb : is_int d = b) (q : Q (.bl b) H) : rIsi K [v, .ty "int"] H Q := by
  subst hb
  refine ⟨v, .ty "int", _, _, _, rfl, .ty "int", ty_of h, kit_ty (kit_all _ (pyType_six h) _ (by decide)), ?_⟩
  have e : isT (pyType d) "int" = is_int d := by cases h <;> (simp only [pyType, is_int]; decide)
  rw [e]; exact q
def is_str : PyData → Bool
  | .str _ => true
  | _ => false
theorem r_isi_str {K : PySem.W.Frag} {H : Hp} {v : V} {d : PyData} {b : Bool} {Q : VK} (h : Dp K H v d) (hb : is_str d = b) (q : Q (.bl b) H) : rIsi K [v, .ty "str"] H Q := by
  subst hb
  refine ⟨v, .ty "str", _, _, _, rfl, .ty "str", ty_of h, kit_ty (kit_all _ (pyType_six h) _ (by decide)), ?_⟩
  have e : isT (pyType d) "str" = is_str d := by cases h <;> (simp only [pyType, is_str]; decide)
  rw [e]; exact q
def is_list : PyData → Bool
  | .list _ => true
  | _ => false
theorem r_isi_list {K : PySem.W.Frag} {H : Hp} {v : V} {d : PyData} {b : Bool} {Q : VK} (h : Dp K H v d) (hb : is_list d = b) (q : Q (.bl b) H) : rIsi K [v, .ty "list"] H Q := by
  subst hb
  refine ⟨v, .ty "list", _, _, _, rfl, .ty "list", ty_of h, kit_ty (kit_all _ (pyType_six h) _ (by decide)), ?_⟩
  have e : isT (pyType d) "list" = is_list d := by cases h <;> (simp only [pyType, is_list]; decide)
  rw [e]; exact q
def is_tuple : PyData → Bool
  | .tuple _ => true
  | _ => false
theorem r_isi_tuple {K : PySem.W.Frag} {H : Hp} {v : V} {d : PyData} {b : Bool} {Q : VK} (h : Dp K H v d) (hb : is_tuple d = b) (q : Q (.bl b) H) : rIsi K [v, .ty "tuple"] H Q := by
  subst hb
  refine ⟨v, .ty "tuple", _, _, _, rfl, .ty "tuple", ty_of h, kit_ty (kit_all _ (pyType_six h) _ (by decide)), ?_⟩
  have e : isT (pyType d) "tuple" = is_tuple d := by cases h <;> (simp only [pyType, is_tuple]; decide)
  rw [e]; exact q
/-! ### names -/
abbrev sm (c : Nat) : Prop := 97 ≤ c ∧ c ≤ 122
abbrev al (c : Nat) : Prop := sm c ∨ (48 ≤ c ∧ c ≤ 57)
def wordsS : List Str := ["pact", "end", "choice", "both", "loop", "use"]
structure IsNm (l : List Nat) : Prop where
  pos : 1 ≤ l.length
  le : l.length ≤ 12
  hd : ∀ c, l.head? = some c → sm c
  all : ∀ c ∈ l, al c
  nw : mk l ∉ wordsS
theorem small_sm : ∀ c ∈ tl (Str.ofString "abcdefghijklmnopqrstuvwxyz"), sm c := by rw [tl_ofString]; decide +kernel
theorem l26 : (Str.ofString "abcdefghijklmnopqrstuvwxyz").length = 26 := by decide +kernel
theorem l36 : (Str.ofString "abcdefghijklmnopqrstuvwxyz0123456789").length = 36 := by decide +kernel
theorem l36_al : ∀ c ∈ tl (Str.ofString "abcdefghijklmnopqrstuvwxyz0123456789"), al c := by rw [tl_ofString]; decide +kernel
theorem mk_app (a b : List Nat) : mk a ++ mk b = mk (a ++ b) := ext_tl (by rw [tl_append])
end PL

set_option Elab.async false
set_option linter.all false
set_option maxRecDepth 100000
set_option maxHeartbeats 4000000
namespace PL
open PySem PySem.Spec PyProof.Rows L2 TL
open Evl (Ex)
/-! ### what stands in a text, token by token -/
structure Tok where
  kind : Str
  cs : List Nat
  at_ : Nat
def tokD (t : Tok) : PyData := .tuple [.str t.kind, .str (mk t.cs), .int (t.at_ : Nat)]
def alB (c : Nat) : Bool := decide (al c)
def isRun (l : List Nat) : Bool := !(l.isEmpty || decide (12 < l.length) || !decide (sm (l.headD 0))) && l.all alB
def kindOf (l : List Nat) : Str := if mk l ∈ wordsS then "word" else "name"
def runOf (l : List Nat) : List Nat := l.takeWhile alB
def marks1 : List Nat := [40, 41, 123, 125, 44, 59, 58, 124]
def scan : Nat → Nat → List Nat → Option (List Tok)
  | _, _, [] => some []
  | 0, _, _ :: _ => none
  | f + 1, p, c :: r =>
    if c = 32 ∨ c = 10 then scan f (p + 1) r
    else if al c then
      if isRun (runOf (c :: r)) = true then (scan f (p + (runOf (c :: r)).length) ((c :: r).drop (runOf (c :: r)).length)).map (⟨kindOf (runOf (c :: r)), runOf (c :: r), p⟩ :: ·) else none
    else if c = 45 ∧ r.headD 0 = 62 then (scan f (p + 2) r.tail).map (⟨"mark", [45, 62], p⟩ :: ·)
    else if c ∈ marks1 then (scan f (p + 1) r).map (⟨"mark", [c], p⟩ :: ·)
    else none
theorem scan_more : ∀ (f g p : Nat) (l : List Nat) (ts : List Tok), f ≤ g → scan f p l = some ts → scan g p l = some ts
  | _, _, _, [], _, _, h => by simpa [scan] using h
  | 0, _, _, _ :: _, _, _, h => by simp [scan] at h
  | f + 1, 0, _, _ :: _, _, hg, _ => by omega
  | f + 1, g + 1, p, c :: r, ts, hg, h => by
    have hfg : f ≤ g := by omega
    unfold scan at h ⊢
    split
    · rename_i h1; rw [if_pos h1] at h; exact scan_more f g _ _ _ hfg h
    · rename_i h1; rw [if_neg h1] at h
      split
      · rename_i h2; rw [if_pos h2] at h
        split
        · rename_i h3; rw [if_pos h3] at h
          obtain ⟨us, hu, e⟩ := Option.map_eq_some_iff.mp h
          rw [scan_more f g _ _ _ hfg hu]; simpa using e
        · rename_i h3; rw [if_neg h3] at h; cases h
      · rename_i h2; rw [if_neg h2] at h
        split
        · rename_i h3; rw [if_pos h3] at h
          obtain ⟨us, hu, e⟩ := Option.map_eq_some_iff.mp h
          rw [scan_more f g _ _ _ hfg hu]; simpa using e
        · rename_i h3; rw [if_neg h3] at h
          split
          · rename_i h4; rw [if_pos h4] at h
            obtain ⟨us, hu, e⟩ := Option.map_eq_some_iff.mp h
            rw [scan_more f g _ _ _ hfg hu]; simpa using e
          · rename_i h4; rw [if_neg h4] at h; cases h
/-! the same forwards: a text that was written -/
theorem runOf_app {w rest : List Nat} (hw : ∀ c ∈ w, al c) (hr : ∀ c, rest.head? = some c → ¬ al c) : runOf (w ++ rest) = w := by
  unfold runOf
  induction w with
  | nil =>
    cases rest with
    | nil => rfl
    | cons c r => rw [List.nil_append, List.takeWhile_cons, if_neg]; unfold alB; simp only [decide_eq_true_eq]; exact hr c rfl
  | cons c w ih =>
    rw [List.cons_append, List.takeWhile_cons, if_pos, ih fun x hx => hw x (List.mem_cons_of_mem _ hx)]
    unfold alB; simp only [decide_eq_true_eq]; exact hw c List.mem_cons_self
theorem scan_blank {f p c : Nat} {r : List Nat} (h : c = 32 ∨ c = 10) : scan (f + 1) p (c :: r) = scan f (p + 1) r := by
  show (if c = 32 ∨ c = 10 then _ else _) = _
  rw [if_pos h]
theorem scan_blanks : ∀ (b : List Nat) (f p : Nat) (r : List Nat), (∀ c ∈ b, c = 32 ∨ c = 10) → scan (f + b.length) p (b ++ r) = scan f (p + b.length) r
  | [], _, _, _, _ => rfl
  | c :: b, f, p, r, h => by
    rw [List.length_cons, ← Nat.add_assoc, List.cons_append, scan_blank (h c List.mem_cons_self), scan_blanks b f (p + 1) r fun x hx => h x (List.mem_cons_of_mem _ hx)]
    rw [show p + 1 + b.length = p + (b.length + 1) by omega]
theorem al_not_blank {c : Nat} (h : al c) : ¬ (c = 32 ∨ c = 10) := by rcases h with ⟨h1, h2⟩ | ⟨h1, h2⟩ <;> omega
theorem isRun_al {w : List Nat} (h : isRun w = true) : ∀ c ∈ w, al c := by
  intro c hc
  unfold isRun at h
  rw [Bool.and_eq_true, List.all_eq_true] at h
  have := h.2 c hc
  unfold alB at this
  exact of_decide_eq_true this
theorem isRun_ne {w : List Nat} (h : isRun w = true) : w ≠ [] := by intro e; subst e; exact absurd h (by decide)
theorem scan_run {w rest : List Nat} {f p : Nat} (hw : isRun w = true) (hr : ∀ c, rest.head? = some c → ¬ al c) : scan (f + 1) p (w ++ rest) = (scan f (p + w.length) rest).map (⟨kindOf w, w, p⟩ :: ·) := by
  obtain ⟨c, t, rfl⟩ := List.exists_cons_of_ne_nil (isRun_ne hw)
  have ha := isRun_al hw c List.mem_cons_self
  have e := runOf_app (isRun_al hw) hr
  rw [List.cons_append] at e ⊢
  show (if c = 32 ∨ c = 10 then _ else if al c then if isRun (runOf (c :: (t ++ rest))) = true then _ else _ else _) = _
  rw [if_neg (al_not_blank ha), if_pos ha, e, if_pos hw]
  have : (c :: (t ++ rest)).drop (c :: t).length = rest := by rw [← List.cons_append]; exact List.drop_left
  rw [this]
theorem scan_arrow {rest : List Nat} {f p : Nat} : scan (f + 1) p (45 :: 62 :: rest) = (scan f (p + 2) rest).map (⟨"mark", [45, 62], p⟩ :: ·) := by
  show (if (45 : Nat) = 32 ∨ 45 = 10 then _ else if al 45 then _ else if (45 : Nat) = 45 ∧ (62 :: rest).headD 0 = 62 then _ else _) = _
  rw [if_neg (by decide), if_neg (by decide), if_pos ⟨rfl, rfl⟩]; rfl
theorem scan_mark {rest : List Nat} {f p c : Nat} (h : c ∈ marks1) : scan (f + 1) p (c :: rest) = (scan f (p + 1) rest).map (⟨"mark", [c], p⟩ :: ·) := by
  have : ∀ c ∈ marks1, ¬ (c = 32 ∨ c = 10) ∧ ¬ al c ∧ c ≠ 45 := by decide
  obtain ⟨h1, h2, h3⟩ := this c h
  show (if c = 32 ∨ c = 10 then _ else if al c then _ else if c = 45 ∧ rest.headD 0 = 62 then _ else if c ∈ marks1 then _ else _) = _
  rw [if_neg h1, if_neg h2, if_neg (fun e => h3 e.1), if_pos h]
/-- a word of the law: a run, or a mark -/
def isMark (w : List Nat) : Prop := w = [45, 62] ∨ ∃ c ∈ marks1, w = [c]
def isWd (w : List Nat) : Prop := isRun w = true ∨ isMark w
theorem isMark_head {w : List Nat} (h : isMark w) : ∀ c, w.head? = some c → ¬ al c := by
  rcases h with rfl | ⟨c, hc, rfl⟩
  · intro c h; cases h; decide
  · intro x h; cases h
    have : ∀ c ∈ marks1, ¬ al c := by decide
    exact this c hc
def dueKind (w : List Nat) : Str := if mk w ∈ wordsS then "word" else if sm (w.headD 0) then "name" else "mark"
theorem dueKind_run {w : List Nat} (h : isRun w = true) : dueKind w = kindOf w := by
  unfold dueKind kindOf
  split
  · rfl
  · rw [if_pos]
    unfold isRun at h
    rw [Bool.and_eq_true, Bool.not_eq_true', Bool.or_eq_false_iff] at h
    have := h.1.2
    rw [Bool.not_eq_false', decide_eq_true_eq] at this
    exact this
theorem dueKind_mark {w : List Nat} (h : isMark w) : dueKind w = "mark" := by
  unfold dueKind
  rcases h with rfl | ⟨c, hc, rfl⟩
  · rw [if_neg (by decide), if_neg (by decide)]
  · have : ∀ c ∈ marks1, mk [c] ∉ wordsS ∧ ¬ sm c := by decide
    rw [if_neg (this c hc).1]; exact if_neg (this c hc).2
/-- the words with what stands ahead of each; where two runs follow each other something stands between -/
inductive Written : Bool → Nat → List Nat → List Tok → Prop where
  | done {b p l} : (∀ c ∈ l, c = 32 ∨ c = 10) → Written b p l []
  | word {b b' p bl w rest ts} : (∀ c ∈ bl, c = 32 ∨ c = 10) → isWd w → (b = true → isRun w = true → bl ≠ []) → (b' = true ↔ isRun w = true) → Written b' (p + bl.length + w.length) rest ts → Written b p (bl ++ w ++ rest) (⟨dueKind w, w, p + bl.length⟩ :: ts)
theorem written_head {p : Nat} {l : List Nat} {ts : List Tok} (h : Written true p l ts) : ∀ c, l.head? = some c → ¬ al c := by
  intro c hc
  cases h with
  | done hb =>
    cases l with
    | nil => cases hc
    | cons x r => cases hc; exact fun ha => al_not_blank ha (hb c List.mem_cons_self)
  | @word b b' p bl w rest ts hb hw hn hb' hr =>
    cases bl with
    | cons x r => cases hc; exact fun ha => al_not_blank ha (hb c List.mem_cons_self)
    | nil =>
      rcases hw with hw | hw
      · exact absurd rfl (hn rfl hw)
      · have hne : w ≠ [] := by rcases hw with rfl | ⟨c, _, rfl⟩ <;> simp
        obtain ⟨y, t, rfl⟩ := List.exists_cons_of_ne_nil hne
        cases hc
        exact isMark_head hw _ rfl
theorem scan_written {b : Bool} {p : Nat} {l : List Nat} {ts : List Tok} (h : Written b p l ts) : scan l.length p l = some ts := by
  induction h with
  | @done b p l hb =>
    have e := scan_blanks l 0 p [] hb
    rw [List.append_nil, Nat.zero_add] at e
    rw [e]; simp [scan]
  | @word b b' p bl w rest ts hb hw hn hb' hr ih =>
    have fuel : ∃ k, (bl ++ w ++ rest).length = (rest.length + k) + 1 + bl.length := by
      have : w.length ≠ 0 := by
        rcases hw with hw | hw
        · intro e; exact isRun_ne hw (List.eq_nil_of_length_eq_zero e)
        · rcases hw with rfl | ⟨c, _, rfl⟩ <;> simp
      exact ⟨w.length - 1, by simp only [List.length_append]; omega⟩
    obtain ⟨k, hk⟩ := fuel
    rw [hk, List.append_assoc, scan_blanks bl _ p _ hb]
    have ih2 := scan_more _ (rest.length + k) _ _ _ (by omega) ih
    rcases hw with hw | hw
    · have hb1 : b' = true := hb'.mpr hw
      subst hb1
      rw [scan_run hw (written_head hr), ih2, dueKind_run hw]; rfl
    · rw [dueKind_mark hw]
      rcases hw with rfl | ⟨c, hc, rfl⟩
      · show scan (rest.length + k + 1) _ (45 :: 62 :: rest) = _
        rw [scan_arrow]
        rw [show p + bl.length + 2 = p + bl.length + [45, 62].length from rfl, ih2]; rfl
      · show scan (rest.length + k + 1) _ (c :: rest) = _
        rw [scan_mark hc]
        rw [show p + bl.length + 1 = p + bl.length + [c].length from rfl, ih2]; rfl
/-- a run is at most as long as its text; one more -/
theorem run_step : ∀ {l : List Nat} {k c : Nat}, k ≤ (runOf l).length → l[k]? = some c → (al c → k + 1 ≤ (runOf l).length) ∧ (¬ al c → k = (runOf l).length)
  | [], _, _, _, h => by simp at h
  | x :: l, 0, c, _, h => by
    have e : x = c := by simpa using h
    subst e
    unfold runOf
    rw [List.takeWhile_cons]
    constructor
    · intro ha; rw [if_pos (show alB x = true from decide_eq_true ha)]; simp
    · intro ha; rw [if_neg (show ¬ alB x = true by unfold alB; simp only [decide_eq_true_eq]; exact ha)]; rfl
  | x :: l, k + 1, c, hk, h => by
    have h' : l[k]? = some c := by simpa using h
    unfold runOf at hk ⊢
    rw [List.takeWhile_cons] at hk ⊢
    by_cases hx : alB x = true
    · rw [if_pos hx] at hk ⊢
      rw [List.length_cons] at hk ⊢
      obtain ⟨h1, h2⟩ := run_step (k := k) (l := l) (show k ≤ (runOf l).length by unfold runOf; omega) h'
      unfold runOf at h1 h2
      exact ⟨fun ha => by have := h1 ha; omega, fun ha => by have := h2 ha; omega⟩
    · rw [if_neg hx] at hk; simp at hk
theorem runOf_le (l : List Nat) : (runOf l).length ≤ l.length := by unfold runOf; exact (List.takeWhile_sublist _).length_le
theorem runOf_take (l : List Nat) : l.take (runOf l).length = runOf l := by
  have e : runOf l ++ l.dropWhile alB = l := List.takeWhile_append_dropWhile
  generalize runOf l = r at e ⊢
  rw [← e]
  exact List.take_left
theorem small_iff (c : Nat) : decide (c ∈ tl (Str.ofString "abcdefghijklmnopqrstuvwxyz")) = decide (sm c) := by
  rw [tl_ofString]
  refine decide_eq_decide.mpr ?_
  show c ∈ [97, 98, 99, 100, 101, 102, 103, 104, 105, 106, 107, 108, 109, 110, 111, 112, 113, 114, 115, 116, 117, 118, 119, 120, 121, 122] ↔ _
  simp only [List.mem_cons, List.not_mem_nil, or_false]
  omega
theorem digit_iff (c : Nat) : decide (c ∈ tl (Str.ofString "0123456789")) = decide (48 ≤ c ∧ c ≤ 57) := by
  rw [tl_ofString]
  refine decide_eq_decide.mpr ?_
  show c ∈ [48, 49, 50, 51, 52, 53, 54, 55, 56, 57] ↔ _
  simp only [List.mem_cons, List.not_mem_nil, or_false]
  omega
theorem marks_iff (c : Nat) : decide (c ∈ tl (Str.ofString "(){},;:|")) = decide (c ∈ marks1) := by
  rw [tl_ofString]; rfl
theorem toks_no : ∀ ts : List Tok, noList.noLists (ts.map tokD) = true
  | [] => rfl
  | t :: ts => by show (noList (tokD t) && _) = true; rw [toks_no ts]; rfl
end PL

set_option Elab.async false
set_option linter.all false
set_option maxRecDepth 100000
set_option maxHeartbeats 8000000
namespace K01
open PySem PySem.Spec PyProof.Rows L2 PL TL
open Evl (Ex)
open C8 (pss_cut)
def topS (i : Nat) : Stmt := PySem.Challenge.pw_pactloom_k01_tokens_that_were_written.main.body.getD i (.Pass ⟨0, 0, 0, 0⟩)
abbrev s_is_name_form : Stmt := topS 9
theorem sc_is_name_form : FnScope ["run", "char"] ["run"] (defScope s_is_name_form) := ⟨rfl, rfl, rfl, by decide +kernel, rfl, by decide +kernel, by decide +kernel⟩
abbrev s_run_end : Stmt := topS 10
theorem sc_run_end : FnScope ["text", "start", "end"] ["text", "start"] (defScope s_run_end) := ⟨rfl, rfl, rfl, by decide +kernel, rfl, by decide +kernel, by decide +kernel⟩
abbrev s_run_token : Stmt := topS 11
theorem sc_run_token : FnScope ["run", "start"] ["run", "start"] (defScope s_run_token) := ⟨rfl, rfl, rfl, by decide +kernel, rfl, by decide +kernel, by decide +kernel⟩
abbrev s_tokenize : Stmt := topS 12
theorem sc_tokenize : FnScope ["text", "found", "at", "char", "end"] ["text"] (defScope s_tokenize) := ⟨rfl, rfl, rfl, by decide +kernel, rfl, by decide +kernel, by decide +kernel⟩
abbrev s__law_source : Stmt := topS 14
theorem sc__law_source : FnScope ["_law_script"] ["_law_script"] (defScope s__law_source) := ⟨rfl, rfl, rfl, by decide +kernel, rfl, by decide +kernel, by decide +kernel⟩
abbrev s__law_pick : Stmt := topS 15
theorem sc__law_pick : FnScope ["_law_source_here", "_law_many", "_law_cell", "_law_picked", "_law_mixed"] ["_law_source_here", "_law_many"] (defScope s__law_pick) := ⟨rfl, rfl, rfl, by decide +kernel, rfl, by decide +kernel, by decide +kernel⟩
abbrev s__law_name : Stmt := topS 16
theorem sc__law_name : FnScope ["_law_source_here", "_law_taken", "_law_letters", "_law_name_here", "_law_k", "_law_spare", "_law_one"] ["_law_source_here", "_law_taken"] (defScope s__law_name) := ⟨rfl, rfl, rfl, by decide +kernel, rfl, by decide +kernel, by decide +kernel⟩
abbrev s__law_same : Stmt := topS 18
theorem sc__law_same : FnScope ["_law_actual", "_law_due_here", "_law_k"] ["_law_actual", "_law_due_here"] (defScope s__law_same) := ⟨rfl, rfl, rfl, by decide +kernel, rfl, by decide +kernel, by decide +kernel⟩
abbrev s__law_blank : Stmt := topS 19
theorem sc__law_blank : FnScope ["_law_source_here", "_law_least", "_law_blank_here"] ["_law_source_here", "_law_least"] (defScope s__law_blank) := ⟨rfl, rfl, rfl, by decide +kernel, rfl, by decide +kernel, by decide +kernel⟩
abbrev s__law_spread : Stmt := topS 20
theorem sc__law_spread : FnScope ["_law_source_here", "_law_words", "_law_signs", "_law_text", "_law_places", "_law_k"] ["_law_source_here", "_law_words"] (defScope s__law_spread) := ⟨rfl, rfl, rfl, by decide +kernel, rfl, by decide +kernel, by decide +kernel⟩
abbrev s__law_token : Stmt := topS 21
theorem sc__law_token : FnScope ["_law_source_here", "_law_kind", "_law_word"] ["_law_source_here"] (defScope s__law_token) := ⟨rfl, rfl, rfl, by decide +kernel, rfl, by decide +kernel, by decide +kernel⟩
abbrev s__law_due : Stmt := topS 22
theorem sc__law_due : FnScope ["_law_words", "_law_places", "_law_tokens", "_law_k", "_law_kind"] ["_law_words", "_law_places"] (defScope s__law_due) := ⟨rfl, rfl, rfl, by decide +kernel, rfl, by decide +kernel, by decide +kernel⟩
abbrev s_law : Stmt := topS 23
theorem sc_law : FnScope ["_law_script", "_law_source_here", "_law_k", "_law_words", "_law_text", "_law_places", "_law_due_here", "_law_told", "_law_j"] ["_law_script"] (defScope s_law) := ⟨rfl, rfl, rfl, by decide +kernel, rfl, by decide +kernel, by decide +kernel⟩
local macro_rules | `(tactic| walk_at "ex") => `(tactic| first
  | assumption
  | exact Evl.Ex.refl _
  | exact Evl.Ex.new (by assumption)
  | (refine Evl.Ex.trans ?exa (Evl.Ex.new (by assumption)); case exa => walk_at "ex")
  | (refine Evl.Ex.trans ?exa ?exb; case exb => assumption; case exa => walk_at "ex"))
local macro_rules | `(tactic| walk_at "at") => `(tactic| first
  | assumption
  | exact upd_same
  | (refine (upd_ne (by first | assumption | exact Ne.symm (by assumption))).trans ?ata; case ata => walk_at "at")
  | exact (Evl.Ex.new (by assumption)) _ _ (by assumption))
local macro_rules | `(tactic| walk_at "dp") => `(tactic| first
  | assumption
  | exact Dp.int _
  | exact Dp.str _
  | exact Dp.non
  | exact Dp.bl _
  | (refine dp_mono ?exa (by assumption); case exa => walk_at "ex"))
local macro_rules | `(tactic| walk_at "sq") => `(tactic| first
  | assumption
  | exact Or.inl (SqL.of (by walk_at "at"))
  | exact SqL.of (by walk_at "at")
  | exact SqT.of (by walk_at "at")
  | exact Or.inr (SqT.of (by walk_at "at"))
  | exact Or.inl (by assumption)
  | exact Or.inr (by assumption))
local macro_rules | `(tactic| walk_at "fr") => `(tactic| first
  | assumption
  | exact PL.Fr.refl _ _
  | (refine PL.Fr.trans ?fra PL.Fr.upd; case fra => walk_at "fr")
  | exact PL.Fr.of (by walk_at "ex")
  | (refine PL.Fr.trans ?fra ?frb; case frb => assumption; case fra => walk_at "fr"))
local macro_rules | `(tactic| walk_at "sz") => `(tactic| first
  | assumption
  | exact Nat.le_of_lt (small1000 (by first | decide | omega))
  | exact small1000 (by first | decide | omega)
  | exact Nat.le_of_lt (small1000 (by simp only [List.length_cons, List.length_nil]; decide))
  | (rw [sizeLine_eq]; omega)
  | (rw [sizeLine_eq]; simp only [slen, mk_len, List.length_cons, List.length_nil, lit0, lit1, lit2, lit3, lit4, lit5, lit6, lit7, lit8, lit9, lit10, lit11, lit12, lit13, lit14, lit15, lit16, lit17, lit18, lit19, lit20, lit21, lit22, lit23, lit24, lit25, lit26]; omega))
local macro_rules | `(tactic| walk_at "s1") => `(tactic| first
  | with_reducible refine r_seq ?_
  | with_reducible refine r_asg ?_
  | with_reducible refine r_name ?_
  | with_reducible refine r_drop ?_
  | with_reducible refine r_ret ?_
  | with_reducible refine r_retN ?_
  | with_reducible refine r_ifS ?_
  | with_reducible refine r_next ?_
  | with_reducible refine r_brk ?_
  | with_reducible refine r_cnt ?_
  | ((with_reducible refine' r_aug ?ea ?_); case ea => exact rfl)
  | with_reducible refine r_ipI ?_
  | with_reducible refine r_for ?_
  | with_reducible refine r_iAny ?_
  | with_reducible refine r_rng1 ?_
  | with_reducible refine r_rng2 ?_)
local macro_rules | `(tactic| walk_at "s2") => `(tactic| first
  | ((with_reducible refine' r_var ?ea ?_); case ea => exact rfl)
  | with_reducible refine r_C ?_
  | with_reducible refine r_op ?_
  | with_reducible refine r_cons ?_
  | with_reducible refine r_nil ?_
  | with_reducible refine r_call ?_
  | with_reducible refine r_CB ?_
  | with_reducible refine r_test ?_
  | with_reducible refine r_B ?_
  | with_reducible refine r_and ?_
  | with_reducible refine r_or ?_
  | with_reducible refine r_not ?_
  | with_reducible refine r_andV ?_
  | with_reducible refine r_orV ?_
  | with_reducible refine r_notV ?_
  | with_reducible refine r_if ?_
  | with_reducible refine r_un ?_
  | with_reducible refine r_sl ?_
  | with_reducible refine r_part ?_
  | with_reducible refine r_nopart ?_
  | with_reducible refine r_tup ?_
  | with_reducible refine r_lst ?_
  | with_reducible refine r_BM ?_
  | with_reducible refine r_BM0 ?_
  | with_reducible refine r_M1 ?_
  | with_reducible refine r_M0 ?_
  | with_reducible refine r_gCons ?_
  | with_reducible refine r_gNil ?_
  | with_reducible refine r_gSub ?_
  | with_reducible refine r_lc ?_
  | with_reducible refine r_yes ?_)
local macro_rules | `(tactic| walk_at "s3") => `(tactic| first
  | with_reducible refine r_addI ?_
  | ((with_reducible refine r_addS ?ea ?_); case ea => walk_at "sz")
  | with_reducible refine r_I0 ?_
  | ((with_reducible refine r_I ?ea ?_); case ea => first | (show (_ : Int) ≠ _; decide) | exact ⟨by decide, by decide⟩ | exact ⟨by decide, by decide, by decide⟩ | exact ⟨by omega, by omega⟩ | (show (_ : Int) ≠ _; omega))
  | ((with_reducible refine r_mulI ?ea ?_); case ea => first | exact Or.inl ⟨by omega, by omega⟩ | exact Or.inr ⟨by omega, by omega⟩)
  | with_reducible refine r_itS ?_
  | with_reducible refine r_tru ?_
  | with_reducible refine r_rU ?_
  | with_reducible refine r_eqI ?_
  | with_reducible refine r_eqS ?_
  | with_reducible refine r_neI ?_
  | with_reducible refine r_neS ?_
  | with_reducible refine r_eqB ?_
  | with_reducible refine r_ltI ?_
  | with_reducible refine r_leI ?_
  | with_reducible refine r_gtI ?_
  | with_reducible refine r_geI ?_
  | with_reducible refine r_inC ?_
  | with_reducible refine r_ninC ?_
  | with_reducible refine r_exI ?_
  | with_reducible refine r_exB ?_
  | with_reducible refine r_truB ?_
  | with_reducible refine r_truI ?_
  | with_reducible refine r_truN ?_
  | with_reducible refine r_intI ?_
  | ((with_reducible refine r_str ?ea ?_); case ea => first | assumption | decide)
  | with_reducible refine r_min2 ?_
  | with_reducible refine r_max2 ?_
  | with_reducible refine r_ord ?_
  | with_reducible refine r_tyS ?_
  | ((with_reducible refine r_slS ?ea ?_); case ea => walk_at "sz")
  | ((with_reducible refine r_lenS ?ea ?_); case ea => walk_at "sz")
  | ((with_reducible refine' r_lenL ?ea ?_); case ea => walk_at "sq")
  | ((with_reducible refine' r_truL ?ea ?_); case ea => walk_at "sq")
  | ((with_reducible refine' r_tyL ?ea ?_); case ea => first | assumption | exact SqL.of (by walk_at "at"))
  | ((with_reducible refine' r_gTup ?ea ?eb ?_); case ea => (first | assumption | exact SqT.of (by assumption)); case eb => rfl)
  | ((with_reducible refine' r_setL ?ea ?eb ?_); (case ea => walk_at "at"); (case eb => rfl))
  | ((with_reducible refine' r_ixL ?ea ?eb ?_); (case ea => walk_at "sq"); (case eb => first | exact atI_nat rfl | rfl | assumption | exact atI_nat (by assumption)))
  | ((with_reducible refine' r_append ?ea ?eb ?_); (case ea => walk_at "at"); (case eb => walk_at "sz"))
  | refine And.intro (show wipe _ _ = wipe _ _ from rfl) ?_
  | ((with_reducible refine' r_isi_bool ?ea ?ec ?_); (case ea => first | assumption | exact Dp.bl _ | exact Dp.int _ | exact Dp.str _ | exact Dp.non); (case ec => first | exact (show _ = true from rfl) | exact (show _ = false from rfl)))
  | ((with_reducible refine' r_isi_int ?ea ?ec ?_); (case ea => first | assumption | exact Dp.bl _ | exact Dp.int _ | exact Dp.str _ | exact Dp.non); (case ec => first | exact (show _ = true from rfl) | exact (show _ = false from rfl)))
  | ((with_reducible refine' r_isi_str ?ea ?ec ?_); (case ea => first | assumption | exact Dp.bl _ | exact Dp.int _ | exact Dp.str _ | exact Dp.non); (case ec => first | exact (show _ = true from rfl) | exact (show _ = false from rfl)))
  | ((with_reducible refine' r_isi_list ?ea ?ec ?_); (case ea => first | assumption | exact Dp.bl _ | exact Dp.int _ | exact Dp.str _ | exact Dp.non); (case ec => first | exact (show _ = true from rfl) | exact (show _ = false from rfl)))
  | ((with_reducible refine' r_isi_tuple ?ea ?ec ?_); (case ea => first | assumption | exact Dp.bl _ | exact Dp.int _ | exact Dp.str _ | exact Dp.non); (case ec => first | exact (show _ = true from rfl) | exact (show _ = false from rfl)))
  | with_reducible refine iteNF ?_
  | with_reducible refine iteNT ?_
  | with_reducible refine r_neB ?_
  | with_reducible refine r_nn ?_
  | with_reducible refine r_nonT ?_
  | with_reducible refine r_refF ?_
  | with_reducible refine r_intF ?_
  | with_reducible refine r_strF ?_
  | with_reducible refine r_nonF ?_
  | with_reducible refine r_refT ?_
  | with_reducible refine r_intT ?_
  | with_reducible refine r_strT ?_
  | with_reducible refine iteT ?_
  | with_reducible refine iteF ?_)
local macro_rules | `(tactic| walk_at "s") => `(tactic| first | walk_at "s2" | walk_at "s1" | walk_at "s3")
local macro_rules | `(tactic| walk_at "go") => `(tactic| repeat (walk_at "s"))
local macro_rules | `(tactic| walk_at "br") => `(tactic| first | refine iteT ?_ | refine iteF ?_)
/-! ### the law's draws: a source is a list of cells, a place, two numbers -/
structure Srcs (a : Addr) (H : Hp) (c : Addr) (ns : List Int) (i v m : Int) : Prop where
  at_ : H a = some (.lst [.ref c, .int i, .int v, .int m])
  cells : H c = some (.lst (ns.map V.int))
  len : ns.length ≤ 63
  i0 : 0 ≤ i
  v0 : 0 ≤ v
  m0 : 0 ≤ m
  m1 : m < 2147483647
theorem Srcs.ne {a : Addr} {H : Hp} {c : Addr} {ns : List Int} {i v m : Int} (h : Srcs a H c ns i v m) : c ≠ a := ne_of h.cells h.at_ (by intro e; injection e with e; cases ns <;> simp at e)
def Src (a c : Addr) (H : Hp) : Prop := ∃ ns i v m, Srcs a H c ns i v m
theorem Src.lst {a c : Addr} {H : Hp} (h : Src a c H) : ∃ xs, H a = some (.lst xs) := by obtain ⟨ns, i, v, m, h⟩ := h; exact ⟨_, h.at_⟩
theorem Src.cel {a c : Addr} {H : Hp} (h : Src a c H) : ∃ xs, H c = some (.lst xs) := by obtain ⟨ns, i, v, m, h⟩ := h; exact ⟨_, h.cells⟩
theorem Src.upd {a c p : Addr} {H : Hp} {o : HO} (h : Src a c H) (h1 : p ≠ a) (h2 : p ≠ c) : Src a c (L2.upd H p o) := by
  obtain ⟨ns, i, v, m, h⟩ := h; exact ⟨ns, i, v, m, (upd_ne h1.symm).trans h.at_, (upd_ne h2.symm).trans h.cells, h.len, h.i0, h.v0, h.m0, h.m1⟩
theorem Src.ex {a c : Addr} {H H' : Hp} (h : Src a c H) (e : Ex H H') : Src a c H' := by
  obtain ⟨ns, i, v, m, h⟩ := h; exact ⟨ns, i, v, m, e _ _ h.at_, e _ _ h.cells, h.len, h.i0, h.v0, h.m0, h.m1⟩
theorem Src.new {a c p : Addr} {H : Hp} (h : Src a c H) (n : H p = none) : p ≠ a ∧ p ≠ c := by
  obtain ⟨xs, hx⟩ := h.lst; obtain ⟨ys, hy⟩ := h.cel; exact ⟨(ne_of_none hx n).symm, (ne_of_none hy n).symm⟩
/-- a list of texts is not the source -/
theorem Src.strs {a c t : Addr} {H : Hp} {l : List Str} (h : Src a c H) (ht : H t = some (.lst (l.map V.str))) : t ≠ a := by
  obtain ⟨ns, i, v, m, h⟩ := h
  exact ne_of ht h.at_ (by intro e; injection e with e; cases l <;> simp at e)
section
variable {P : Program} {w : World} {K : PySem.W.Frag} {mg : Str → Option Value} {base : Heap} {f : Addr} {fd : FuncData} {n : Nat}
def sp_source (K : PySem.W.Frag) : Sp := fun vs H Q _ => ∃ (a : Addr) (ns : List Int), vs = [.ref a] ∧ SqL K H a (ns.map V.int) ∧ ns.length ≤ 63 ∧ ∀ p c H', Ex H H' → H p = none → Src p c H' → Q (.ref p) H'
theorem ok__law_source (D : Def K mg "_law_source" s__law_source ["_law_script"] f fd) (B : Blt mg) :
    FnOk P w K mg base CX0 (n + 1) f fd ["_law_script"] (sp_source K) := by
  refine D.F.ok sc__law_source (fun vs H Q E h => ?_) (fun cdv A outer s H vs Q E hr h => ?_)
  · obtain ⟨a, ns, rfl, _⟩ := h; rfl
  obtain ⟨a, ns, rfl, hs, hn, q⟩ := h
  refine ⟨_, (pss_one (ps_ret (pe_lst (pa_cons (pe_callTy (c_list (K := K)) (by rfl) B.list (by decide +kernel) (pa_cons (pv 0) pa_nil)) (pa_cons pe_int (pa_cons pe_int (pa_cons pe_int pa_nil))))))), ?_⟩
  walk_at "go"
  refine ⟨a, _, rfl, .inl hs, fun l nl => ?_⟩
  walk_at "go"
  refine ⟨by walk_at "sz", fun p np => ?_⟩
  have hl : (upd H l (.lst (ns.map V.int))) l = some (.lst (ns.map V.int)) := upd_same
  have e1 := Ex.new (o := HO.lst (ns.map V.int)) nl
  have e2 := e1.trans (Ex.new (o := .lst [.ref l, .int 0, .int 0, .int 7]) np)
  exact q p l _ e2 (Evl.fresh_back e1 np) ⟨ns, 0, 0, 7, upd_same, Ex.new np _ _ hl, hn, by omega, by omega, by omega, by omega⟩
def sp_pick : Sp := fun vs H Q _ => ∃ (a c : Addr) (lim : Int), vs = [.ref a, .int lim] ∧ Src a c H ∧ 0 < lim ∧ lim < 1073741824 ∧ ∀ (r : Int) H', 0 ≤ r → r < lim → Src a c H' → PL.Fr a H H' → Q (.int r) H'
theorem ok__law_pick (D : Def K mg "_law_pick" s__law_pick ["_law_source_here", "_law_many"] f fd) (B : Blt mg) :
    FnOk P w K mg base CX0 (n + 1) f fd ["_law_source_here", "_law_many"] sp_pick := by
  refine D.F.ok sc__law_pick (fun vs H Q E h => ?_) (fun cdv A outer s H vs Q E hr h => ?_)
  · obtain ⟨a, c, lim, rfl, _⟩ := h; rfl
  obtain ⟨a, c, lim, rfl, ⟨ns, i, v, m, S⟩, hl0, hl1, q⟩ := h
  refine ⟨_, (pss_cut (ps_if (PW.pt (pw_and (pt_cmpR (op_eqU (K := K) (u64 hr)) (pe_ix (ix_u (K := K)) (pv 0) pe_int (fun _ _ => rfl)) pe_int (nomark _)) (pw_and1 (pt_cmpR (op_ltU) (pe_ix (ix_u (K := K)) (pv 0) pe_int (fun _ _ => rfl)) (pe_callB (c_len (K := K)) (by rfl) B.len PySem.boot_len (pa_cons (pe_ix (ix_u (K := K)) (pv 0) pe_int (fun _ _ => rfl)) pa_nil)) (nomark _))))) (pss_cons (ps_set (i := 2) sc__law_pick.nd rfl (.inl rfl) (pe_ix (ix_u (K := K)) (pe_ix (ix_u (K := K)) (pv 0) pe_int (fun _ _ => rfl)) (pe_ix (ix_u (K := K)) (pv 0) pe_int (fun _ _ => rfl)) (fun _ _ => rfl)))
      (pss_cons (ps_asg (pe_op (op_addU (K := K)) (pe_ix (ix_u (K := K)) (pv 0) pe_int (fun _ _ => rfl)) pe_int) (pg_sub (pv 0) pe_int set_list))
      (pss_one (ps_if (pt_cmpR (op_gtU) (pv 2) (pe_op op_pow pe_int pe_int) (nomark _)) (pss_one (ps_asg (pe_op op_sub (pv 2) (pe_op op_pow pe_int pe_int)) (pg_sub (pv 0) pe_int set_list))) (pss_one (ps_asg (pe_op op_modN (pe_callTy c_int (by rfl) B.int (by decide +kernel) (pa_cons (pe_op (op_addU (K := K)) (pe_op op_mulU (pe_ix (ix_u (K := K)) (pv 0) pe_int (fun _ _ => rfl)) pe_int) (pv 2)) pa_nil)) pe_int) (pg_sub (pv 0) pe_int set_list))))))) pss_nil)
      (pss_cut (ps_if (pt_cmpR (op_gtU) (pe_ix (ix_u (K := K)) (pv 0) pe_int (fun _ _ => rfl)) pe_int (nomark _)) (pss_cons (ps_set (i := 3) sc__law_pick.nd rfl (.inl rfl) (pe_op op_modN (pe_callTy c_int (by rfl) B.int (by decide +kernel) (pa_cons (pe_ix (ix_u (K := K)) (pv 0) pe_int (fun _ _ => rfl)) pa_nil)) (pv 1)))
      (pss_cons (ps_asg (pe_op op_fdivN (pe_ix (ix_u (K := K)) (pv 0) pe_int (fun _ _ => rfl)) (pv 1)) (pg_sub (pv 0) pe_int set_list))
      (pss_one (ps_ret (pv 3))))) pss_nil)
      (pss_cons (ps_asg (pe_op op_modN (pe_callTy c_int (by rfl) B.int (by decide +kernel) (pa_cons (pe_op (op_addU (K := K)) (pe_op op_mulU (pe_ix (ix_u (K := K)) (pv 0) pe_int (fun _ _ => rfl)) pe_int) pe_int) pa_nil)) pe_int) (pg_sub (pv 0) pe_int set_list))
      (pss_cons (ps_set (i := 4) sc__law_pick.nd rfl (.inl rfl) (pe_op op_mulU (pe_op op_mulU (pe_op (op_addU (K := K)) (pe_op op_modN (pe_callTy c_int (by rfl) B.int (by decide +kernel) (pa_cons (pe_ix (ix_u (K := K)) (pv 0) pe_int (fun _ _ => rfl)) pa_nil)) pe_int) pe_int) (pe_op (op_addU (K := K)) (pe_op op_fdivN (pe_ix (ix_u (K := K)) (pv 0) pe_int (fun _ _ => rfl)) pe_int) pe_int)) pe_int))
      (pss_one (ps_ret (pe_op op_modN (pe_op op_fdivN (pe_op op_modN (pe_callTy c_int (by rfl) B.int (by decide +kernel) (pa_cons (pv 4) pa_nil)) pe_int) pe_int) (pv 1)))))))), ?_⟩
  have hat := S.at_
  have hcl := S.cells
  have hca := S.ne
  have hm0 := S.m0
  have hm1 := S.m1
  have hi0 := S.i0
  refine r_cut (fun σ' H' => ∃ x2 i v m, σ' = [some (.ref a), some (.int lim), x2, none, none] ∧ Srcs a H' c ns i v m ∧ PL.Fr a H H') ?_ ?_
  · walk_at "go"
    refine ite_d (fun h0 => ?_) (fun h0 => ?_)
    · walk_at "go"
      rw [List.length_map]
      refine ite_d (fun hi => ?_) (fun hi => ?_)
      · obtain ⟨j, rfl⟩ := Int.eq_ofNat_of_zero_le hi0
        have hj : j < ns.length := by omega
        have g : (ns.map V.int)[j]? = some (.int ns[j]) := by rw [List.getElem?_map, List.getElem?_eq_getElem hj]; rfl
        generalize ns[j] = cell at g
        have e18 : (10 : Int) ^ Int.toNat 18 = 1000000000000000000 := by decide
        walk_at "go"
        rw [e18]
        refine ite_d (fun hc => ?_) (fun hc => ?_)
        · walk_at "go"
          rw [e18]
          exact ⟨_, _, _, _, rfl, ⟨upd_same, by walk_at "at", S.len, by omega, by omega, hm0, hm1⟩, by walk_at "fr"⟩
        · walk_at "go"
          have hf := fmod_lt (x := m * 16807 + cell) (y := 2147483647) (by decide)
          exact ⟨_, _, _, _, rfl, ⟨upd_same, by walk_at "at", S.len, by omega, S.v0, hf.1, hf.2⟩, by walk_at "fr"⟩
      · walk_at "go"
        exact ⟨_, i, v, m, rfl, S, .refl _ _⟩
    · walk_at "go"
      exact ⟨_, i, v, m, rfl, S, .refl _ _⟩
  · rintro σ' H' ⟨x2, i, v, m, rfl, S, fr⟩
    have hat := S.at_
    have hcl := S.cells
    have hv0 := S.v0
    have hm0 := S.m0
    have hm1 := S.m1
    refine r_nocut ?_
    walk_at "go"
    refine ite_d (fun hv => ?_) (fun hv => ?_)
    · walk_at "go"
      have hr := fmod_lt (x := v) hl0
      exact q _ _ hr.1 hr.2 ⟨ns, _, _, _, upd_same, by walk_at "at", S.len, S.i0, (fdiv_le hl0 hv0).1, hm0, hm1⟩ (by walk_at "fr")
    · walk_at "go"
      have hf := fmod_lt (x := m * 48271 + 12345) (y := 2147483647) (by decide)
      generalize (m * 48271 + 12345).fmod 2147483647 = m2 at *
      have ha := fmod_lt (x := m2) (y := 46337) (by decide)
      have hb := fdiv_le (x := m2) (y := 46337) (by decide) hf.1
      generalize m2.fmod 46337 = x1 at *
      generalize m2.fdiv 46337 = x3 at *
      walk_at "go"
      generalize (((x1 + 1) * (x3 + 7) * 16807).fmod 2147483629).fdiv 32 = y
      have hr := fmod_lt (x := y) hl0
      exact q _ _ hr.1 hr.2 ⟨ns, _, _, _, upd_same, by walk_at "at", S.len, S.i0, hv0, hf.1, hf.2⟩ (by walk_at "fr")
end


set_option maxHeartbeats 8000000
section
variable {P : Program} {w : World} {K : PySem.W.Frag} {mg : Str → Option Value} {base : Heap} {f : Addr} {fd : FuncData}
/-! ### the same data are the same -/
def wd (m : Nat) : Nat → PyData → Prop
  | _, .none => True
  | _, .bool _ => True
  | _, .int _ => True
  | _, .str _ => True
  | 0, _ => False
  | n + 1, .list ds => ds.length ≤ m ∧ ∀ d ∈ ds, wd m n d
  | n + 1, .tuple ds => ds.length ≤ m ∧ ∀ d ∈ ds, wd m n d
  | _, .dict _ => False
def sp_same (K : PySem.W.Frag) (n : Nat) : Sp := fun vs H Q _ => ∃ (x y : V) (d : PyData), vs = [x, y] ∧ Dp K H x d ∧ Dp K H y d ∧ (∃ k, n = k + 1 ∧ wd 100000 k d) ∧ Q (.bl true) H
theorem ok__law_same_step {n : Nat} (D__law_same : Def K mg "_law_same" s__law_same ["_law_actual", "_law_due_here"] f fd) (B : Blt mg) (G__law_same : ∀ m, m + 1 = n → FnOk P w K mg base CX0 m f fd ["_law_actual", "_law_due_here"] (sp_same K m)) (hn : 0 < n) :
    FnOk P w K mg base CX0 n f fd ["_law_actual", "_law_due_here"] (sp_same K n) := by
  obtain ⟨m, rfl⟩ : ∃ m, n = m + 1 := ⟨n - 1, by omega⟩
  have G__law_same := G__law_same m rfl
  refine D__law_same.F.ok sc__law_same (fun vs H Q E h => ?_) (fun cdv A outer s H vs Q E hr h => ?_)
  · obtain ⟨x, y, d, rfl, _⟩ := h; rfl
  obtain ⟨x, y, d, rfl, hx, hy, ⟨k, hk, hw⟩, q⟩ := h
  obtain rfl : k = m := by omega
  refine ⟨_, (pss_cut (ps_if (pt_cmpR op_isN (pv 1) pe_non (nomark _)) (pss_one (ps_ret (pe_cmpR op_isN (pv 0) pe_non (nomark _)))) pss_nil)
      (pss_cut (ps_if (pt_truthU (K := K) (pe_callB (c_isi (K := K)) (by rfl) B.isinstance (by decide +kernel) (pa_cons (pv 1) (pa_cons (pe_ty "bool" (by rfl) B.bool (by decide +kernel)) pa_nil))) (by intro _; rfl)) (pss_one (ps_ret (pe_and (pe_callB (c_isi (K := K)) (by rfl) B.isinstance (by decide +kernel) (pa_cons (pv 0) (pa_cons (pe_ty "bool" (by rfl) B.bool (by decide +kernel)) pa_nil))) (pe_one (pe_cmpR (op_eqU (K := K) (u64 hr)) (pv 0) (pv 1) (nomark _)))))) pss_nil)
      (pss_cut (ps_if (pt_truthU (K := K) (pe_callB (c_isi (K := K)) (by rfl) B.isinstance (by decide +kernel) (pa_cons (pv 1) (pa_cons (pe_ty "int" (by rfl) B.int (by decide +kernel)) pa_nil))) (by intro _; rfl)) (pss_one (ps_ret (pe_and (pe_callB (c_isi (K := K)) (by rfl) B.isinstance (by decide +kernel) (pa_cons (pv 0) (pa_cons (pe_ty "int" (by rfl) B.int (by decide +kernel)) pa_nil))) (pe_and (pe_not (pe_callB (c_isi (K := K)) (by rfl) B.isinstance (by decide +kernel) (pa_cons (pv 0) (pa_cons (pe_ty "bool" (by rfl) B.bool (by decide +kernel)) pa_nil)))) (pe_one (pe_cmpR (op_eqU (K := K) (u64 hr)) (pv 0) (pv 1) (nomark _))))))) pss_nil)
      (pss_cut (ps_if (pt_truthU (K := K) (pe_callB (c_isi (K := K)) (by rfl) B.isinstance (by decide +kernel) (pa_cons (pv 1) (pa_cons (pe_ty "str" (by rfl) B.str (by decide +kernel)) pa_nil))) (by intro _; rfl)) (pss_one (ps_ret (pe_and (pe_callB (c_isi (K := K)) (by rfl) B.isinstance (by decide +kernel) (pa_cons (pv 0) (pa_cons (pe_ty "str" (by rfl) B.str (by decide +kernel)) pa_nil))) (pe_one (pe_cmpR (op_eqU (K := K) (u64 hr)) (pv 0) (pv 1) (nomark _)))))) pss_nil)
      (pss_cut (ps_if (PW.pt (pw_or (pt_cmpR (op_neU (K := K) (u64 hr)) (pe_callB (c_isi (K := K)) (by rfl) B.isinstance (by decide +kernel) (pa_cons (pv 1) (pa_cons (pe_ty "list" (by rfl) B.list (by decide +kernel)) pa_nil))) (pe_callB (c_isi (K := K)) (by rfl) B.isinstance (by decide +kernel) (pa_cons (pv 0) (pa_cons (pe_ty "list" (by rfl) B.list (by decide +kernel)) pa_nil))) (nomark _)) (pw_or1 (pt_cmpR (op_neU (K := K) (u64 hr)) (pe_callB (c_isi (K := K)) (by rfl) B.isinstance (by decide +kernel) (pa_cons (pv 1) (pa_cons (pe_ty "tuple" (by rfl) B.tuple (by decide +kernel)) pa_nil))) (pe_callB (c_isi (K := K)) (by rfl) B.isinstance (by decide +kernel) (pa_cons (pv 0) (pa_cons (pe_ty "tuple" (by rfl) B.tuple (by decide +kernel)) pa_nil))) (nomark _))))) (pss_one (ps_ret pe_bl)) pss_nil)
      (pss_cut (ps_if (pt_cmpR (op_neU (K := K) (u64 hr)) (pe_callB (c_len (K := K)) (by rfl) B.len PySem.boot_len (pa_cons (pv 0) pa_nil)) (pe_callB (c_len (K := K)) (by rfl) B.len PySem.boot_len (pa_cons (pv 1) pa_nil)) (nomark _)) (pss_one (ps_ret pe_bl)) pss_nil)
      (pss_cut (ps_for PassesOwn.never rfl (pi_range1 (by rfl) B.range (pa_cons (pe_callB (c_len (K := K)) (by rfl) B.len PySem.boot_len (pa_cons (pv 1) pa_nil)) pa_nil)) (pg_name (i := 2) sc__law_same.nd rfl (.inl rfl)) (pss_one (ps_if (pt_not (pt_truthU (K := K) (pe_call G__law_same hr (by rfl) D__law_same.m D__law_same.F.kp D__law_same.b .nil pass0 (pa_cons (pe_ix (ix_u (K := K)) (pv 0) (pv 2) (fun _ _ => rfl)) (pa_cons (pe_ix (ix_u (K := K)) (pv 1) (pv 2) (fun _ _ => rfl)) pa_nil))) (by intro _; rfl))) (pss_one (ps_ret pe_bl)) pss_nil)))
      (pss_one (ps_ret pe_bl))))))))), ?_⟩
  cases hx with
  | non => cases hy; refine r_nocut ?_; walk_at "go"; exact q
  | bl b =>
    cases hy
    refine r_nocut ?_; walk_at "go"
    refine r_nocut ?_; walk_at "go"
    rw [beq_self_eq_true]
    exact q
  | int i =>
    cases hy
    refine r_nocut ?_; walk_at "go"
    refine r_nocut ?_; walk_at "go"
    refine r_nocut ?_; walk_at "go"
    rw [decide_eq_true rfl]
    exact q
  | str z =>
    cases hy
    refine r_nocut ?_; walk_at "go"
    refine r_nocut ?_; walk_at "go"
    refine r_nocut ?_; walk_at "go"
    refine r_nocut ?_; walk_at "go"
    rw [decide_eq_true rfl]
    exact q
  | @lst a xs ds hs hA =>
    cases hy with
    | @lst b ys _ hs' hA' =>
    have h1 : Dp K H (.ref a) (.list ds) := .lst hs hA
    have h2 : Dp K H (.ref b) (.list ds) := .lst hs' hA'
    have l1 := dps_len hA
    have l2 := dps_len hA'
    obtain ⟨m', rfl⟩ : ∃ m', k = m' + 1 := by cases k with | zero => exact hw.elim | succ m' => exact ⟨m', rfl⟩
    obtain ⟨hl, hm⟩ : ds.length ≤ 100000 ∧ ∀ d ∈ ds, wd 100000 m' d := hw
    refine r_nocut ?_; walk_at "go"
    refine r_nocut ?_; walk_at "go"
    refine r_nocut ?_; walk_at "go"
    refine r_nocut ?_; walk_at "go"
    refine r_nocut ?_; walk_at "go"
    walk_at "br"; walk_at "go"
    walk_at "br"; walk_at "go"
    refine r_nocut ?_; walk_at "go"
    refine ite_nF (by omega) ?_; walk_at "go"
    refine r_nocut ?_; walk_at "go"
    refine ⟨_, rfl, by omega, by omega, ?_⟩
    refine for_range (lo := 0) (n := ys.length) (fun i σ' H' => H' = H ∧ ∃ x, σ' = [some (.ref a), some (.ref b), x]) ⟨rfl, none, rfl⟩ ?_ ?_
    · rintro i σ' H' hi ⟨rfl, x, rfl⟩
      have hid : i < ds.length := by omega
      have hd : ds[i]? = some ds[i] := List.getElem?_eq_getElem hid
      have hmd := hm _ (List.getElem_mem hid)
      generalize ds[i] = d at hd hmd
      obtain ⟨u, hu, du⟩ := dps_get hA hd
      obtain ⟨v, hv, dv⟩ := dps_get hA' hd
      have ei : ((0 : Int) + (i : Nat)) = ((i : Nat) : Int) := by omega
      rw [ei]
      walk_at "go"
      refine ⟨u, v, d, rfl, du, dv, ⟨m', rfl, hmd⟩, ?_⟩
      walk_at "go"
      exact ⟨rfl, _, rfl⟩
    · rintro σ' H' ⟨rfl, x, rfl⟩
      walk_at "go"
      exact q
  | @tup a xs ds hs hA =>
    cases hy with
    | @tup b ys _ hs' hA' =>
    have h1 : Dp K H (.ref a) (.tuple ds) := .tup hs hA
    have h2 : Dp K H (.ref b) (.tuple ds) := .tup hs' hA'
    have l1 := dps_len hA
    have l2 := dps_len hA'
    obtain ⟨m', rfl⟩ : ∃ m', k = m' + 1 := by cases k with | zero => exact hw.elim | succ m' => exact ⟨m', rfl⟩
    obtain ⟨hl, hm⟩ : ds.length ≤ 100000 ∧ ∀ d ∈ ds, wd 100000 m' d := hw
    refine r_nocut ?_; walk_at "go"
    refine r_nocut ?_; walk_at "go"
    refine r_nocut ?_; walk_at "go"
    refine r_nocut ?_; walk_at "go"
    refine r_nocut ?_; walk_at "go"
    walk_at "br"; walk_at "go"
    walk_at "br"; walk_at "go"
    refine r_nocut ?_; walk_at "go"
    refine ite_nF (by omega) ?_; walk_at "go"
    refine r_nocut ?_; walk_at "go"
    refine ⟨_, rfl, by omega, by omega, ?_⟩
    refine for_range (lo := 0) (n := ys.length) (fun i σ' H' => H' = H ∧ ∃ x, σ' = [some (.ref a), some (.ref b), x]) ⟨rfl, none, rfl⟩ ?_ ?_
    · rintro i σ' H' hi ⟨rfl, x, rfl⟩
      have hid : i < ds.length := by omega
      have hd : ds[i]? = some ds[i] := List.getElem?_eq_getElem hid
      have hmd := hm _ (List.getElem_mem hid)
      generalize ds[i] = d at hd hmd
      obtain ⟨u, hu, du⟩ := dps_get hA hd
      obtain ⟨v, hv, dv⟩ := dps_get hA' hd
      have ei : ((0 : Int) + (i : Nat)) = ((i : Nat) : Int) := by omega
      rw [ei]
      walk_at "go"
      refine ⟨u, v, d, rfl, du, dv, ⟨m', rfl, hmd⟩, ?_⟩
      walk_at "go"
      exact ⟨rfl, _, rfl⟩
    · rintro σ' H' ⟨rfl, x, rfl⟩
      walk_at "go"
      exact q
theorem same_none : FnOk P w K mg base CX0 0 f fd ["_law_actual", "_law_due_here"] (sp_same K 0) := by
  have no : ∀ vs H Q E, ¬ sp_same K 0 vs H Q E := fun vs H Q E h => by obtain ⟨x, y, d, rfl, _, _, ⟨k, hk, _⟩, _⟩ := h; omega
  exact ⟨fun vs H Q E h => absurd h (no vs H Q E), fun A outer s H args us vs Q E _ _ _ _ h => absurd h (no vs H Q E)⟩
theorem ok__law_same (D__law_same : Def K mg "_law_same" s__law_same ["_law_actual", "_law_due_here"] f fd) (B : Blt mg) : ∀ n : Nat, FnOk P w K mg base CX0 n f fd ["_law_actual", "_law_due_here"] (sp_same K n)
  | 0 => same_none
  | n + 1 => ok__law_same_step D__law_same B (fun m hm => by
      obtain rfl : m = n := by omega
      exact ok__law_same D__law_same B m) (by omega)
end


set_option maxHeartbeats 8000000
section
variable {P : Program} {w : World} {K : PySem.W.Frag} {mg : Str → Option Value} {base : Heap} {f : Addr} {fd : FuncData} {n : Nat}
theorem all_filter (l : List Nat) : (((l.filter fun c => !alB c).map fun c => PyData.str ⟨#[c]⟩).isEmpty) = l.all alB := by
  induction l with
  | nil => rfl
  | cons c r ih =>
    cases h : alB c <;> simp_all [List.filter_cons]
def sp_isnf : Sp := fun vs H Q _ => ∃ z : Str, vs = [.str z] ∧ z.length ≤ 100000 ∧ (∀ c ∈ tl z, c < 1114112) ∧ ∀ H', Ex H H' → Q (.bl (isRun (tl z))) H'
theorem ok_is_name_form (D : Def K mg "is_name_form" s_is_name_form ["run"] f fd) (B : Blt mg) (C_LONGEST : Cst mg "LONGEST" (.int 12)) (C_SMALL : Cst mg "SMALL" (.str "abcdefghijklmnopqrstuvwxyz")) (C_DIGITS : Cst mg "DIGITS" (.str "0123456789")) :
    FnOk P w K mg base CX0 (n + 1) f fd ["run"] sp_isnf := by
  refine D.F.ok sc_is_name_form (fun vs H Q E h => ?_) (fun cdv A outer s H vs Q E hr h => ?_)
  · obtain ⟨z, rfl, _⟩ := h; rfl
  obtain ⟨z, rfl, hz, hs, q⟩ := h
  refine ⟨_, (pss_cut (ps_if (PW.pt (pw_or (pt_cmpR (op_eqU (K := K) (u64 hr)) (pv 0) pe_str (nomark _)) (pw_or (pt_cmpR (op_gtU) (pe_callB (c_len (K := K)) (by rfl) B.len PySem.boot_len (pa_cons (pv 0) pa_nil)) (pe_cst (by rfl) C_LONGEST) (nomark _)) (pw_or1 (pt_cmpR (op_notInU (K := K) (u65 hr)) (pe_ix (ix_u (K := K)) (pv 0) pe_int (fun _ _ => rfl)) (pe_cst (by rfl) C_SMALL) (by rfl)))))) (pss_one (ps_ret pe_bl)) pss_nil)
      (pss_one (ps_ret (pe_cmpR (op_eqU (K := K) (u64 hr)) (pe_lc (own := [("char", 1)]) (g := gName 1) rfl sc_is_name_form.nd (pi_any (K := K) (pv 0)) (blkOk_by (own := [("char", 1)]) (N := ["run", "char"]) (sc := defScope s_is_name_form) (by decide +kernel)) (fun _ _ _ _ _ => (pg_name (i := 1) sc_is_name_form.nd rfl (.inl rfl))) (fun _ _ _ _ _ => (pts_one (PW.pt (pw_and (pt_cmpR (op_notInU (K := K) (u65 hr)) (pv 1) (pe_cst (by rfl) C_SMALL) (by rfl)) (pw_and1 (pt_cmpR (op_notInU (K := K) (u65 hr)) (pv 1) (pe_cst (by rfl) C_DIGITS) (by rfl))))))) (fun _ _ _ _ _ => (pv 1))) (pe_lst pa_nil) (nomark _))))), ?_⟩
  have hzl : z.length ≤ sizeLine := Nat.le_trans hz (by decide)
  refine r_cut (fun σ' H' => σ' = [some (.str z), none] ∧ H' = H ∧ isRun (tl z) = (tl z).all alB) ?_ ?_
  · walk_at "go"
    refine ite_d (fun h => ?_) (fun h => ?_)
    · subst h
      walk_at "go"
      have := q H (Ex.refl _)
      exact this
    · have hne : tl z ≠ [] := fun e => h (ext_tl e)
      walk_at "go"
      refine ite_d (fun h12 => ?_) (fun h12 => ?_)
      · walk_at "go"
        have := q H (Ex.refl _)
        have e : isRun (tl z) = false := by
          unfold isRun
          rw [decide_eq_true (show 12 < (tl z).length by rw [← len_tl]; omega)]; simp
        rw [e] at this
        exact this
      · obtain ⟨c, r, hc⟩ := List.exists_cons_of_ne_nil hne
        walk_at "go"
        refine r_ixS hzl (show atI (tl z) 0 = some c from atI_nat (j := 0) (by rw [hc]; rfl)) ?_
        walk_at "go"
        rw [small_iff]
        have e9 : decide (12 < (tl z).length) = false := decide_eq_false (by rw [← len_tl]; omega)
        refine ite_nd (fun h0 => ?_) (fun h0 => ?_)
        · walk_at "go"
          have := q H (Ex.refl _)
          have e : isRun (tl z) = false := by
            unfold isRun
            rw [hc, show decide (sm ((c :: r).headD 0)) = false from decide_eq_false h0]; simp
          rw [e] at this
          exact this
        · walk_at "go"
          refine ⟨rfl, rfl, ?_⟩
          unfold isRun
          rw [e9, hc, show decide (sm ((c :: r).headD 0)) = true from decide_eq_true h0]; simp
  · rintro σ H' ⟨rfl, rfl, he⟩
    walk_at "go"
    intro p np
    refine lc_text (fun i H2 => Ex H' H2 ∧ H2 p = some (.lst (((tl z).take i).filter (fun c => !alB c) |>.map fun c => V.str ⟨#[c]⟩))) ⟨Ex.new np, upd_same⟩ ?_ ?_
    · rintro i c H2 hc ⟨e2, hp⟩
      have ht : (tl z).take (i + 1) = (tl z).take i ++ [c] := by rw [List.take_add_one, hc]; rfl
      have yes : alB c = true → H2 p = some (.lst (((tl z).take (i + 1)).filter (fun c => !alB c) |>.map fun c => V.str ⟨#[c]⟩)) := fun hd => by
        rw [hp, ht, List.filter_append, List.filter_cons, hd]; simp
      walk_at "go"
      rw [small_iff]
      refine ite_nd (fun h => ?_) (fun h => ?_)
      · walk_at "go"
        rw [digit_iff]
        refine ite_nd (fun h' => ?_) (fun h' => ?_)
        · have hd : alB c = false := decide_eq_false (fun e => e.elim h h')
          walk_at "go"
          refine ⟨_, hp, ?_, Evl.Ex.mut e2 np, ?_⟩
          · rw [List.length_map]
            have := List.length_filter_le (fun c => !alB c) (List.take i (tl z))
            have h3 : (List.take i (tl z)).length ≤ (tl z).length := List.length_take_le' _ _
            rw [← len_tl] at h3
            rw [sizeLine_eq]; omega
          · rw [upd_same, ht, List.filter_append, List.map_append, List.filter_cons, hd]; rfl
        · walk_at "go"
          exact ⟨e2, yes (decide_eq_true (.inr h'))⟩
      · walk_at "go"
        exact ⟨e2, yes (decide_eq_true (.inl h))⟩
    · rintro H2 ⟨e2, hp⟩
      rw [List.take_of_length_le (by rw [len_tl]; exact Nat.le_refl _)] at hp
      walk_at "go"
      refine ⟨by walk_at "sz", fun p2 np2 => ?_⟩
      refine r_eqD rfl (dp_mono (Ex.new np2) (.lst (SqL.of hp) (dps_signs _))) (.lst (SqL.of upd_same) .nil) (signs_shaped _ fun c hc => hs c (List.mem_filter.mp hc).1) nil_shaped ?_
      rw [eqv_nil, all_filter]
      have := q (upd H2 p2 (.lst [])) (e2.trans (Ex.new np2))
      rw [he] at this
      exact this
def sp_runend : Sp := fun vs H Q _ => ∃ (z : Str) (p : Nat), vs = [.str z, .int (p : Nat)] ∧ z.length ≤ 100000 ∧ p ≤ z.length ∧ Q (.int ((p + (runOf ((tl z).drop p)).length : Nat) : Int)) H
theorem ok_run_end (D : Def K mg "run_end" s_run_end ["text", "start"] f fd) (B : Blt mg) (C_SMALL : Cst mg "SMALL" (.str "abcdefghijklmnopqrstuvwxyz")) (C_DIGITS : Cst mg "DIGITS" (.str "0123456789")) :
    FnOk P w K mg base CX0 (n + 1) f fd ["text", "start"] sp_runend := by
  refine D.F.ok sc_run_end (fun vs H Q E h => ?_) (fun cdv A outer s H vs Q E hr h => ?_)
  · obtain ⟨z, p, rfl, _⟩ := h; rfl
  obtain ⟨z, p, rfl, hz, hp, q⟩ := h
  refine ⟨_, (pss_cons (ps_set (i := 2) sc_run_end.nd rfl (.inl rfl) (pv 1))
      (pss_cut (ps_while PassesOwn.never (PW.pt (pw_and (pt_cmpR (op_ltU) (pv 2) (pe_callB (c_len (K := K)) (by rfl) B.len PySem.boot_len (pa_cons (pv 0) pa_nil)) (nomark _)) (pw_and1 (PW.pt (pw_or (pt_cmpR (op_inU (K := K) (u65 hr)) (pe_ix (ix_u (K := K)) (pv 0) (pv 2) (fun _ _ => rfl)) (pe_cst (by rfl) C_SMALL) (by rfl)) (pw_or1 (pt_cmpR (op_inU (K := K) (u65 hr)) (pe_ix (ix_u (K := K)) (pv 0) (pv 2) (fun _ _ => rfl)) (pe_cst (by rfl) C_DIGITS) (by rfl)))))))) (pss_one (ps_aug (i := 2) sc_run_end.nd rfl (.inl rfl) pe_int ip_add)))
      (pss_one (ps_ret (pv 2))))), ?_⟩
  have hzl : z.length ≤ sizeLine := Nat.le_trans hz (by decide)
  walk_at "go"
  refine r_nocut ?_
  have hL : ((tl z).drop p).length = z.length - p := by rw [List.length_drop, ← len_tl]
  have hrl := runOf_le ((tl z).drop p)
  refine r_while (fun m σ' H' => ∃ k : Nat, H' = H ∧ σ' = [some (.str z), some (.int (p : Nat)), some (.int ((p + k : Nat) : Int))] ∧ k ≤ (runOf ((tl z).drop p)).length ∧ m + k = (runOf ((tl z).drop p)).length) (runOf ((tl z).drop p)).length ⟨0, rfl, rfl, Nat.zero_le _, rfl⟩ ?_
  rintro m σ' H' ⟨k, rfl, rfl, hk, hm⟩
  have fin : k = (runOf ((tl z).drop p)).length → Q (.int ((p + k : Nat) : Int)) H' := fun e => by rw [e]; exact q
  walk_at "go"
  refine ite_d (fun h => ?_) (fun h => ?_)
  · have hlt : k < ((tl z).drop p).length := by omega
    have hc : ((tl z).drop p)[k]? = some ((tl z).drop p)[k] := List.getElem?_eq_getElem hlt
    generalize ((tl z).drop p)[k] = c at hc
    obtain ⟨s1, s2⟩ := run_step hk hc
    have hat : atI (tl z) ((p + k : Nat) : Int) = some c := atI_nat (by rw [List.getElem?_drop] at hc; exact hc)
    have next : al c → ∃ m', m' < m ∧ ∃ k' : Nat, H' = H' ∧ [some (V.str z), some (.int (p : Nat)), some (.int ((p + k : Nat) + 1 : Int))] = [some (V.str z), some (.int (p : Nat)), some (.int ((p + k' : Nat) : Int))] ∧ k' ≤ (runOf ((tl z).drop p)).length ∧ m' + k' = (runOf ((tl z).drop p)).length := fun ha => by
      have := s1 ha
      exact ⟨m - 1, by omega, k + 1, rfl, rfl, this, by omega⟩
    walk_at "go"
    refine r_ixS hzl hat ?_
    walk_at "go"
    rw [small_iff]
    refine ite_d (fun h1 => ?_) (fun h1 => ?_)
    · walk_at "go"
      refine r_turn ?_
      walk_at "go"
      exact next (.inl h1)
    · walk_at "go"
      refine r_ixS hzl hat ?_
      walk_at "go"
      rw [digit_iff]
      refine ite_d (fun h2 => ?_) (fun h2 => ?_)
      · refine r_turn ?_
        walk_at "go"
        exact next (.inr h2)
      · walk_at "go"
        exact fin (s2 fun e => e.elim h1 h2)
  · walk_at "go"
    exact fin (by omega)
end

set_option maxHeartbeats 8000000
section
variable {P : Program} {w : World} {K : PySem.W.Frag} {mg : Str → Option Value} {base : Heap} {f : Addr} {fd : FuncData} {n : Nat}
def sp_runtok (K : PySem.W.Frag) : Sp := fun vs H Q _ => ∃ (r : List Nat) (p : Nat), vs = [.str (mk r), .int (p : Nat)] ∧ isRun r = true ∧ ∀ v H', Ex H H' → Dp K H' v (tokD ⟨kindOf r, r, p⟩) → Q v H'
theorem isRun_len {r : List Nat} (h : isRun r = true) : r.length ≤ 12 := by
  unfold isRun at h
  rw [Bool.and_eq_true, Bool.not_eq_true', Bool.or_eq_false_iff, Bool.or_eq_false_iff] at h
  have := h.1.1.2
  rw [decide_eq_false_iff_not] at this
  omega
theorem al_small {c : Nat} (h : al c) : c < 1114112 := by rcases h with ⟨h1, h2⟩ | ⟨h1, h2⟩ <;> omega
theorem ok_run_token {gi : Addr} {gid : FuncData} {aW : Addr} (D : Def K mg "run_token" s_run_token ["run", "start"] f fd) (B : Blt mg) (C_WORDS : Cst mg "WORDS" (.ref aW)) (hW : ∀ H, SqT K H aW (wordsS.map V.str))
    (D_is_name_form : Def K mg "is_name_form" s_is_name_form ["run"] gi gid) (G_is_name_form : FnOk P w K mg base CX0 n gi gid ["run"] sp_isnf) :
    FnOk P w K mg base CX0 (n + 1) f fd ["run", "start"] (sp_runtok K) := by
  refine D.F.ok sc_run_token (fun vs H Q E h => ?_) (fun cdv A outer s H vs Q E hr h => ?_)
  · obtain ⟨r, p, rfl, _⟩ := h; rfl
  obtain ⟨r, p, rfl, hR, q⟩ := h
  refine ⟨_, (pss_cut (ps_if (pt_not (pt_truthU (K := K) (pe_call G_is_name_form hr (by rfl) D_is_name_form.m D_is_name_form.F.kp D_is_name_form.b .nil pass0 (pa_cons (pv 0) pa_nil)) (by intro _; rfl))) (pss_one ps_never) pss_nil)
      (pss_cut (ps_if (pt_cmpR (op_inU (K := K) (u65 hr)) (pv 0) (pe_cst (by rfl) C_WORDS) (by rfl)) (pss_one (ps_ret (pe_tup (pa_cons pe_str (pa_cons (pv 0) (pa_cons (pv 1) pa_nil)))))) pss_nil)
      (pss_one (ps_ret (pe_tup (pa_cons pe_str (pa_cons (pv 0) (pa_cons (pv 1) pa_nil)))))))), ?_⟩
  refine r_nocut ?_
  walk_at "go"
  refine ⟨_, rfl, by rw [mk_len]; have := isRun_len hR; omega, fun c hc => al_small (isRun_al hR c hc), fun H1 e1 => ?_⟩
  rw [tl_mk, hR]
  walk_at "go"
  refine r_nocut ?_
  walk_at "go"
  refine r_inL (.inr (hW H1)) rfl (flat_strs _) ?_
  rw [inV_strs]
  walk_at "go"
  refine ite_d (fun h => ?_) (fun h => ?_)
  · walk_at "go"
    refine ⟨by walk_at "sz", fun t nt => ?_⟩
    refine q _ _ (e1.trans (Ex.new nt)) ?_
    have : kindOf r = "word" := if_pos h
    rw [this]
    exact .tup (SqT.of upd_same) (.cons (.str _) (.cons (.str _) (.cons (.int _) .nil)))
  · walk_at "go"
    refine ⟨by walk_at "sz", fun t nt => ?_⟩
    refine q _ _ (e1.trans (Ex.new nt)) ?_
    have : kindOf r = "name" := if_neg h
    rw [this]
    exact .tup (SqT.of upd_same) (.cons (.str _) (.cons (.str _) (.cons (.int _) .nil)))
def sp_tokenize (K : PySem.W.Frag) : Sp := fun vs H Q _ => ∃ (z : Str) (ts : List PL.Tok), vs = [.str z] ∧ z.length ≤ 100000 ∧ scan z.length 0 (tl z) = some ts ∧ ∀ p H', Ex H H' → H p = none → (∃ vs, H' p = some (.lst vs) ∧ DpAll K H' vs (ts.map tokD)) → Q (.ref p) H'
theorem ok_tokenize {gr ge : Addr} {grd ged : FuncData} (D : Def K mg "tokenize" s_tokenize ["text"] f fd) (B : Blt mg) (C_SMALL : Cst mg "SMALL" (.str "abcdefghijklmnopqrstuvwxyz")) (C_DIGITS : Cst mg "DIGITS" (.str "0123456789")) (C_MARKS : Cst mg "MARKS" (.str "(){},;:|"))
    (D_run_end : Def K mg "run_end" s_run_end ["text", "start"] ge ged) (G_run_end : FnOk P w K mg base CX0 n ge ged ["text", "start"] sp_runend)
    (D_run_token : Def K mg "run_token" s_run_token ["run", "start"] gr grd) (G_run_token : FnOk P w K mg base CX0 n gr grd ["run", "start"] (sp_runtok K)) :
    FnOk P w K mg base CX0 (n + 1) f fd ["text"] (sp_tokenize K) := by
  refine D.F.ok sc_tokenize (fun vs H Q E h => ?_) (fun cdv A outer s H vs Q E hr h => ?_)
  · obtain ⟨z, ts, rfl, _⟩ := h; rfl
  obtain ⟨z, ts, rfl, hz, hsc, q⟩ := h
  refine ⟨_, (pss_cons (ps_set (i := 1) sc_tokenize.nd rfl (.inl rfl) (pe_lst pa_nil))
      (pss_cons (ps_set (i := 2) sc_tokenize.nd rfl (.inl rfl) pe_int)
      (pss_cut (ps_while PassesOwn.never (pt_cmpR (op_ltU) (pv 2) (pe_callB (c_len (K := K)) (by rfl) B.len PySem.boot_len (pa_cons (pv 0) pa_nil)) (nomark _)) (pss_cons (ps_set (i := 3) sc_tokenize.nd rfl (.inl rfl) (pe_ix (ix_u (K := K)) (pv 0) (pv 2) (fun _ _ => rfl)))
      (pss_one (ps_if (PW.pt (pw_or (pt_cmpR (op_eqU (K := K) (u64 hr)) (pv 3) pe_str (nomark _)) (pw_or1 (pt_cmpR (op_eqU (K := K) (u64 hr)) (pv 3) pe_str (nomark _))))) (pss_one (ps_aug (i := 2) sc_tokenize.nd rfl (.inl rfl) pe_int ip_add)) (pss_one (ps_if (PW.pt (pw_or (pt_cmpR (op_inU (K := K) (u65 hr)) (pv 3) (pe_cst (by rfl) C_SMALL) (by rfl)) (pw_or1 (pt_cmpR (op_inU (K := K) (u65 hr)) (pv 3) (pe_cst (by rfl) C_DIGITS) (by rfl))))) (pss_cons (ps_set (i := 4) sc_tokenize.nd rfl (.inl rfl) (pe_call G_run_end hr (by rfl) D_run_end.m D_run_end.F.kp D_run_end.b .nil pass0 (pa_cons (pv 0) (pa_cons (pv 2) pa_nil))))
      (pss_cons (ps_expr (uBM_mk (K := K) (pe_bm PySem.F.plainAttrs_list PySem.F.slot_list_append PySem.F.type_list_append mt_append (pv 1) (pa_cons (pe_call G_run_token hr (by rfl) D_run_token.m D_run_token.F.kp D_run_token.b .nil pass0 (pa_cons (pe_slice (sl_u (K := K)) (pv 0) (po_some (pv 2)) (po_some (pv 4))) (pa_cons (pv 2) pa_nil))) pa_nil))))
      (pss_one (ps_set (i := 2) sc_tokenize.nd rfl (.inl rfl) (pv 4))))) (pss_one (ps_if (pt_cmpR (op_eqU (K := K) (u64 hr)) (pe_slice (sl_u (K := K)) (pv 0) (po_some (pv 2)) (po_some (pe_op (op_addU (K := K)) (pv 2) pe_int))) pe_str (nomark _)) (pss_cons (ps_expr (uBM_mk (K := K) (pe_bm PySem.F.plainAttrs_list PySem.F.slot_list_append PySem.F.type_list_append mt_append (pv 1) (pa_cons (pe_tup (pa_cons pe_str (pa_cons pe_str (pa_cons (pv 2) pa_nil)))) pa_nil))))
      (pss_one (ps_aug (i := 2) sc_tokenize.nd rfl (.inl rfl) pe_int ip_add))) (pss_one (ps_if (pt_cmpR (op_inU (K := K) (u65 hr)) (pv 3) (pe_cst (by rfl) C_MARKS) (by rfl)) (pss_cons (ps_expr (uBM_mk (K := K) (pe_bm PySem.F.plainAttrs_list PySem.F.slot_list_append PySem.F.type_list_append mt_append (pv 1) (pa_cons (pe_tup (pa_cons pe_str (pa_cons (pv 3) (pa_cons (pv 2) pa_nil)))) pa_nil))))
      (pss_one (ps_aug (i := 2) sc_tokenize.nd rfl (.inl rfl) pe_int ip_add))) (pss_one ps_never)))))))))))
      (pss_one (ps_ret (pv 1)))))), ?_⟩
  have hzl : z.length ≤ sizeLine := Nat.le_trans hz (by decide)
  walk_at "go"
  refine ⟨Nat.zero_le _, fun fo nf => ?_⟩
  walk_at "go"
  refine r_nocut ?_
  refine r_while (fun m σ' H' => ∃ (p : Nat) (x3 x4 : Option V) (vs : List V) (done rest : List PL.Tok), σ' = [some (.str z), some (.ref fo), some (.int (p : Nat)), x3, x4] ∧ Ex H H' ∧ H' fo = some (.lst vs) ∧ DpAll K H' vs (done.map tokD) ∧ done.length ≤ p ∧
    p ≤ z.length ∧ m = z.length - p ∧ ts = done ++ rest ∧ scan z.length p ((tl z).drop p) = some rest) z.length ⟨0, none, none, [], [], ts, rfl, Ex.new nf, upd_same, .nil, Nat.le_refl _, Nat.zero_le _, rfl, rfl, hsc⟩ ?_
  rintro m σ' H' ⟨p, x3, x4, vs, done, rest, rfl, ee, hfo, hd, hdp, hp, hm, hts, hrest⟩
  walk_at "go"
  refine ite_d (fun h => ?_) (fun h => ?_)
  · have hlt : p < (tl z).length := by rw [← len_tl]; omega
    have hdr : (tl z).drop p = (tl z)[p] :: (tl z).drop (p + 1) := List.drop_eq_getElem_cons hlt
    have hc : (tl z)[p]? = some (tl z)[p] := List.getElem?_eq_getElem hlt
    generalize (tl z)[p] = c at hc hdr
    have hat : atI (tl z) ((p : Nat) : Int) = some c := atI_nat hc
    rw [hdr] at hrest
    obtain ⟨fu, hfu⟩ : ∃ fu, z.length = fu + 1 := ⟨z.length - 1, by omega⟩
    rw [hfu] at hrest
    have hrest' : (if c = 32 ∨ c = 10 then scan fu (p + 1) ((tl z).drop (p + 1))
      else if al c then
        if isRun (runOf (c :: (tl z).drop (p + 1))) = true then (scan fu (p + (runOf (c :: (tl z).drop (p + 1))).length) ((c :: (tl z).drop (p + 1)).drop (runOf (c :: (tl z).drop (p + 1))).length)).map (⟨kindOf (runOf (c :: (tl z).drop (p + 1))), runOf (c :: (tl z).drop (p + 1)), p⟩ :: ·) else none
      else if c = 45 ∧ ((tl z).drop (p + 1)).headD 0 = 62 then (scan fu (p + 2) ((tl z).drop (p + 1)).tail).map (⟨"mark", [45, 62], p⟩ :: ·)
      else if c ∈ marks1 then (scan fu (p + 1) ((tl z).drop (p + 1))).map (⟨"mark", [c], p⟩ :: ·)
      else none) = some rest := hrest
    clear hrest
    have up : ∀ {p' : Nat} {l : List Nat} {ts'}, scan fu p' l = some ts' → scan z.length p' l = some ts' := fun h => scan_more _ _ _ _ _ (by omega) h
    have hvl := dps_len hd
    rw [List.length_map] at hvl
    refine r_turn ?_
    walk_at "go"
    refine r_ixS hzl hat ?_
    walk_at "go"
    have blank : c = 32 ∨ c = 10 → _ := fun hb => (show scan fu (p + 1) ((tl z).drop (p + 1)) = some rest by rw [if_pos hb] at hrest'; exact hrest')
    have e32 : (({ cps := #[c] } : Str) = Str.ofString " ") ↔ c = 32 := ⟨fun e => by have := congrArg tl e; rw [tl_ofString] at this; injection this, fun e => by subst e; rfl⟩
    have e10 : (({ cps := #[c] } : Str) = Str.ofString "\n") ↔ c = 10 := ⟨fun e => by have := congrArg tl e; rw [tl_ofString] at this; injection this, fun e => by subst e; rfl⟩
    refine ite_d (fun h1 => ?_) (fun h1 => ?_)
    · walk_at "go"
      exact ⟨m - 1, by omega, p + 1, _, _, vs, done, rest, rfl, ee, hfo, hd, by omega, by omega, by omega, hts, up (blank (.inl (e32.mp h1)))⟩
    walk_at "go"
    refine ite_d (fun h2 => ?_) (fun h2 => ?_)
    · walk_at "go"
      exact ⟨m - 1, by omega, p + 1, _, _, vs, done, rest, rfl, ee, hfo, hd, by omega, by omega, by omega, hts, up (blank (.inr (e10.mp h2)))⟩
    have nb : ¬ (c = 32 ∨ c = 10) := fun e => e.elim (fun e => h1 (e32.mpr e)) fun e => h2 (e10.mpr e)
    rw [if_neg nb] at hrest'
    walk_at "go"
    rw [small_iff]
    by_cases ha : al c
    · rw [if_pos ha] at hrest'
      have hrl := runOf_le (c :: (tl z).drop (p + 1))
      rw [List.length_cons, List.length_drop, ← len_tl] at hrl
      have hR : isRun (runOf (c :: (tl z).drop (p + 1))) = true := by
        cases hh : isRun (runOf (c :: (tl z).drop (p + 1))) with
        | true => rfl
        | false => rw [hh] at hrest'; cases hrest'
      rw [if_pos hR] at hrest'
      obtain ⟨rest', hr1, hr2⟩ := Option.map_eq_some_iff.mp hrest'
      rw [← hdr] at hR hr1 hr2 hrl
      have hpos : 0 < (runOf ((tl z).drop p)).length := List.length_pos_iff.mpr (isRun_ne hR)
      have htk := runOf_take ((tl z).drop p)
      rw [List.drop_drop] at hr1
      rcases ha with h3 | h3
      refine ite_T h3 ?_
      rotate_left
      refine ite_F (by omega) ?_
      walk_at "go"
      rw [digit_iff]
      refine ite_T h3 ?_
      all_goals walk_at "go"
      all_goals refine ⟨z, p, rfl, hz, by omega, ?_⟩
      all_goals walk_at "go"
      all_goals rw [cutS_both (by omega) (by omega), Nat.add_sub_cancel_left, htk]
      all_goals refine ⟨_, p, rfl, hR, fun v H4 e4 dv => ?_⟩
      all_goals have hfo4 := e4 _ _ hfo
      all_goals walk_at "go"
      all_goals refine ⟨z.length - (p + (runOf ((tl z).drop p)).length), by omega, p + (runOf ((tl z).drop p)).length, _, _, vs ++ [v], done ++ [⟨kindOf (runOf ((tl z).drop p)), runOf ((tl z).drop p), p⟩], rest', rfl, (ee.trans e4).mut nf, upd_same, ?_, by rw [List.length_append, List.length_singleton]; omega, by omega, rfl, by rw [hts, ← hr2, List.append_assoc]; rfl, up hr1⟩
      all_goals rw [List.map_append]
      all_goals exact dps_app (dps_keep (TEx.fr hfo4 .upd) (toks_no done) (dps_mono e4 hd)) (.cons (dp_keep (TEx.fr hfo4 .upd) rfl dv) .nil)
    · rw [if_neg ha] at hrest'
      refine ite_F (fun e => ha (.inl e)) ?_
      walk_at "go"
      rw [digit_iff]
      refine ite_F (fun e => ha (.inr e)) ?_
      walk_at "go"
      rw [show ((p : Int) + 2) = ((p + 2 : Nat) : Int) by omega, cutS_any _ (by omega), Nat.add_sub_cancel_left, hdr]
      have arrow : (mk ((c :: (tl z).drop (p + 1)).take 2) = Str.ofString "->") ↔ (c = 45 ∧ ((tl z).drop (p + 1)).headD 0 = 62) := by
        have e1 : Str.ofString "->" = mk [45, 62] := rfl
        rw [e1, mk_inj]
        cases (tl z).drop (p + 1) with
        | nil => simp
        | cons y t => simp
      have fin : ∀ (H4 : Hp) (t : Addr) (cs : List Nat) (rest' : List PL.Tok) (p' : Nat) (x4 : Option V), Ex H' H4 → SqT K H4 t [.str "mark", .str (mk cs), .int (p : Nat)] → rest = ⟨"mark", cs, p⟩ :: rest' → p < p' → p' ≤ z.length → PL.scan fu p' ((tl z).drop p') = some rest' →
          ∃ m', m' < m ∧ ∃ (p'' : Nat) (x3 x4' : Option V) (vs' : List V) (done' rest'' : List PL.Tok), [some (V.str z), some (V.ref fo), some (V.int (p' : Nat)), some (.str ⟨#[c]⟩), x4] = [some (.str z), some (.ref fo), some (.int (p'' : Nat)), x3, x4'] ∧ Ex H (upd H4 fo (.lst (vs ++ [.ref t]))) ∧ (upd H4 fo (.lst (vs ++ [.ref t]))) fo = some (.lst vs') ∧
            DpAll K (upd H4 fo (.lst (vs ++ [.ref t]))) vs' (done'.map tokD) ∧ done'.length ≤ p'' ∧ p'' ≤ z.length ∧ m' = z.length - p'' ∧ ts = done' ++ rest'' ∧ PL.scan z.length p'' ((tl z).drop p'') = some rest'' := by
        intro H4 t cs rest' p' x4 e4 ht he h1 h2 h3
        have hfo4 := e4 _ _ hfo
        refine ⟨z.length - p', by omega, p', _, _, vs ++ [.ref t], done ++ [⟨"mark", cs, p⟩], rest', rfl, (ee.trans e4).mut nf, upd_same, ?_, by rw [List.length_append, List.length_singleton]; omega, h2, rfl, by rw [hts, he, List.append_assoc]; rfl, up h3⟩
        rw [List.map_append]
        exact dps_app (dps_keep (TEx.fr hfo4 .upd) (toks_no done) (dps_mono e4 hd)) (.cons (dp_keep (TEx.fr hfo4 .upd) rfl (.tup ht (.cons (.str _) (.cons (.str _) (.cons (.int _) .nil))))) .nil)
      refine ite_d (fun h5 => ?_) (fun h5 => ?_)
      · rw [if_pos (arrow.mp h5)] at hrest'
        obtain ⟨rest', hr1, hr2⟩ := Option.map_eq_some_iff.mp hrest'
        have hlt2 : p + 1 < z.length := by
          have := (arrow.mp h5).2
          have h6 : ((tl z).drop (p + 1)).length ≠ 0 := fun e => by rw [List.eq_nil_of_length_eq_zero e] at this; simp at this
          rw [List.length_drop, ← len_tl] at h6; omega
        rw [List.tail_drop] at hr1
        walk_at "go"
        refine ⟨by walk_at "sz", fun t nt => ?_⟩
        have e4 := Ex.new (o := HO.tup [.str "mark", .str "->", .int (p : Nat)]) nt
        have hfo4 := e4 _ _ hfo
        walk_at "go"
        exact fin _ t [45, 62] rest' (p + 2) _ e4 (SqT.of upd_same) hr2.symm (by omega) (by omega) hr1
      · rw [if_neg fun e => h5 (arrow.mpr e)] at hrest'
        walk_at "go"
        rw [marks_iff]
        have hmk : c ∈ marks1 := by
          by_cases hm : c ∈ marks1
          · exact hm
          · rw [if_neg hm] at hrest'; cases hrest'
        rw [if_pos hmk] at hrest'
        obtain ⟨rest', hr1, hr2⟩ := Option.map_eq_some_iff.mp hrest'
        refine ite_T hmk ?_
        walk_at "go"
        refine ⟨by walk_at "sz", fun t nt => ?_⟩
        have e4 := Ex.new (o := HO.tup [.str "mark", .str ⟨#[c]⟩, .int (p : Nat)]) nt
        have hfo4 := e4 _ _ hfo
        walk_at "go"
        exact fin _ t [c] rest' (p + 1) _ e4 (SqT.of upd_same) hr2.symm (by omega) (by omega) hr1
  · have e0 : p = z.length := by omega
    subst e0
    rw [List.drop_of_length_le (by rw [len_tl]; exact Nat.le_refl _)] at hrest
    have : rest = [] := by simpa [PL.scan] using hrest.symm
    subst this
    rw [List.append_nil] at hts
    walk_at "go"
    exact q fo H' ee nf ⟨vs, hfo, by rw [hts]; exact hd⟩
end

set_option maxHeartbeats 8000000
section
variable {P : Program} {w : World} {K : PySem.W.Frag} {mg : Str → Option Value} {base : Heap} {f : Addr} {fd : FuncData} {n : Nat}
/-! ### names that are drawn -/
def qn (k : Nat) : List Nat := 113 :: numL k
theorem qn_inj {i j : Nat} (h : qn i = qn j) : i = j := numL_inj (by injection h)
theorem qn_nm {k : Nat} (h : k ≤ 1000000) : IsNm (qn k) := by
  have h1 := numL_len (n := k) (k := 7) (by decide) (by omega)
  have h2 := numL_digits k
  refine ⟨by simp [qn], by simp only [qn, List.length_cons]; omega, fun c hc => ?_, fun c hc => ?_, ?_⟩
  · cases hc; decide
  · rcases List.mem_cons.mp hc with rfl | hc
    · exact .inl (by decide)
    · have := h2 c hc; exact .inr (by omega)
  · intro hm
    have : ∀ x ∈ wordsS, (tl x).headD 0 ≠ 113 := by decide +kernel
    exact this _ hm rfl
/-- one of the first names is free -/
theorem qn_free (taken : List Str) : ∃ k, k ≤ taken.length ∧ mk (qn k) ∉ taken := by
  by_cases h : ∃ k, k ≤ taken.length ∧ mk (qn k) ∉ taken
  · exact h
  · exfalso
    have hall : ∀ k, k < taken.length + 1 → mk (qn k) ∈ taken := fun k hk => by
      by_cases hm : mk (qn k) ∈ taken
      · exact hm
      · exact absurd ⟨k, by omega, hm⟩ h
    have nd : ((List.range (taken.length + 1)).map fun k => mk (qn k)).Nodup := by
      refine List.Pairwise.map _ ?_ List.nodup_range
      intro i j hij e
      exact hij (qn_inj (mk_inj.mp e))
    have sub : ((List.range (taken.length + 1)).map fun k => mk (qn k)) ⊆ taken := by
      intro x hx
      obtain ⟨k, hk, rfl⟩ := List.mem_map.mp hx
      exact hall k (List.mem_range.mp hk)
    have := nodup_sub nd fun x hx => sub hx
    rw [List.length_map, List.length_range] at this
    omega
def sp_name : Sp := fun vs H Q _ => ∃ (a c t : Addr) (taken : List Str), vs = [.ref a, .ref t] ∧ Src a c H ∧ H t = some (.lst (taken.map V.str)) ∧ taken.length ≤ 1000 ∧ ∀ (l : List Nat) H', IsNm l → mk l ∉ taken → Src a c H' → PL.Fr a H H' → Q (.str (mk l)) H'
theorem ok__law_name {gd : Addr} {gdd : FuncData} (D : Def K mg "_law_name" s__law_name ["_law_source_here", "_law_taken"] f fd) (B : Blt mg)
    (D__law_pick : Def K mg "_law_pick" s__law_pick ["_law_source_here", "_law_many"] gd gdd) (G__law_pick : FnOk P w K mg base CX0 n gd gdd ["_law_source_here", "_law_many"] sp_pick) :
    FnOk P w K mg base CX0 (n + 1) f fd ["_law_source_here", "_law_taken"] sp_name := by
  refine D.F.ok sc__law_name (fun vs H Q E h => ?_) (fun cdv A outer s H vs Q E hr h => ?_)
  · obtain ⟨a, c, t, tk, rfl, _⟩ := h; rfl
  obtain ⟨a, c, t, taken, rfl, S, ht, htl, q⟩ := h
  refine ⟨_, (pss_cons (ps_set (i := 2) sc__law_name.nd rfl (.inl rfl) pe_str)
      (pss_cons (ps_set (i := 3) sc__law_name.nd rfl (.inl rfl) (pe_ix (ix_u (K := K)) (pv 2) (pe_call G__law_pick hr (by rfl) D__law_pick.m D__law_pick.F.kp D__law_pick.b .nil pass0 (pa_cons (pv 0) (pa_cons pe_int pa_nil))) (fun _ _ => rfl)))
      (pss_cut (ps_for PassesOwn.never rfl (pi_range1 (by rfl) B.range (pa_cons (pe_ix (ix_u (K := K)) (pe_lst (pa_cons pe_int (pa_cons pe_int (pa_cons pe_int (pa_cons pe_int (pa_cons (pe_call G__law_pick hr (by rfl) D__law_pick.m D__law_pick.F.kp D__law_pick.b .nil pass0 (pa_cons (pv 0) (pa_cons pe_int pa_nil))) pa_nil)))))) (pe_call G__law_pick hr (by rfl) D__law_pick.m D__law_pick.F.kp D__law_pick.b .nil pass0 (pa_cons (pv 0) (pa_cons pe_int pa_nil))) (fun _ _ => rfl)) pa_nil)) (pg_name (i := 4) sc__law_name.nd rfl (.inl rfl)) (pss_one (ps_set (i := 3) sc__law_name.nd rfl (.inl rfl) (pe_op (op_addU (K := K)) (pv 3) (pe_ix (ix_u (K := K)) (pv 2) (pe_call G__law_pick hr (by rfl) D__law_pick.m D__law_pick.F.kp D__law_pick.b .nil pass0 (pa_cons (pv 0) (pa_cons pe_int pa_nil))) (fun _ _ => rfl))))))
      (pss_cut (ps_if (PW.pt (pw_or (pt_cmpR (op_inU (K := K) (u65 hr)) (pv 3) (pv 1) (by rfl)) (pw_or1 (pt_cmpR (op_inU (K := K) (u65 hr)) (pv 3) (pe_tup (pa_cons pe_str (pa_cons pe_str (pa_cons pe_str (pa_cons pe_str (pa_cons pe_str (pa_cons pe_str pa_nil))))))) (by rfl))))) (pss_cons (ps_setLc (i := 5) (own := [("_law_k", 4)]) (g := gName 4) (tt := tYes) rfl sc__law_name.nd rfl rfl (sw_true rfl rfl rfl (by decide +kernel)) (pi_range1 (by rfl) B.range (pa_cons (pe_op (op_addU (K := K)) (pe_callB (c_len (K := K)) (by rfl) B.len PySem.boot_len (pa_cons (pv 1) pa_nil)) pe_int) pa_nil)) (blkOk_by (own := [("_law_k", 4)]) (N := ["_law_source_here", "_law_taken", "_law_letters", "_law_name_here", "_law_k", "_law_spare", "_law_one"]) (sc := defScope s__law_name) (by decide +kernel)) (fun _ _ _ _ _ => (pg_name (i := 4) sc__law_name.nd rfl (.inl rfl))) (fun _ _ _ _ _ => pts_nil) (fun _ _ _ _ _ => (pe_op (op_addU (K := K)) pe_str (pe_callTy c_str (by rfl) B.str (by decide +kernel) (pa_cons (pv 4) pa_nil)))))
      (pss_one (ps_ret (pe_ix (ix_u (K := K)) (pe_lc (own := [("_law_one", 6)]) (g := gName 6) rfl sc__law_name.nd (pi_any (K := K) (pv 5)) (blkOk_by (own := [("_law_one", 6)]) (N := ["_law_source_here", "_law_taken", "_law_letters", "_law_name_here", "_law_k", "_law_spare", "_law_one"]) (sc := defScope s__law_name) (by decide +kernel)) (fun _ _ _ _ _ => (pg_name (i := 6) sc__law_name.nd rfl (.inl rfl))) (fun _ _ _ _ _ => (pts_one (pt_cmpR (op_notInU (K := K) (u65 hr)) (pv 6) (pv 1) (by rfl)))) (fun _ _ _ _ _ => (pv 6))) pe_int (fun _ _ => rfl))))) pss_nil)
      (pss_one (ps_ret (pv 3))))))), ?_⟩
  have hta := S.strs ht
  walk_at "go"
  refine ⟨a, c, 26, rfl, S, by omega, by omega, fun r1 H1 h10 h11 S1 f1 => ?_⟩
  walk_at "go"
  obtain ⟨j1, rfl⟩ := Int.eq_ofNat_of_zero_le h10
  obtain ⟨c0, g0, m0⟩ : ∃ c0, atI (tl (Str.ofString "abcdefghijklmnopqrstuvwxyz0123456789")) ((j1 : Nat) : Int) = some c0 ∧ sm c0 := by
    have key : ∀ j, j < 26 → ∃ c0, (tl (Str.ofString "abcdefghijklmnopqrstuvwxyz0123456789"))[j]? = some c0 ∧ sm c0 := by
      intro j hj
      have e : (tl (Str.ofString "abcdefghijklmnopqrstuvwxyz0123456789")) = [97, 98, 99, 100, 101, 102, 103, 104, 105, 106, 107, 108, 109, 110, 111, 112, 113, 114, 115, 116, 117, 118, 119, 120, 121, 122, 48, 49, 50, 51, 52, 53, 54, 55, 56, 57] := by rw [tl_ofString]; rfl
      rw [e]
      have : j < 36 := by omega
      refine ⟨_, List.getElem?_eq_getElem (by simp; omega), ?_⟩
      revert j; decide
    obtain ⟨c0, h1, h2⟩ := key j1 (by omega)
    exact ⟨c0, atI_nat h1, h2⟩
  refine r_ixS ?_ g0 ?_
  · rw [l36, sizeLine_eq]; omega
  walk_at "go"
  refine r_cut (fun σ' H' => ∃ (x4 : Option V) (l : List Nat), σ' = [some (.ref a), some (.ref t), some (.str "abcdefghijklmnopqrstuvwxyz0123456789"), some (.str (mk (c0 :: l))), x4, none, none] ∧ l.length ≤ 11 ∧ (∀ c ∈ l, al c) ∧ Src a c H' ∧ PL.Fr a H H') ?_ ?_
  · walk_at "go"
    refine ⟨a, c, 12, rfl, S1, by omega, by omega, fun r2 H2 h20 h21 S2 f2 => ?_⟩
    walk_at "go"
    refine ⟨by walk_at "sz", fun p np => ?_⟩
    have e3 := Ex.new (o := HO.lst [V.int 0, V.int 0, V.int 1, V.int 2, V.int r2]) np
    obtain ⟨npa, npc⟩ := S2.new np
    walk_at "go"
    refine ⟨a, c, 5, rfl, S2.ex e3, by omega, by omega, fun r3 H3 h30 h31 S3 f3 => ?_⟩
    have hp3 : H3 p = some (.lst [V.int 0, V.int 0, V.int 1, V.int 2, V.int r2]) := f3 _ _ npa upd_same
    have f03 : PL.Fr a H H3 := ((f1.trans f2).trans (.of e3)).trans f3
    obtain ⟨r4, h4, h40, h41⟩ : ∃ r4, atI [V.int 0, V.int 0, V.int 1, V.int 2, V.int r2] r3 = some (.int r4) ∧ 0 ≤ r4 ∧ r4 < 12 := by
      have : r3 = 0 ∨ r3 = 1 ∨ r3 = 2 ∨ r3 = 3 ∨ r3 = 4 := by omega
      rcases this with rfl | rfl | rfl | rfl | rfl
      · exact ⟨0, rfl, by omega, by omega⟩
      · exact ⟨0, rfl, by omega, by omega⟩
      · exact ⟨1, rfl, by omega, by omega⟩
      · exact ⟨2, rfl, by omega, by omega⟩
      · exact ⟨r2, rfl, h20, h21⟩
    walk_at "go"
    refine ⟨r4, rfl, by omega, by omega, ?_⟩
    refine for_range (lo := 0) (n := r4.toNat) (fun i σ' H' => ∃ (x4 : Option V) (l : List Nat), σ' = [some (.ref a), some (.ref t), some (.str "abcdefghijklmnopqrstuvwxyz0123456789"), some (.str (mk (c0 :: l))), x4, none, none] ∧ l.length = i ∧ (∀ c ∈ l, al c) ∧ Src a c H' ∧ PL.Fr a H H') ⟨none, [], rfl, rfl, by simp, S3, f03⟩ ?_ ?_
    · rintro i σ' H' hi ⟨x4, l, rfl, hl, hal, S', f'⟩
      walk_at "go"
      refine ⟨a, c, 36, rfl, S', by omega, by omega, fun r5 H5 h50 h51 S5 f5 => ?_⟩
      obtain ⟨c5, g5, m5⟩ := at_in (l := tl (Str.ofString "abcdefghijklmnopqrstuvwxyz0123456789")) h50 (by rw [← len_tl, l36]; omega)
      refine r_ixS ?_ g5 ?_
      · rw [l36, sizeLine_eq]; omega
      refine r_addS ?_ ?_
      · rw [mk_len, sizeLine_eq, show ({ cps := #[c5] } : Str).length = 1 from rfl, List.length_cons]; omega
      rw [show ({ cps := #[c5] } : Str) = mk [c5] from rfl, mk_app]
      walk_at "go"
      refine ⟨_, l ++ [c5], rfl, by rw [List.length_append, hl]; rfl, fun x hx => ?_, S5, f'.trans f5⟩
      rcases List.mem_append.mp hx with hx | hx
      · exact hal x hx
      · rw [List.mem_singleton.mp hx]; exact l36_al _ m5
    · rintro σ' H' ⟨x4, l, rfl, hl, hal, S', f'⟩
      exact ⟨x4, l, rfl, by omega, hal, S', f'⟩
  · rintro σ' H' ⟨x4, l, rfl, hl, hal, S', f'⟩
    have ht' := f' _ _ hta ht
    refine r_cut (fun σ'' H'' => σ'' = [some (.ref a), some (.ref t), some (.str "abcdefghijklmnopqrstuvwxyz0123456789"), some (.str (mk (c0 :: l))), x4, none, none] ∧ mk (c0 :: l) ∉ taken ∧ mk (c0 :: l) ∉ wordsS ∧ Src a c H'' ∧ PL.Fr a H H'') ?_ ?_
    · walk_at "go"
      refine r_inL (.inl (SqL.of ht')) rfl (flat_strs _) ?_
      rw [inV_strs]
      walk_at "go"
      refine ite_d (fun h1 => ?_) (fun h1 => ?_)
      rotate_left
      walk_at "go"
      refine ⟨by walk_at "sz", fun p5 np5 => ?_⟩
      refine r_inL (xs := wordsS.map V.str) (.inr (SqT.of upd_same)) rfl rfl ?_
      rw [inV_strs]
      have e5 := Ex.new (o := HO.tup (wordsS.map V.str)) np5
      walk_at "go"
      refine ite_d (fun h2 => ?_) (fun h2 => ?_)
      rotate_left
      · walk_at "go"
        exact ⟨rfl, h1, h2, S'.ex e5, f'.trans (.of e5)⟩
      have Sb := S'
      have fb := f'
      have tb := ht'
      rotate_left
      have Sb := S'.ex e5
      have fb := f'.trans (.of e5)
      have tb := e5 _ _ ht'
      all_goals
        walk_at "go"
        rw [List.length_map]
        refine ⟨_, rfl, by omega, by omega, fun D nD => ?_⟩
        have em : ((taken.length : Int) + 1).toNat = taken.length + 1 := by omega
        rw [em]
        refine lc_range (lo := 0) (n := taken.length + 1) (fun i H6 => Ex _ H6 ∧ H6 D = some (.lst ((List.range i).map fun k => V.str (mk (qn k))))) ⟨Ex.new nD, upd_same⟩ ?_ ?_
        · rintro i H6 hi ⟨e6, hD⟩
          have ei : ((0 : Int) + (i : Nat)) = ((i : Nat) : Int) := by omega
          have ln := num_len (n := i) (by omega)
          have lm := log_small (n := i) (by omega)
          rw [ei]
          walk_at "go"
          have eq1 : (Str.ofString "q" ++ Str.ofString (toString ((i : Nat) : Int))) = mk (qn i) := ext_tl (by rw [tl_append, tl_num]; rfl)
          rw [eq1]
          refine ⟨_, hD, by rw [List.length_map, List.length_range, sizeLine_eq]; omega, Evl.Ex.mut e6 nD, ?_⟩
          rw [upd_same, List.range_succ, List.map_append]; rfl
        · rintro H6 ⟨e6, hD⟩
          have t6 := e6 _ _ tb
          have S6 := Sb.ex e6
          have f6 := fb.trans (.of e6)
          walk_at "go"
          refine r_itL (SqL.of hD) (fun D2 nD2 => ?_)
          refine lc_list (xs := (List.range (taken.length + 1)).map fun k => V.str (mk (qn k))) (fun i H7 => Ex H6 H7 ∧ H7 D2 = some (.lst ((((List.range (taken.length + 1)).take i).filter fun k => !decide (mk (qn k) ∈ taken)).map fun k => V.str (mk (qn k))))) ⟨Ex.new nD2, upd_same⟩ (fun i H7 _ h => SqL.of (h.1 _ _ hD)) ?_ ?_
          · rintro i x H7 hx ⟨e7, hD2⟩
            rw [List.getElem?_map] at hx
            obtain ⟨j, hj, rfl⟩ := Option.map_eq_some_iff.mp hx
            walk_at "go"
            refine r_ninL (.inl (SqL.of (e7 _ _ t6))) rfl (flat_strs _) ?_
            rw [inV_strs]
            walk_at "go"
            refine ite_nd (fun h3 => ?_) (fun h3 => ?_)
            · walk_at "go"
              refine ⟨_, hD2, ?_, Evl.Ex.mut e7 nD2, ?_⟩
              · rw [List.length_map, sizeLine_eq]
                have h8 := List.length_filter_le (fun k => !decide (mk (qn k) ∈ taken)) ((List.range (taken.length + 1)).take i)
                have h9 : ((List.range (taken.length + 1)).take i).length ≤ (List.range (taken.length + 1)).length := List.length_take_le' _ _
                rw [List.length_range] at h9
                omega
              · rw [upd_same, List.take_add_one, hj, Option.toList_some, List.filter_append, List.filter_cons, decide_eq_false h3]; simp
            · walk_at "go"
              refine ⟨e7, ?_⟩
              rw [hD2, List.take_add_one, hj, Option.toList_some, List.filter_append, List.filter_cons, decide_eq_true h3]; simp
          · rintro H7 ⟨e7, hD2⟩
            rw [List.length_map, List.take_length] at hD2
            obtain ⟨k0, hk0, hk1⟩ := qn_free taken
            have hm : k0 ∈ (List.range (taken.length + 1)).filter fun k => !decide (mk (qn k) ∈ taken) := List.mem_filter.mpr ⟨List.mem_range.mpr (by omega), by rw [decide_eq_false hk1]; rfl⟩
            obtain ⟨j, t', hjt⟩ := List.exists_cons_of_ne_nil (List.ne_nil_of_mem hm)
            rw [hjt] at hD2
            have hj : j ∈ (List.range (taken.length + 1)).filter fun k => !decide (mk (qn k) ∈ taken) := by rw [hjt]; exact List.mem_cons_self
            obtain ⟨hj1, hj2⟩ := List.mem_filter.mp hj
            have hj3 := List.mem_range.mp hj1
            walk_at "go"
            refine q _ _ (qn_nm (by omega)) (fun hm2 => ?_) (S6.ex e7) (f6.trans (.of e7))
            rw [decide_eq_true hm2] at hj2
            cases hj2
    · rintro σ'' H'' ⟨rfl, h1, h2, S'', f''⟩
      walk_at "go"
      refine q _ _ ⟨by simp, by simp only [List.length_cons]; omega, fun c hc => by cases hc; exact m0, fun c hc => ?_, h2⟩ h1 S'' f''
      rcases List.mem_cons.mp hc with rfl | hc
      · exact .inl m0
      · exact hal c hc
end


set_option maxHeartbeats 8000000
section
variable {P : Program} {w : World} {K : PySem.W.Frag} {mg : Str → Option Value} {base : Heap} {f : Addr} {fd : FuncData} {n : Nat}
/-! ### blanks that are drawn; words written with them -/
def blk (b : List Nat) : Prop := ∀ c ∈ b, c = 32 ∨ c = 10
def sp_blank : Sp := fun vs H Q _ => ∃ (a c : Addr) (least : Bool), vs = [.ref a, .bl least] ∧ Src a c H ∧ ∀ (b : List Nat) H', blk b → (least = true → b ≠ []) → b.length ≤ 2 → Src a c H' → PL.Fr a H H' → Q (.str (mk b)) H'
theorem ok__law_blank {gd : Addr} {gdd : FuncData} (D : Def K mg "_law_blank" s__law_blank ["_law_source_here", "_law_least"] f fd) (B : Blt mg)
    (D__law_pick : Def K mg "_law_pick" s__law_pick ["_law_source_here", "_law_many"] gd gdd) (G__law_pick : FnOk P w K mg base CX0 n gd gdd ["_law_source_here", "_law_many"] sp_pick) :
    FnOk P w K mg base CX0 (n + 1) f fd ["_law_source_here", "_law_least"] sp_blank := by
  refine D.F.ok sc__law_blank (fun vs H Q E h => ?_) (fun cdv A outer s H vs Q E hr h => ?_)
  · obtain ⟨a, c, l, rfl, _⟩ := h; rfl
  obtain ⟨a, c, least, rfl, S, q⟩ := h
  refine ⟨_, (pss_cons (ps_set (i := 2) sc__law_blank.nd rfl (.inl rfl) (pe_ix (ix_u (K := K)) (pe_lst (pa_cons pe_str (pa_cons pe_str (pa_cons pe_str (pa_cons pe_str (pa_cons pe_str (pa_cons pe_str pa_nil))))))) (pe_call G__law_pick hr (by rfl) D__law_pick.m D__law_pick.F.kp D__law_pick.b .nil pass0 (pa_cons (pv 0) (pa_cons pe_int pa_nil))) (fun _ _ => rfl)))
      (pss_cut (ps_if (PW.pt (pw_and (pt_cmpR (op_eqU (K := K) (u64 hr)) (pv 2) pe_str (nomark _)) (pw_and1 (pt_truthU (K := K) (pv 1) (by intro _; rfl))))) (pss_one (ps_ret (pe_ix (ix_u (K := K)) (pe_lst (pa_cons pe_str (pa_cons pe_str pa_nil))) (pe_call G__law_pick hr (by rfl) D__law_pick.m D__law_pick.F.kp D__law_pick.b .nil pass0 (pa_cons (pv 0) (pa_cons pe_int pa_nil))) (fun _ _ => rfl)))) pss_nil)
      (pss_one (ps_ret (pv 2))))), ?_⟩
  walk_at "go"
  refine ⟨by walk_at "sz", fun p np => ?_⟩
  let six : List (List Nat) := [[], [], [32], [10], [32, 32], [32, 10]]
  have e3 := Ex.new (o := HO.lst (six.map fun l => V.str (mk l))) np
  obtain ⟨npa, npc⟩ := S.new np
  walk_at "go"
  refine ⟨a, c, 6, rfl, S.ex e3, by omega, by omega, fun r3 H3 h30 h31 S3 f3 => ?_⟩
  have hp3 : H3 p = some (.lst (six.map fun l => V.str (mk l))) := f3 _ _ npa upd_same
  obtain ⟨b, hb, ha⟩ := at_map (g := fun l => V.str (mk l)) (l := six) h30 (by show r3 < 6; omega)
  have f03 : PL.Fr a H H3 := (PL.Fr.of e3).trans f3
  refine r_ixL (.inl (SqL.of hp3)) ha ?_
  have hb2 : blk b ∧ b.length ≤ 2 := by
    have : ∀ b ∈ six, (∀ c ∈ b, c = 32 ∨ c = 10) ∧ b.length ≤ 2 := by decide
    exact this b hb
  walk_at "go"
  refine r_nocut ?_
  walk_at "go"
  refine ite_d (fun h1 => ?_) (fun h1 => ?_)
  · walk_at "go"
    cases least with
    | false =>
      walk_at "go"
      exact q b H3 hb2.1 (fun e => nomatch e) hb2.2 S3 f03
    | true =>
      walk_at "go"
      refine ⟨by walk_at "sz", fun p4 np4 => ?_⟩
      let two : List (List Nat) := [[32], [10]]
      have e4 := Ex.new (o := HO.lst (two.map fun l => V.str (mk l))) np4
      obtain ⟨npa4, npc4⟩ := S3.new np4
      walk_at "go"
      refine ⟨a, c, 2, rfl, S3.ex e4, by omega, by omega, fun r5 H5 h50 h51 S5 f5 => ?_⟩
      have hp5 : H5 p4 = some (.lst (two.map fun l => V.str (mk l))) := f5 _ _ npa4 upd_same
      obtain ⟨b5, hb5, ha5⟩ := at_map (g := fun l => V.str (mk l)) (l := two) h50 (by show r5 < 2; omega)
      refine r_ixL (.inl (SqL.of hp5)) ha5 ?_
      walk_at "go"
      have : ∀ b ∈ two, (∀ c ∈ b, c = 32 ∨ c = 10) ∧ b.length ≤ 2 ∧ b ≠ [] := by decide
      obtain ⟨x1, x2, x3⟩ := this b5 hb5
      exact q b5 H5 x1 (fun _ => x3) x2 S5 ((f03.trans (.of e4)).trans f5)
  · walk_at "go"
    exact q b H3 hb2.1 (fun _ e => h1 (by rw [e]; rfl)) hb2.2 S3 f03
/-- the words so far: whatever is written behind them -/
def Pre (b : Bool) (T : List Nat) (done : List PL.Tok) : Prop := ∀ rest ts, Written b T.length rest ts → Written false 0 (T ++ rest) (done ++ ts)
theorem written_blank {b : Bool} {p : Nat} {bl l : List Nat} {ts : List PL.Tok} (hb : blk bl) (h : Written b (p + bl.length) l ts) : Written b p (bl ++ l) ts := by
  cases h with
  | done h => exact .done fun c hc => (List.mem_append.mp hc).elim (hb c) (h c)
  | @word _ b' _ bl' w rest ts h hw hn hb' hr =>
    have e : bl ++ (bl' ++ w ++ rest) = (bl ++ bl') ++ w ++ rest := by simp
    rw [e, show p + bl.length + bl'.length = p + (bl ++ bl').length by rw [List.length_append]; omega]
    refine .word (fun c hc => (List.mem_append.mp hc).elim (hb c) (h c)) hw (fun h1 h2 e => ?_) hb' ?_
    · exact hn h1 h2 (List.append_eq_nil_iff.mp e).2
    · rw [show p + (bl ++ bl').length + w.length = p + bl.length + bl'.length + w.length by rw [List.length_append]; omega]; exact hr
theorem pre_start {bl : List Nat} (hb : blk bl) : Pre false bl [] := fun rest ts h => by
  have h' : Written false (0 + bl.length) rest ts := by rw [Nat.zero_add]; exact h
  exact written_blank hb h'
theorem pre_step {b : Bool} {T bl w : List Nat} {done : List PL.Tok} (h : Pre b T done) (hb : blk bl) (hw : isWd w) (hn : b = true → isRun w = true → bl ≠ []) : Pre (isRun w) (T ++ bl ++ w) (done ++ [⟨dueKind w, w, T.length + bl.length⟩]) := fun rest ts hr => by
  have := h (bl ++ w ++ rest) (⟨dueKind w, w, T.length + bl.length⟩ :: ts) (.word hb hw hn Iff.rfl (by rw [List.length_append, List.length_append] at hr; exact hr))
  simpa using this
theorem pre_end {b : Bool} {T bl : List Nat} {done : List PL.Tok} (h : Pre b T done) (hb : blk bl) : Written false 0 (T ++ bl) done := by
  have := h bl [] (.done hb)
  rwa [List.append_nil] at this
def dueToks (ws : List (List Nat)) (ps : List Nat) : List PL.Tok := List.zipWith (fun w p => ⟨dueKind w, w, p⟩) ws ps
theorem isWd_len {w : List Nat} (h : isWd w) : 1 ≤ w.length ∧ w.length ≤ 12 := by
  rcases h with h | rfl | ⟨c, _, rfl⟩
  · refine ⟨List.length_pos_iff.mpr (isRun_ne h), ?_⟩
    unfold isRun at h
    rw [Bool.and_eq_true, Bool.not_eq_true', Bool.or_eq_false_iff, Bool.or_eq_false_iff] at h
    have := h.1.1.2
    rw [decide_eq_false_iff_not] at this
    omega
  · decide
  · simp
theorem signs_al (c : Nat) : decide (c ∈ tl (Str.ofString "abcdefghijklmnopqrstuvwxyz0123456789")) = decide (al c) := by
  rw [tl_ofString]
  refine decide_eq_decide.mpr ?_
  show c ∈ [97, 98, 99, 100, 101, 102, 103, 104, 105, 106, 107, 108, 109, 110, 111, 112, 113, 114, 115, 116, 117, 118, 119, 120, 121, 122, 48, 49, 50, 51, 52, 53, 54, 55, 56, 57] ↔ _
  simp only [List.mem_cons, List.not_mem_nil, or_false]
  omega
def sp_spread : Sp := fun vs H Q _ => ∃ (a c t : Addr) (ws : List (List Nat)), vs = [.ref a, .ref t] ∧ Src a c H ∧ H t = some (.lst (ws.map fun w => V.str (mk w))) ∧ (∀ w ∈ ws, isWd w) ∧ ws.length ≤ 5000 ∧
  ∀ (p pl : Addr) (T : List Nat) (ps : List Nat) H', Src a c H' → PL.Fr a H H' → H' p = some (.tup [.str (mk T), .ref pl]) → H' pl = some (.lst (ps.map fun p => V.int (p : Nat))) → ps.length = ws.length → T.length ≤ 14 * ws.length + 4 → Written false 0 T (dueToks ws ps) → Q (.ref p) H'
theorem ok__law_spread {gb : Addr} {gbd : FuncData} (D : Def K mg "_law_spread" s__law_spread ["_law_source_here", "_law_words"] f fd) (B : Blt mg)
    (D__law_blank : Def K mg "_law_blank" s__law_blank ["_law_source_here", "_law_least"] gb gbd) (G__law_blank : FnOk P w K mg base CX0 n gb gbd ["_law_source_here", "_law_least"] sp_blank) :
    FnOk P w K mg base CX0 (n + 1) f fd ["_law_source_here", "_law_words"] sp_spread := by
  refine D.F.ok sc__law_spread (fun vs H Q E h => ?_) (fun cdv A outer s H vs Q E hr h => ?_)
  · obtain ⟨a, c, t, ws, rfl, _⟩ := h; rfl
  obtain ⟨a, c, t, ws, rfl, S, ht, hws, hwl, q⟩ := h
  refine ⟨_, (pss_cons (ps_set (i := 2) sc__law_spread.nd rfl (.inl rfl) pe_str)
      (pss_cons (ps_set (i := 3) sc__law_spread.nd rfl (.inl rfl) (pe_call G__law_blank hr (by rfl) D__law_blank.m D__law_blank.F.kp D__law_blank.b .nil pass0 (pa_cons (pv 0) (pa_cons pe_bl pa_nil))))
      (pss_cons (ps_set (i := 4) sc__law_spread.nd rfl (.inl rfl) (pe_lst pa_nil))
      (pss_cut (ps_for PassesOwn.never rfl (pi_range1 (by rfl) B.range (pa_cons (pe_callB (c_len (K := K)) (by rfl) B.len PySem.boot_len (pa_cons (pv 1) pa_nil)) pa_nil)) (pg_name (i := 5) sc__law_spread.nd rfl (.inl rfl)) (pss_cons (ps_set (i := 3) sc__law_spread.nd rfl (.inl rfl) (pe_op (op_addU (K := K)) (pv 3) (pe_call G__law_blank hr (by rfl) D__law_blank.m D__law_blank.F.kp D__law_blank.b .nil pass0 (pa_cons (pv 0) (pa_cons (pe_and (pe_cmpR (op_gtU) (pv 5) pe_int (nomark _)) (pe_and (pe_cmpR (op_inU (K := K) (u65 hr)) (pe_ix (ix_u (K := K)) (pe_ix (ix_u (K := K)) (pv 1) (pv 5) (fun _ _ => rfl)) pe_int (fun _ _ => rfl)) (pv 2) (by rfl)) (pe_one (pe_cmpR (op_inU (K := K) (u65 hr)) (pe_ix (ix_u (K := K)) (pe_ix (ix_u (K := K)) (pv 1) (pe_op op_sub (pv 5) pe_int) (fun _ _ => rfl)) (pe_un un_neg pe_int) (fun _ _ => rfl)) (pv 2) (by rfl))))) pa_nil)))))
      (pss_cons (ps_expr (uBM_mk (K := K) (pe_bm PySem.F.plainAttrs_list PySem.F.slot_list_append PySem.F.type_list_append mt_append (pv 4) (pa_cons (pe_callB (c_len (K := K)) (by rfl) B.len PySem.boot_len (pa_cons (pv 3) pa_nil)) pa_nil))))
      (pss_one (ps_set (i := 3) sc__law_spread.nd rfl (.inl rfl) (pe_op (op_addU (K := K)) (pv 3) (pe_ix (ix_u (K := K)) (pv 1) (pv 5) (fun _ _ => rfl))))))))
      (pss_one (ps_ret (pe_tup (pa_cons (pe_op (op_addU (K := K)) (pv 3) (pe_call G__law_blank hr (by rfl) D__law_blank.m D__law_blank.F.kp D__law_blank.b .nil pass0 (pa_cons (pv 0) (pa_cons pe_bl pa_nil)))) (pa_cons (pv 4) pa_nil))))))))), ?_⟩
  have hta : t ≠ a := S.strs (l := ws.map mk) (by rw [List.map_map]; exact ht)
  walk_at "go"
  refine ⟨a, c, false, rfl, S, fun b0 H1 hb0 _ hl0 S1 f1 => ?_⟩
  walk_at "go"
  refine ⟨Nat.zero_le _, fun pl npl => ?_⟩
  obtain ⟨npa, npc⟩ := S1.new npl
  have ht1 := f1 _ _ hta ht
  have ntp : t ≠ pl := ne_of_none ht1 npl
  walk_at "go"
  refine r_cut (fun σ' H' => ∃ (x5 : Option V) (b : Bool) (T : List Nat) (ps : List Nat), σ' = [some (.ref a), some (.ref t), some (.str "abcdefghijklmnopqrstuvwxyz0123456789"), some (.str (mk T)), some (.ref pl), x5] ∧ Src a c H' ∧ PL.Fr a H H' ∧ H' pl = some (.lst (ps.map fun p => V.int (p : Nat))) ∧
    ps.length = ws.length ∧ T.length ≤ 14 * ws.length + 2 ∧ Pre b T (dueToks ws ps)) ?_ ?_
  · walk_at "go"
    refine ⟨_, rfl, by rw [List.length_map]; omega, by rw [List.length_map]; omega, ?_⟩
    have el : ((((ws.map fun w => V.str (mk w)).length : Nat) : Int)).toNat = ws.length := by rw [List.length_map]; omega
    rw [el]
    refine for_range (lo := 0) (n := ws.length) (fun i σ' H' => ∃ (x5 : Option V) (b : Bool) (T : List Nat) (ps : List Nat), σ' = [some (.ref a), some (.ref t), some (.str "abcdefghijklmnopqrstuvwxyz0123456789"), some (.str (mk T)), some (.ref pl), x5] ∧ Src a c H' ∧ PL.Fr a H H' ∧ H' pl = some (.lst (ps.map fun p => V.int (p : Nat))) ∧
      H' t = some (.lst (ws.map fun w => V.str (mk w))) ∧ ps.length = i ∧ T.length ≤ 14 * i + 2 ∧ Pre b T (dueToks (ws.take i) ps) ∧ (b = true → ∃ j w, i = j + 1 ∧ ws[j]? = some w ∧ isRun w = true)) ⟨none, false, b0, [], rfl, S1.upd npa npc, (f1.trans (.of (Ex.new npl))), upd_same, (upd_ne ntp).trans ht1, rfl, by omega, pre_start hb0, fun e => nomatch e⟩ ?_ ?_
    · rintro i σ' H' hi ⟨x5, b, T, ps, rfl, S', f', hpl, ht', hps, hT, hpre, hbj⟩
      have ei : ((0 : Int) + (i : Nat)) = ((i : Nat) : Int) := by omega
      have hwi : ws[i]? = some ws[i] := List.getElem?_eq_getElem hi
      have hww := hws _ (List.getElem_mem hi)
      generalize ws[i] = wd at hwi hww
      obtain ⟨hw1, hw2⟩ := isWd_len hww
      obtain ⟨y, yt, rfl⟩ := List.exists_cons_of_ne_nil (List.length_pos_iff.mp hw1)
      have gi : (ws.map fun w => V.str (mk w))[i]? = some (.str (mk (y :: yt))) := by rw [List.getElem?_map, hwi]; rfl
      have tl_ : T.length ≤ 70002 := by omega
      have lT : (mk T).length ≤ 70002 := by rw [mk_len]; omega
      have lw : (mk (y :: yt)).length ≤ 12 := by rw [mk_len]; exact hw2
      have lwz : (mk (y :: yt)).length ≤ sizeLine := by rw [sizeLine_eq]; omega
      rw [ei]
      -- what is done with the blank, whatever it asked
      have fin : ∀ (bl : List Nat) (least : Bool) H5, blk bl → (least = true → bl ≠ []) → bl.length ≤ 2 → Src a c H5 → PL.Fr a H' H5 → (b = true → isRun (y :: yt) = true → least = true) → H5 pl = some (.lst (ps.map fun p => V.int (p : Nat))) ∧ H5 t = some (.lst (ws.map fun w => V.str (mk w))) ∧ ∀ H6, H6 = upd H5 pl (.lst (ps.map (fun p => V.int (p : Nat)) ++ [V.int ((T ++ bl).length : Nat)])) →
          ∃ (x5 : Option V) (b : Bool) (T' : List Nat) (ps' : List Nat), [some (V.ref a), some (.ref t), some (.str "abcdefghijklmnopqrstuvwxyz0123456789"), some (.str (mk (T ++ bl ++ (y :: yt)))), some (.ref pl), some (.int (i : Nat))] = [some (.ref a), some (.ref t), some (.str "abcdefghijklmnopqrstuvwxyz0123456789"), some (.str (mk T')), some (.ref pl), x5] ∧ Src a c H6 ∧ PL.Fr a H H6 ∧ H6 pl = some (.lst (ps'.map fun p => V.int (p : Nat))) ∧
            H6 t = some (.lst (ws.map fun w => V.str (mk w))) ∧ ps'.length = i + 1 ∧ T'.length ≤ 14 * (i + 1) + 2 ∧ Pre b T' (dueToks (ws.take (i + 1)) ps') ∧ (b = true → ∃ j w, i + 1 = j + 1 ∧ ws[j]? = some w ∧ isRun w = true) := by
        intro bl least H5 hb1 hb2 hb3 S5 f5 hls
        have hpl5 := f5 _ _ npa hpl
        have ht5 := f5 _ _ hta ht'
        refine ⟨hpl5, ht5, fun H6 e => ?_⟩
        subst e
        refine ⟨_, isRun (y :: yt), T ++ bl ++ (y :: yt), ps ++ [T.length + bl.length], rfl, S5.upd npa npc, ?_, ?_, (upd_ne ntp).trans ht5, by rw [List.length_append, hps]; rfl, ?_, ?_, fun h => ⟨i, y :: yt, rfl, hwi, h⟩⟩
        · intro x o hx hxo
          by_cases hxp : x = pl
          · subst hxp
            have h1 := f1 x o hx hxo
            rw [npl] at h1; cases h1
          · exact (upd_ne hxp).trans ((f'.trans f5) x o hx hxo)
        · rw [upd_same, List.map_append, List.length_append]; rfl
        · rw [List.length_append, List.length_append]; omega
        · have : dueToks (ws.take (i + 1)) (ps ++ [T.length + bl.length]) = dueToks (ws.take i) ps ++ [⟨dueKind (y :: yt), y :: yt, T.length + bl.length⟩] := by
            unfold dueToks
            rw [List.take_add_one, hwi, Option.toList_some, List.zipWith_append (by rw [List.length_take, hps]; omega)]; rfl
          rw [this]
          exact pre_step hpre hb1 hww fun h1 h2 => hb2 (hls h1 h2)
      have hi2 : ws.length ≤ 5000 := hwl
      walk_at "go"
      refine ite_d (fun h1 => ?_) (fun h1 => ?_)
      · obtain ⟨i', rfl⟩ : ∃ i', i = i' + 1 := ⟨i - 1, by omega⟩
        have hi' : i' < ws.length := by omega
        have hwp : ws[i']? = some ws[i'] := List.getElem?_eq_getElem hi'
        have hwpw := hws _ (List.getElem_mem hi')
        generalize ws[i'] = wp at hwp hwpw
        obtain ⟨hp1, hp2⟩ := isWd_len hwpw
        have lp : (mk wp).length ≤ sizeLine := by rw [mk_len, sizeLine_eq]; omega
        have gp : (ws.map fun w => V.str (mk w))[i']? = some (.str (mk wp)) := by rw [List.getElem?_map, hwp]; rfl
        obtain ⟨z, hz⟩ : ∃ z, wp = wp.dropLast ++ [z] := ⟨wp.getLast (List.length_pos_iff.mp hp1), (List.dropLast_concat_getLast _).symm⟩
        have gz : atI (tl (mk wp)) (-1) = some z := by rw [tl_mk, hz]; exact atI_last _ _
        walk_at "go"
        try (refine r_ixL (.inl (SqL.of ht')) (atI_nat gi) ?_)
        walk_at "go"
        refine r_ixS lwz (show atI (y :: yt) 0 = some y from atI_nat (j := 0) rfl) ?_
        walk_at "go"
        rw [signs_al]
        refine ite_d (fun h2 => ?_) (fun h2 => ?_)
        · walk_at "go"
          rw [show (((i' + 1 : Nat) : Int) - 1) = ((i' : Nat) : Int) by omega]
          try (refine r_ixL (.inl (SqL.of ht')) (atI_nat gp) ?_)
          walk_at "go"
          refine r_ixS lp gz ?_
          walk_at "go"
          rw [signs_al]
          refine ⟨a, c, _, rfl, S', fun bl H5 hb1 hb2 hb3 S5 f5 => ?_⟩
          obtain ⟨x1, x2, x3⟩ := fin bl _ H5 hb1 hb2 hb3 S5 f5 (fun hb hR => by
            obtain ⟨j, w, e1, e2, e3⟩ := hbj hb
            have : j = i' := by omega
            subst this
            rw [hwp] at e2; cases e2
            exact decide_eq_true (isRun_al e3 z (by rw [hz]; simp)))
          have lbl : (mk bl).length ≤ 2 := by rw [mk_len]; exact hb3
          walk_at "go"
          rw [mk_app]
          have lTb : (mk (T ++ bl)).length ≤ 70004 := by rw [mk_len, List.length_append]; omega
          have lps : (ps.map fun p => V.int (p : Nat)).length ≤ 5000 := by rw [List.length_map]; omega
          walk_at "go"
          try (refine r_ixL (.inl (SqL.of ((upd_ne ntp).trans x2))) (atI_nat gi) ?_)
          walk_at "go"
          rw [mk_app]
          have := x3 _ rfl
          rw [mk_len (T ++ bl)]
          exact this
        · walk_at "go"
          refine ⟨a, c, _, rfl, S', fun bl H5 hb1 hb2 hb3 S5 f5 => ?_⟩
          obtain ⟨x1, x2, x3⟩ := fin bl _ H5 hb1 hb2 hb3 S5 f5 (fun hb hR => absurd (isRun_al hR y List.mem_cons_self) h2)
          have lbl : (mk bl).length ≤ 2 := by rw [mk_len]; exact hb3
          walk_at "go"
          rw [mk_app]
          have lTb : (mk (T ++ bl)).length ≤ 70004 := by rw [mk_len, List.length_append]; omega
          have lps : (ps.map fun p => V.int (p : Nat)).length ≤ 5000 := by rw [List.length_map]; omega
          walk_at "go"
          try (refine r_ixL (.inl (SqL.of ((upd_ne ntp).trans x2))) (atI_nat gi) ?_)
          walk_at "go"
          rw [mk_app]
          have := x3 _ rfl
          rw [mk_len (T ++ bl)]
          exact this
      · walk_at "go"
        refine ⟨a, c, _, rfl, S', fun bl H5 hb1 hb2 hb3 S5 f5 => ?_⟩
        obtain ⟨x1, x2, x3⟩ := fin bl _ H5 hb1 hb2 hb3 S5 f5 (fun hb hR => by
          obtain ⟨j, w, e1, _⟩ := hbj hb; omega)
        have lbl : (mk bl).length ≤ 2 := by rw [mk_len]; exact hb3
        walk_at "go"
        rw [mk_app]
        have lTb : (mk (T ++ bl)).length ≤ 70004 := by rw [mk_len, List.length_append]; omega
        have lps : (ps.map fun p => V.int (p : Nat)).length ≤ 5000 := by rw [List.length_map]; omega
        walk_at "go"
        try (refine r_ixL (.inl (SqL.of ((upd_ne ntp).trans x2))) (atI_nat gi) ?_)
        walk_at "go"
        rw [mk_app]
        have := x3 _ rfl
        rw [mk_len (T ++ bl)]
        exact this
    · rintro σ' H' ⟨x5, b, T, ps, rfl, S', f', hpl, ht', hps, hT, hpre, _⟩
      rw [List.take_length] at hpre
      exact ⟨x5, b, T, ps, rfl, S', f', hpl, hps, hT, hpre⟩
  · rintro σ' H' ⟨x5, b, T, ps, rfl, S', f', hpl, hps, hT, hpre⟩
    have lT : (mk T).length ≤ 70002 := by rw [mk_len]; omega
    walk_at "go"
    refine ⟨a, c, false, rfl, S', fun b1 H5 hb1 _ hl1 S5 f5 => ?_⟩
    have lb : (mk b1).length ≤ 2 := by rw [mk_len]; omega
    walk_at "go"
    refine ⟨by walk_at "sz", fun p np => ?_⟩
    have e6 := Ex.new (o := HO.tup [.str (mk T ++ mk b1), .ref pl]) np
    have hpl5 := f5 _ _ npa hpl
    refine q p pl (T ++ b1) ps _ (S5.ex e6) ((f'.trans f5).trans (.of e6)) ?_ (e6 _ _ hpl5) hps (by rw [List.length_append]; omega) (pre_end hpre hb1)
    rw [upd_same, mk_app]
end


set_option maxHeartbeats 8000000
section
variable {P : Program} {w : World} {K : PySem.W.Frag} {mg : Str → Option Value} {base : Heap} {f : Addr} {fd : FuncData} {n : Nat}
theorem nm_run {l : List Nat} (h : IsNm l) : isRun l = true := by
  unfold isRun
  have h1 := h.pos
  cases l with
  | nil => simp at h1
  | cons c r =>
    have h2 := h.hd c rfl
    have h3 : (c :: r).all alB = true := List.all_eq_true.mpr fun x hx => decide_eq_true (h.all x hx)
    have h4 := h.le
    rw [h3, decide_eq_false (show ¬ 12 < (c :: r).length by omega), show decide (sm ((c :: r).headD 0)) = true from decide_eq_true h2]; rfl
theorem words_run : ∀ x ∈ wordsS, isRun (tl x) = true ∧ isRun (tl x ++ [115]) = true ∧ isRun ((tl x).dropLast ++ [49]) = true ∧ isRun (tl x ++ tl x) = true ∧ isRun (120 :: tl x) = true ∧ isRun ((tl x).drop 1) = true := by decide +kernel
theorem words_len : ∀ x ∈ wordsS, 1 ≤ x.length ∧ x.length ≤ 6 := by decide +kernel
theorem cutS_init {z : Str} (h : 0 < z.length) : cutS z none (some (-1)) = mk (tl z).dropLast := by
  refine mk_eq ?_
  rw [tl_cutS]
  have e : HT.sIx z.length z.length (some (-1)) = z.length - 1 := sIx_neg (i := 1) h (by decide)
  rw [e]
  show ((tl z).drop 0).take (z.length - 1 - 0) = _
  rw [List.drop_zero, Nat.sub_zero, List.dropLast_eq_take, len_tl]
def marksS : List (List Nat) := [[45, 62], [40], [41], [123], [125], [44], [59], [58], [124]]
theorem marks_wd : ∀ m ∈ marksS, isWd m := by
  intro m hm
  have : m = [45, 62] ∨ ∃ c ∈ marks1, m = [c] := by revert m; decide
  exact .inr this
def sp_token : Sp := fun vs H Q _ => ∃ (a c : Addr), vs = [.ref a] ∧ Src a c H ∧ ∀ (w : List Nat) H', isWd w → Src a c H' → PL.Fr a H H' → Q (.str (mk w)) H'
theorem ok__law_token {g1 g2 : Addr} {d1 d2 : FuncData} (D : Def K mg "_law_token" s__law_token ["_law_source_here"] f fd) (B : Blt mg)
    (D__law_pick : Def K mg "_law_pick" s__law_pick ["_law_source_here", "_law_many"] g1 d1) (G__law_pick : FnOk P w K mg base CX0 n g1 d1 ["_law_source_here", "_law_many"] sp_pick)
    (D__law_name : Def K mg "_law_name" s__law_name ["_law_source_here", "_law_taken"] g2 d2) (G__law_name : FnOk P w K mg base CX0 n g2 d2 ["_law_source_here", "_law_taken"] sp_name) :
    FnOk P w K mg base CX0 (n + 1) f fd ["_law_source_here"] sp_token := by
  refine D.F.ok sc__law_token (fun vs H Q E h => ?_) (fun cdv A outer s H vs Q E hr h => ?_)
  · obtain ⟨a, c, rfl, _⟩ := h; rfl
  obtain ⟨a, c, rfl, S, q⟩ := h
  refine ⟨_, (pss_cons (ps_set (i := 1) sc__law_token.nd rfl (.inl rfl) (pe_call G__law_pick hr (by rfl) D__law_pick.m D__law_pick.F.kp D__law_pick.b .nil pass0 (pa_cons (pv 0) (pa_cons pe_int pa_nil))))
      (pss_cut (ps_if (pt_cmpR (op_eqU (K := K) (u64 hr)) (pv 1) pe_int (nomark _)) (pss_one (ps_ret (pe_ix (ix_u (K := K)) (pe_lst (pa_cons pe_str (pa_cons pe_str (pa_cons pe_str (pa_cons pe_str (pa_cons pe_str (pa_cons pe_str pa_nil))))))) (pe_call G__law_pick hr (by rfl) D__law_pick.m D__law_pick.F.kp D__law_pick.b .nil pass0 (pa_cons (pv 0) (pa_cons pe_int pa_nil))) (fun _ _ => rfl)))) pss_nil)
      (pss_cut (ps_if (pt_cmpR (op_eqU (K := K) (u64 hr)) (pv 1) pe_int (nomark _)) (pss_cons (ps_set (i := 2) sc__law_token.nd rfl (.inl rfl) (pe_ix (ix_u (K := K)) (pe_lst (pa_cons pe_str (pa_cons pe_str (pa_cons pe_str (pa_cons pe_str (pa_cons pe_str (pa_cons pe_str pa_nil))))))) (pe_call G__law_pick hr (by rfl) D__law_pick.m D__law_pick.F.kp D__law_pick.b .nil pass0 (pa_cons (pv 0) (pa_cons pe_int pa_nil))) (fun _ _ => rfl)))
      (pss_one (ps_ret (pe_ix (ix_u (K := K)) (pe_lst (pa_cons (pe_op (op_addU (K := K)) (pv 2) pe_str) (pa_cons (pe_op (op_addU (K := K)) (pe_slice (sl_u (K := K)) (pv 2) po_none (po_some (pe_un un_neg pe_int))) pe_str) (pa_cons (pe_op (op_addU (K := K)) (pv 2) (pv 2)) (pa_cons (pe_op (op_addU (K := K)) pe_str (pv 2)) (pa_cons (pe_slice (sl_u (K := K)) (pv 2) (po_some pe_int) po_none) pa_nil)))))) (pe_call G__law_pick hr (by rfl) D__law_pick.m D__law_pick.F.kp D__law_pick.b .nil pass0 (pa_cons (pv 0) (pa_cons pe_int pa_nil))) (fun _ _ => rfl))))) pss_nil)
      (pss_cut (ps_if (pt_cmpR (op_eqU (K := K) (u64 hr)) (pv 1) pe_int (nomark _)) (pss_one (ps_ret (pe_call G__law_name hr (by rfl) D__law_name.m D__law_name.F.kp D__law_name.b .nil pass0 (pa_cons (pv 0) (pa_cons (pe_lst pa_nil) pa_nil))))) pss_nil)
      (pss_one (ps_ret (pe_ix (ix_u (K := K)) (pe_lst (pa_cons pe_str (pa_cons pe_str (pa_cons pe_str (pa_cons pe_str (pa_cons pe_str (pa_cons pe_str (pa_cons pe_str (pa_cons pe_str (pa_cons pe_str pa_nil)))))))))) (pe_call G__law_pick hr (by rfl) D__law_pick.m D__law_pick.F.kp D__law_pick.b .nil pass0 (pa_cons (pv 0) (pa_cons pe_int pa_nil))) (fun _ _ => rfl)))))))), ?_⟩
  walk_at "go"
  refine ⟨a, c, 5, rfl, S, by omega, by omega, fun r1 H1 h10 h11 S1 f1 => ?_⟩
  walk_at "go"
  refine r_nocut ?_
  walk_at "go"
  refine ite_d (fun h => ?_) (fun h => ?_)
  · walk_at "go"
    refine ⟨by walk_at "sz", fun p np => ?_⟩
    have e3 := Ex.new (o := HO.lst (wordsS.map V.str)) np
    obtain ⟨npa, npc⟩ := S1.new np
    walk_at "go"
    refine ⟨a, c, 6, rfl, S1.ex e3, by omega, by omega, fun r3 H3 h30 h31 S3 f3 => ?_⟩
    have hp3 : H3 p = some (.lst (wordsS.map V.str)) := f3 _ _ npa upd_same
    obtain ⟨x, hx, ha⟩ := at_map (g := V.str) (l := wordsS) h30 (by show r3 < 6; omega)
    refine r_ixL (.inl (SqL.of hp3)) ha ?_
    walk_at "go"
    have := q (tl x) H3 (.inl (words_run x hx).1) S3 ((f1.trans (.of e3)).trans f3)
    rw [show mk (tl x) = x from mk_tl x] at this
    exact this
  walk_at "go"
  refine r_nocut ?_
  walk_at "go"
  refine ite_d (fun h => ?_) (fun h => ?_)
  · walk_at "go"
    refine ⟨by walk_at "sz", fun p np => ?_⟩
    have e3 := Ex.new (o := HO.lst (wordsS.map V.str)) np
    obtain ⟨npa, npc⟩ := S1.new np
    walk_at "go"
    refine ⟨a, c, 6, rfl, S1.ex e3, by omega, by omega, fun r3 H3 h30 h31 S3 f3 => ?_⟩
    have hp3 : H3 p = some (.lst (wordsS.map V.str)) := f3 _ _ npa upd_same
    obtain ⟨x, hx, ha⟩ := at_map (g := V.str) (l := wordsS) h30 (by show r3 < 6; omega)
    obtain ⟨w0, w1, w2, w3, w4, w5⟩ := words_run x hx
    obtain ⟨l1, l2⟩ := words_len x hx
    have f03 := (f1.trans (.of e3)).trans f3
    refine r_ixL (.inl (SqL.of hp3)) ha ?_
    walk_at "go"
    rw [cutS_init (by omega)]
    have ld : (mk (tl x).dropLast).length ≤ 6 := by rw [mk_len, List.length_dropLast, ← len_tl]; omega
    walk_at "go"
    rw [show (1 : Int) = ((1 : Nat) : Int) from rfl, cutS_from (by omega)]
    refine ⟨by walk_at "sz", fun p4 np4 => ?_⟩
    have e4 := Ex.new (o := HO.lst [V.str (x ++ Str.ofString "s"), V.str (mk (tl x).dropLast ++ Str.ofString "1"), V.str (x ++ x), V.str (Str.ofString "x" ++ x), V.str (mk ((tl x).drop 1))]) np4
    obtain ⟨npa4, npc4⟩ := S3.new np4
    walk_at "go"
    refine ⟨a, c, 5, rfl, S3.ex e4, by omega, by omega, fun r5 H5 h50 h51 S5 f5 => ?_⟩
    have hp5 : H5 p4 = some (.lst [V.str (x ++ Str.ofString "s"), V.str (mk (tl x).dropLast ++ Str.ofString "1"), V.str (x ++ x), V.str (Str.ofString "x" ++ x), V.str (mk ((tl x).drop 1))]) := f5 _ _ npa4 upd_same
    have f05 := (f03.trans (.of e4)).trans f5
    have fin : ∀ (z : Str), isRun (tl z) = true → Q (.str z) H5 := fun z hz => by
      have := q (tl z) H5 (.inl hz) S5 f05
      rwa [show mk (tl z) = z from mk_tl z] at this
    have : r5 = 0 ∨ r5 = 1 ∨ r5 = 2 ∨ r5 = 3 ∨ r5 = 4 := by omega
    rcases this with rfl | rfl | rfl | rfl | rfl
    · walk_at "go"; exact fin _ (by rw [tl_append]; exact w1)
    · walk_at "go"; exact fin _ (by rw [tl_append]; exact w2)
    · walk_at "go"; exact fin _ (by rw [tl_append]; exact w3)
    · walk_at "go"; exact fin _ (by rw [tl_append]; exact w4)
    · walk_at "go"; exact fin _ (by rw [tl_mk]; exact w5)
  walk_at "go"
  refine r_nocut ?_
  walk_at "go"
  refine ite_d (fun h => ?_) (fun h => ?_)
  · walk_at "go"
    refine ⟨Nat.zero_le _, fun p np => ?_⟩
    have e3 := Ex.new (o := HO.lst []) np
    obtain ⟨npa, npc⟩ := S1.new np
    walk_at "go"
    refine ⟨a, c, p, [], rfl, S1.ex e3, upd_same, Nat.zero_le _, fun l H3 nm _ S3 f3 => ?_⟩
    walk_at "go"
    exact q l H3 (.inl (nm_run nm)) S3 ((f1.trans (.of e3)).trans f3)
  · walk_at "go"
    refine ⟨by walk_at "sz", fun p np => ?_⟩
    have e3 := Ex.new (o := HO.lst (marksS.map fun m => V.str (mk m))) np
    obtain ⟨npa, npc⟩ := S1.new np
    walk_at "go"
    refine ⟨a, c, 9, rfl, S1.ex e3, by omega, by omega, fun r3 H3 h30 h31 S3 f3 => ?_⟩
    have hp3 : H3 p = some (.lst (marksS.map fun m => V.str (mk m))) := f3 _ _ npa upd_same
    obtain ⟨x, hx, ha⟩ := at_map (g := fun m => V.str (mk m)) (l := marksS) h30 (by show r3 < 9; omega)
    refine r_ixL (.inl (SqL.of hp3)) ha ?_
    walk_at "go"
    exact q x H3 (marks_wd x hx) S3 ((f1.trans (.of e3)).trans f3)
/-- the due tokens -/
def sp_due (K : PySem.W.Frag) : Sp := fun vs H Q _ => ∃ (t pl : Addr) (ws : List (List Nat)) (ps : List Nat), vs = [.ref t, .ref pl] ∧ H t = some (.lst (ws.map fun w => V.str (mk w))) ∧ H pl = some (.lst (ps.map fun p => V.int (p : Nat))) ∧ ps.length = ws.length ∧ ws.length ≤ 5000 ∧ (∀ w ∈ ws, isWd w) ∧
  ∀ p H', Ex H H' → (∃ vs, H' p = some (.lst vs) ∧ DpAll K H' vs ((dueToks ws ps).map tokD)) → Q (.ref p) H'
theorem ok__law_due (D : Def K mg "_law_due" s__law_due ["_law_words", "_law_places"] f fd) (B : Blt mg) :
    FnOk P w K mg base CX0 (n + 1) f fd ["_law_words", "_law_places"] (sp_due K) := by
  refine D.F.ok sc__law_due (fun vs H Q E h => ?_) (fun cdv A outer s H vs Q E hr h => ?_)
  · obtain ⟨t, pl, ws, ps, rfl, _⟩ := h; rfl
  obtain ⟨t, pl, ws, ps, rfl, ht, hpl, hps, hwl, hws, q⟩ := h
  refine ⟨_, (pss_cons (ps_set (i := 2) sc__law_due.nd rfl (.inl rfl) (pe_lst pa_nil))
      (pss_cut (ps_for PassesOwn.never rfl (pi_range1 (by rfl) B.range (pa_cons (pe_callB (c_len (K := K)) (by rfl) B.len PySem.boot_len (pa_cons (pv 0) pa_nil)) pa_nil)) (pg_name (i := 3) sc__law_due.nd rfl (.inl rfl)) (pss_cons (ps_set (i := 4) sc__law_due.nd rfl (.inl rfl) pe_str)
      (pss_cut (ps_if (pt_cmpR (op_inU (K := K) (u65 hr)) (pe_ix (ix_u (K := K)) (pv 0) (pv 3) (fun _ _ => rfl)) (pe_tup (pa_cons pe_str (pa_cons pe_str (pa_cons pe_str (pa_cons pe_str (pa_cons pe_str (pa_cons pe_str pa_nil))))))) (by rfl)) (pss_one (ps_set (i := 4) sc__law_due.nd rfl (.inl rfl) pe_str)) (pss_one (ps_if (pt_cmpR (op_notInU (K := K) (u65 hr)) (pe_ix (ix_u (K := K)) (pe_ix (ix_u (K := K)) (pv 0) (pv 3) (fun _ _ => rfl)) pe_int (fun _ _ => rfl)) pe_str (by rfl)) (pss_one (ps_set (i := 4) sc__law_due.nd rfl (.inl rfl) pe_str)) pss_nil)))
      (pss_one (ps_expr (uBM_mk (K := K) (pe_bm PySem.F.plainAttrs_list PySem.F.slot_list_append PySem.F.type_list_append mt_append (pv 2) (pa_cons (pe_tup (pa_cons (pv 4) (pa_cons (pe_ix (ix_u (K := K)) (pv 0) (pv 3) (fun _ _ => rfl)) (pa_cons (pe_ix (ix_u (K := K)) (pv 1) (pv 3) (fun _ _ => rfl)) pa_nil)))) pa_nil))))))))
      (pss_one (ps_ret (pv 2))))), ?_⟩
  walk_at "go"
  refine ⟨Nat.zero_le _, fun fo nf => ?_⟩
  have e1 := Ex.new (o := HO.lst []) nf
  walk_at "go"
  refine r_nocut ?_
  have ht1 := e1 _ _ ht
  walk_at "go"
  refine ⟨_, rfl, by rw [List.length_map]; omega, by rw [List.length_map]; omega, ?_⟩
  have el : ((((ws.map fun w => V.str (mk w)).length : Nat) : Int)).toNat = ws.length := by rw [List.length_map]; omega
  rw [el]
  refine for_range (lo := 0) (n := ws.length) (fun i σ' H' => ∃ (x3 x4 : Option V) (vs : List V), σ' = [some (.ref t), some (.ref pl), some (.ref fo), x3, x4] ∧ Ex H H' ∧ H' fo = some (.lst vs) ∧ DpAll K H' vs ((dueToks (ws.take i) (ps.take i)).map tokD) ∧ vs.length ≤ i) ⟨none, none, [], rfl, e1, upd_same, .nil, Nat.le_refl _⟩ ?_ ?_
  · rintro i σ' H' hi ⟨x3, x4, vs, rfl, ee, hfo, hd, hvl⟩
    have ei : ((0 : Int) + (i : Nat)) = ((i : Nat) : Int) := by omega
    have hwi : ws[i]? = some ws[i] := List.getElem?_eq_getElem hi
    have hww := hws _ (List.getElem_mem hi)
    have hpi : ps[i]? = some ps[i] := List.getElem?_eq_getElem (by omega)
    generalize ws[i] = wd at hwi hww
    generalize ps[i] = pp at hpi
    obtain ⟨hw1, hw2⟩ := isWd_len hww
    obtain ⟨y, yt, rfl⟩ := List.exists_cons_of_ne_nil (List.length_pos_iff.mp hw1)
    have gi : (ws.map fun w => V.str (mk w))[i]? = some (.str (mk (y :: yt))) := by rw [List.getElem?_map, hwi]; rfl
    have gp : (ps.map fun p => V.int (p : Nat))[i]? = some (.int (pp : Nat)) := by rw [List.getElem?_map, hpi]; rfl
    have ht2 := ee _ _ ht
    have hpl2 := ee _ _ hpl
    have lwz : (mk (y :: yt)).length ≤ sizeLine := by rw [mk_len, sizeLine_eq]; omega
    rw [ei]
    walk_at "go"
    refine r_cut (fun σ2 H2 => σ2 = [some (.ref t), some (.ref pl), some (.ref fo), some (.int (i : Nat)), some (.str (dueKind (y :: yt)))] ∧ Ex H' H2) ?_ ?_
    · walk_at "go"
      refine ⟨by walk_at "sz", fun p5 np5 => ?_⟩
      refine r_inL (xs := wordsS.map V.str) (.inr (SqT.of upd_same)) rfl rfl ?_
      rw [inV_strs]
      have e5 := Ex.new (o := HO.tup (wordsS.map V.str)) np5
      have ht5 := e5 _ _ ht2
      walk_at "go"
      refine ite_d (fun h => ?_) (fun h => ?_)
      · walk_at "go"
        have : dueKind (y :: yt) = "word" := if_pos h
        rw [this]
        exact ⟨rfl, e5⟩
      · walk_at "go"
        refine r_ixS lwz (show atI (y :: yt) 0 = some y from atI_nat (j := 0) rfl) ?_
        walk_at "go"
        rw [small_iff]
        refine ite_nd (fun h2 => ?_) (fun h2 => ?_)
        · walk_at "go"
          have : dueKind (y :: yt) = "mark" := by unfold dueKind; rw [if_neg h]; exact if_neg h2
          rw [this]
          exact ⟨rfl, e5⟩
        · walk_at "go"
          have : dueKind (y :: yt) = "name" := by unfold dueKind; rw [if_neg h]; exact if_pos h2
          rw [this]
          exact ⟨rfl, e5⟩
    · rintro σ2 H2 ⟨rfl, e2⟩
      have ht3 := e2 _ _ ht2
      have hpl3 := e2 _ _ hpl2
      have hfo3 := e2 _ _ hfo
      walk_at "go"
      try (refine r_ixL (.inl (SqL.of hpl3)) (atI_nat gp) ?_; walk_at "go")
      refine ⟨by walk_at "sz", fun p5 np5 => ?_⟩
      have e5 := Ex.new (o := HO.tup [V.str (dueKind (y :: yt)), V.str (mk (y :: yt)), V.int (pp : Nat)]) np5
      have hfo5 := e5 _ _ hfo3
      walk_at "go"
      refine ⟨_, _, vs ++ [.ref p5], rfl, ((ee.trans e2).trans e5).mut nf, upd_same, ?_, by rw [List.length_append, List.length_singleton]; omega⟩
      have : dueToks (ws.take (i + 1)) (ps.take (i + 1)) = dueToks (ws.take i) (ps.take i) ++ [⟨dueKind (y :: yt), y :: yt, pp⟩] := by
        unfold dueToks
        rw [List.take_add_one, List.take_add_one, hwi, hpi, Option.toList_some, Option.toList_some, List.zipWith_append (by rw [List.length_take, List.length_take]; omega)]; rfl
      rw [this, List.map_append]
      exact dps_app (dps_keep (TEx.fr hfo5 .upd) (toks_no _) (dps_mono (e2.trans e5) hd)) (.cons (.tup (TEx.fr hfo5 .upd _ _ (SqT.of upd_same)) (.cons (.str _) (.cons (.str _) (.cons (.int _) .nil)))) .nil)
  · rintro σ' H' ⟨x3, x4, vs, rfl, ee, hfo, hd, hvl⟩
    rw [List.take_length, List.take_of_length_le (by omega)] at hd
    walk_at "go"
    exact q fo H' ee ⟨vs, hfo, hd⟩
end

set_option maxHeartbeats 8000000
theorem toks_wd (ts : List PL.Tok) (h : ts.length ≤ 5000) : wd 100000 2 (.list (ts.map tokD)) := by
  refine ⟨by rw [List.length_map]; omega, fun d hd => ?_⟩
  obtain ⟨t, _, rfl⟩ := List.mem_map.mp hd
  refine ⟨by show 3 ≤ 100000; decide, fun d hd => ?_⟩
  simp only [List.mem_cons, List.not_mem_nil, or_false] at hd
  rcases hd with rfl | rfl | rfl <;> trivial
def sp_law (K : PySem.W.Frag) : Sp := fun vs H Q _ => ∃ (a : Addr) (ns : List Int), vs = [.ref a] ∧ SqL K H a (ns.map V.int) ∧ ns.length ≤ 63 ∧ ∀ H', Q (.bl true) H'
section
variable {P : Program} {w : World} {K : PySem.W.Frag} {mg : Str → Option Value} {base : Heap} {f : Addr} {fd : FuncData} {n : Nat}
theorem ok_law {g1 g2 g3 g4 g5 g6 g7 : Addr} {d1 d2 d3 d4 d5 d6 d7 : FuncData} (D : Def K mg "law" s_law ["_law_script"] f fd) (B : Blt mg)
    (D__law_source : Def K mg "_law_source" s__law_source ["_law_script"] g1 d1) (G__law_source : FnOk P w K mg base CX0 n g1 d1 ["_law_script"] (sp_source K))
    (D__law_pick : Def K mg "_law_pick" s__law_pick ["_law_source_here", "_law_many"] g2 d2) (G__law_pick : FnOk P w K mg base CX0 n g2 d2 ["_law_source_here", "_law_many"] sp_pick)
    (D__law_token : Def K mg "_law_token" s__law_token ["_law_source_here"] g3 d3) (G__law_token : FnOk P w K mg base CX0 n g3 d3 ["_law_source_here"] sp_token)
    (D__law_spread : Def K mg "_law_spread" s__law_spread ["_law_source_here", "_law_words"] g4 d4) (G__law_spread : FnOk P w K mg base CX0 n g4 d4 ["_law_source_here", "_law_words"] sp_spread)
    (D__law_due : Def K mg "_law_due" s__law_due ["_law_words", "_law_places"] g5 d5) (G__law_due : FnOk P w K mg base CX0 n g5 d5 ["_law_words", "_law_places"] (sp_due K))
    (D_tokenize : Def K mg "tokenize" s_tokenize ["text"] g6 d6) (G_tokenize : FnOk P w K mg base CX0 n g6 d6 ["text"] (sp_tokenize K))
    (D__law_same : Def K mg "_law_same" s__law_same ["_law_actual", "_law_due_here"] g7 d7) (G__law_same : FnOk P w K mg base CX0 n g7 d7 ["_law_actual", "_law_due_here"] (sp_same K 3)) :
    FnOk P w K mg base CX0 (n + 1) f fd ["_law_script"] (sp_law K) := by
  refine D.F.ok sc_law (fun vs H Q E h => ?_) (fun cdv A outer s H vs Q E hr h => ?_)
  · obtain ⟨a, ns, rfl, _⟩ := h; rfl
  obtain ⟨sa, ns, rfl, hs, hn, q⟩ := h
  refine ⟨_, (pss_cons (ps_set (i := 1) sc_law.nd rfl (.inr rfl) (pe_call G__law_source hr (by rfl) D__law_source.m D__law_source.F.kp D__law_source.b .nil pass0 (pa_cons (pv 0) pa_nil)))
      (pss_cut (ps_for PassesOwn.never rfl (pi_range1 (by rfl) B.range (pa_cons (pe_op (op_addU (K := K)) pe_int (pe_callB (c_min2 rfl) (by rfl) B.min (by decide +kernel) (pa_cons pe_int (pa_cons (pe_callB (c_len (K := K)) (by rfl) B.len PySem.boot_len (pa_cons (pv 0) pa_nil)) pa_nil)))) pa_nil)) (pg_name (i := 2) sc_law.nd rfl (.inl rfl)) (pss_cons (ps_setLc (i := 3) (own := [("_law_j", 8)]) (g := gName 8) (tt := tYes) rfl sc_law.nd rfl rfl (sw_true rfl rfl rfl (by decide +kernel)) (pi_range1 (by rfl) B.range (pa_cons (pe_call G__law_pick hr (by rfl) D__law_pick.m D__law_pick.F.kp D__law_pick.b .nil pass0 (pa_cons (pv 1) (pa_cons pe_int pa_nil))) pa_nil)) (blkOk_by (own := [("_law_j", 8)]) (N := ["_law_script", "_law_source_here", "_law_k", "_law_words", "_law_text", "_law_places", "_law_due_here", "_law_told", "_law_j"]) (sc := defScope s_law) (by decide +kernel)) (fun _ _ _ _ _ => (pg_name (i := 8) sc_law.nd rfl (.inl rfl))) (fun _ _ _ _ _ => pts_nil) (fun _ _ _ _ _ => (pe_call G__law_token hr (by rfl) D__law_token.m D__law_token.F.kp D__law_token.b .nil pass0 (pa_cons (pv 1) pa_nil))))
      (pss_cons (ps_asg (pe_call G__law_spread hr (by rfl) D__law_spread.m D__law_spread.F.kp D__law_spread.b .nil pass0 (pa_cons (pv 1) (pa_cons (pv 3) pa_nil))) (pg_k (K := K) (pg_tup rfl (pgs_cons (pg_name (i := 4) sc_law.nd rfl (.inl rfl)) (pgs_cons (pg_name (i := 5) sc_law.nd rfl (.inl rfl)) pgs_nil)))))
      (pss_cons (ps_set (i := 6) sc_law.nd rfl (.inl rfl) (pe_call G__law_due hr (by rfl) D__law_due.m D__law_due.F.kp D__law_due.b .nil pass0 (pa_cons (pv 3) (pa_cons (pv 5) pa_nil))))
      (pss_cons (ps_set (i := 7) sc_law.nd rfl (.inl rfl) (pe_call G_tokenize hr (by rfl) D_tokenize.m D_tokenize.F.kp D_tokenize.b .nil pass0 (pa_cons (pv 4) pa_nil)))
      (pss_cut (ps_if (pt_not (pt_truthU (K := K) (pe_call G__law_same hr (by rfl) D__law_same.m D__law_same.F.kp D__law_same.b .nil pass0 (pa_cons (pv 7) (pa_cons (pv 6) pa_nil))) (by intro _; rfl))) (pss_one (ps_ret pe_bl)) pss_nil)
      (pss_cons (ps_expr (uBM_mk (K := K) (pe_bm PySem.F.plainAttrs_list PySem.F.slot_list_append PySem.F.type_list_append mt_append (pv 7) (pa_cons (pe_tup (pa_cons pe_str (pa_cons pe_str (pa_cons pe_int pa_nil)))) pa_nil))))
      (pss_one (ps_if (pt_not (pt_truthU (K := K) (pe_call G__law_same hr (by rfl) D__law_same.m D__law_same.F.kp D__law_same.b .nil pass0 (pa_cons (pe_call G_tokenize hr (by rfl) D_tokenize.m D_tokenize.F.kp D_tokenize.b .nil pass0 (pa_cons (pv 4) pa_nil)) (pa_cons (pv 6) pa_nil))) (by intro _; rfl))) (pss_one (ps_ret pe_bl)) pss_nil)))))))))
      (pss_one (ps_ret pe_bl)))), ?_⟩
  walk_at "go"
  refine ⟨sa, ns, rfl, hs, hn, fun a c H1 e1 n1 S1 => ?_⟩
  have hs1 := Evl.ex_l e1 hs
  walk_at "go"
  refine r_nocut ?_
  walk_at "go"
  try (refine r_lenL (.inl hs1) ?_; walk_at "go")
  rw [List.length_map]
  refine ⟨_, rfl, by split <;> omega, by split <;> omega, ?_⟩
  refine for_range (lo := 0) (n := ((5 : Int) + (if (ns.length : Int) < 60 then (ns.length : Int) else 60)).toNat) (fun i σ' H' => ∃ x2 x3 x4 x5 x6 x7, σ' = [some (.ref sa), some (.ref a), x2, x3, x4, x5, x6, x7, none] ∧ Src a c H') ⟨none, none, none, none, none, none, rfl, S1⟩ ?_ ?_
  · rintro i σ' H2 _ ⟨x2, x3, x4, x5, x6, x7, rfl, S2⟩
    walk_at "go"
    refine ⟨a, c, 15, rfl, S2, by omega, by omega, fun r3 H3 r30 r31 S3 f3 => ?_⟩
    walk_at "go"
    refine ⟨_, rfl, by omega, by omega, fun D1 nD1 => ?_⟩
    obtain ⟨na1, nc1⟩ := S3.new nD1
    refine lc_range (lo := 0) (n := r3.toNat) (fun i H' => ∃ ws : List (List Nat), H' D1 = some (.lst (ws.map fun w => V.str (mk w))) ∧ ws.length = i ∧ (∀ w ∈ ws, isWd w) ∧ Src a c H') ⟨[], upd_same, rfl, by simp, S3.upd na1 nc1⟩ ?_ ?_
    · rintro i H4 hi ⟨ws, h1, h2, h3, S4⟩
      walk_at "go"
      refine ⟨a, c, rfl, S4, fun wd H5 hwd S5 f5 => ?_⟩
      have h15 := f5 _ _ na1 h1
      refine ⟨_, h15, by rw [List.length_map, sizeLine_eq]; omega, ws ++ [wd], by rw [upd_same, List.map_append]; rfl, by rw [List.length_append, h2]; rfl, fun x hx => ?_, S5.upd na1 nc1⟩
      rcases List.mem_append.mp hx with hx | hx
      · exact h3 x hx
      · rw [List.mem_singleton.mp hx]; exact hwd
    · rintro H4 ⟨ws, h1, h2, h3, S4⟩
      have hwl : ws.length ≤ 15 := by omega
      walk_at "go"
      refine ⟨a, c, D1, ws, rfl, S4, h1, h3, by omega, fun pT pl T ps H5 S5 f5 hpT hpl hps hT hW => ?_⟩
      have h15 := f5 _ _ na1 h1
      walk_at "go"
      try (refine r_gTup (SqT.of hpT) rfl ?_)
      walk_at "go"
      refine ⟨D1, pl, ws, ps, rfl, h15, hpl, hps, by omega, h3, fun pd H6 e6 hd => ?_⟩
      obtain ⟨vd, hd1, hd2⟩ := hd
      have S6 := S5.ex e6
      have lT : (mk T).length ≤ 1000 := by rw [mk_len]; omega
      have hsc : scan (mk T).length 0 (tl (mk T)) = some (dueToks ws ps) := by rw [mk_len]; exact scan_written hW
      have hdl : (dueToks ws ps).length ≤ 5000 := by unfold dueToks; rw [List.length_zipWith]; omega
      have hwd := toks_wd _ hdl
      walk_at "go"
      refine ⟨mk T, dueToks ws ps, rfl, by omega, hsc, fun pt H7 e7 n7 ht => ?_⟩
      obtain ⟨vt, ht1, ht2⟩ := ht
      have hd7 := e7 _ _ hd1
      have dd7 := dps_mono e7 hd2
      have S7 := S6.ex e7
      have npd : pd ≠ pt := ne_of_none hd1 n7
      obtain ⟨npa, npc⟩ := S6.new n7
      walk_at "go"
      refine r_nocut ?_
      walk_at "go"
      refine ⟨_, _, _, rfl, .lst (SqL.of ht1) ht2, .lst (SqL.of hd7) dd7, ⟨2, rfl, hwd⟩, ?_⟩
      walk_at "go"
      have lvt := dps_len ht2
      rw [List.length_map] at lvt
      refine ⟨by walk_at "sz", fun px npx => ?_⟩
      have e8 := Ex.new (o := HO.tup [V.str (Str.ofString "mark"), V.str (Str.ofString ";"), V.int 0]) npx
      have ht8 := e8 _ _ ht1
      have hd8 := e8 _ _ hd7
      have S8 := S7.ex e8
      walk_at "go"
      refine ⟨mk T, dueToks ws ps, rfl, by omega, hsc, fun pt2 H9 e9 n9 ht' => ?_⟩
      obtain ⟨vt2, ht3, ht4⟩ := ht'
      have hd9 := e9 _ _ ((upd_ne npd).trans hd8)
      have dd9 := dps_mono e9 (dps_keep (TEx.fr ht8 (.upd (o := .lst (vt ++ [.ref px])))) (toks_no _) (dps_mono e8 dd7))
      have S9 := (S8.upd (o := .lst (vt ++ [.ref px])) npa npc).ex e9
      walk_at "go"
      refine ⟨_, _, _, rfl, .lst (SqL.of ht3) ht4, .lst (SqL.of hd9) dd9, ⟨2, rfl, hwd⟩, ?_⟩
      walk_at "go"
      exact ⟨_, _, _, _, _, _, rfl, S9⟩
  · rintro σ' H2 ⟨x2, x3, x4, x5, x6, x7, rfl, S2⟩
    walk_at "go"
    exact q _
end

set_option maxHeartbeats 8000000
/-! ### what the top has written -/
theorem all_mk {l : PySem.W.OpenLaw} {w : World} {K : PySem.W.Frag} {h : Heap} {mg : Str → Option Value} {fa f0 f1 f2 f3 f4 f5 f6 f7 f8 f9 f10 f11 f12 : Addr} (X : K.In h) (G : h.Ns mainGlobals mg) (hfa : mg "law" = some (.ref fa))
    {od0 an0 od1 an1 od2 an2 od3 an3 od4 an4 od5 an5 od6 an6 od7 an7 od8 an8 od9 an9 od10 an10 od11 an11 od12 an12 : Option Addr} {sl0 sl1 sl2 sl3 sl4 sl5 sl6 sl7 sl8 sl9 sl10 sl11 sl12 : Array (Option Value)} {oc0 kV0 dc0 pm0 cd0 ct0 oc1 kV1 dc1 pm1 cd1 ct1 oc2 kV2 dc2 pm2 cd2 ct2 oc3 kV3 dc3 pm3 cd3 ct3 oc4 kV4 dc4 pm4 cd4 ct4 oc5 kV5 dc5 pm5 cd5 ct5 oc6 kV6 dc6 pm6 cd6 ct6 oc7 kV7 dc7 pm7 cd7 ct7 oc8 kV8 dc8 pm8 cd8 ct8 oc9 kV9 dc9 pm9 cd9 ct9 oc10 kV10 dc10 pm10 cd10 ct10 oc11 kV11 dc11 pm11 cd11 ct11 oc12 kV12 dc12 pm12 cd12 ct12 : Value}
    (a0 : PySem.W.nsIn K mainGlobals "is_name_form" = some (some (.ref f0))) (l0 : K.lookup f0 = some ⟨oc0, od0, .func (PySem.W.fnOf "is_name_form" "is_name_form" (defArgs s_is_name_form) (defBody s_is_name_form) (defScope s_is_name_form) .none kV0 dc0 pm0 an0 cd0 ct0), sl0⟩) (c0 : PySem.W.codeIn K cd0 "is_name_form" = true) (k0 : PySem.W.keepIn K (.ref f0) = true)
    (a1 : PySem.W.nsIn K mainGlobals "run_end" = some (some (.ref f1))) (l1 : K.lookup f1 = some ⟨oc1, od1, .func (PySem.W.fnOf "run_end" "run_end" (defArgs s_run_end) (defBody s_run_end) (defScope s_run_end) .none kV1 dc1 pm1 an1 cd1 ct1), sl1⟩) (c1 : PySem.W.codeIn K cd1 "run_end" = true) (k1 : PySem.W.keepIn K (.ref f1) = true)
    (a2 : PySem.W.nsIn K mainGlobals "run_token" = some (some (.ref f2))) (l2 : K.lookup f2 = some ⟨oc2, od2, .func (PySem.W.fnOf "run_token" "run_token" (defArgs s_run_token) (defBody s_run_token) (defScope s_run_token) .none kV2 dc2 pm2 an2 cd2 ct2), sl2⟩) (c2 : PySem.W.codeIn K cd2 "run_token" = true) (k2 : PySem.W.keepIn K (.ref f2) = true)
    (a3 : PySem.W.nsIn K mainGlobals "tokenize" = some (some (.ref f3))) (l3 : K.lookup f3 = some ⟨oc3, od3, .func (PySem.W.fnOf "tokenize" "tokenize" (defArgs s_tokenize) (defBody s_tokenize) (defScope s_tokenize) .none kV3 dc3 pm3 an3 cd3 ct3), sl3⟩) (c3 : PySem.W.codeIn K cd3 "tokenize" = true) (k3 : PySem.W.keepIn K (.ref f3) = true)
    (a4 : PySem.W.nsIn K mainGlobals "_law_source" = some (some (.ref f4))) (l4 : K.lookup f4 = some ⟨oc4, od4, .func (PySem.W.fnOf "_law_source" "_law_source" (defArgs s__law_source) (defBody s__law_source) (defScope s__law_source) .none kV4 dc4 pm4 an4 cd4 ct4), sl4⟩) (c4 : PySem.W.codeIn K cd4 "_law_source" = true) (k4 : PySem.W.keepIn K (.ref f4) = true)
    (a5 : PySem.W.nsIn K mainGlobals "_law_pick" = some (some (.ref f5))) (l5 : K.lookup f5 = some ⟨oc5, od5, .func (PySem.W.fnOf "_law_pick" "_law_pick" (defArgs s__law_pick) (defBody s__law_pick) (defScope s__law_pick) .none kV5 dc5 pm5 an5 cd5 ct5), sl5⟩) (c5 : PySem.W.codeIn K cd5 "_law_pick" = true) (k5 : PySem.W.keepIn K (.ref f5) = true)
    (a6 : PySem.W.nsIn K mainGlobals "_law_name" = some (some (.ref f6))) (l6 : K.lookup f6 = some ⟨oc6, od6, .func (PySem.W.fnOf "_law_name" "_law_name" (defArgs s__law_name) (defBody s__law_name) (defScope s__law_name) .none kV6 dc6 pm6 an6 cd6 ct6), sl6⟩) (c6 : PySem.W.codeIn K cd6 "_law_name" = true) (k6 : PySem.W.keepIn K (.ref f6) = true)
    (a7 : PySem.W.nsIn K mainGlobals "_law_same" = some (some (.ref f7))) (l7 : K.lookup f7 = some ⟨oc7, od7, .func (PySem.W.fnOf "_law_same" "_law_same" (defArgs s__law_same) (defBody s__law_same) (defScope s__law_same) .none kV7 dc7 pm7 an7 cd7 ct7), sl7⟩) (c7 : PySem.W.codeIn K cd7 "_law_same" = true) (k7 : PySem.W.keepIn K (.ref f7) = true)
    (a8 : PySem.W.nsIn K mainGlobals "_law_blank" = some (some (.ref f8))) (l8 : K.lookup f8 = some ⟨oc8, od8, .func (PySem.W.fnOf "_law_blank" "_law_blank" (defArgs s__law_blank) (defBody s__law_blank) (defScope s__law_blank) .none kV8 dc8 pm8 an8 cd8 ct8), sl8⟩) (c8 : PySem.W.codeIn K cd8 "_law_blank" = true) (k8 : PySem.W.keepIn K (.ref f8) = true)
    (a9 : PySem.W.nsIn K mainGlobals "_law_spread" = some (some (.ref f9))) (l9 : K.lookup f9 = some ⟨oc9, od9, .func (PySem.W.fnOf "_law_spread" "_law_spread" (defArgs s__law_spread) (defBody s__law_spread) (defScope s__law_spread) .none kV9 dc9 pm9 an9 cd9 ct9), sl9⟩) (c9 : PySem.W.codeIn K cd9 "_law_spread" = true) (k9 : PySem.W.keepIn K (.ref f9) = true)
    (a10 : PySem.W.nsIn K mainGlobals "_law_token" = some (some (.ref f10))) (l10 : K.lookup f10 = some ⟨oc10, od10, .func (PySem.W.fnOf "_law_token" "_law_token" (defArgs s__law_token) (defBody s__law_token) (defScope s__law_token) .none kV10 dc10 pm10 an10 cd10 ct10), sl10⟩) (c10 : PySem.W.codeIn K cd10 "_law_token" = true) (k10 : PySem.W.keepIn K (.ref f10) = true)
    (a11 : PySem.W.nsIn K mainGlobals "_law_due" = some (some (.ref f11))) (l11 : K.lookup f11 = some ⟨oc11, od11, .func (PySem.W.fnOf "_law_due" "_law_due" (defArgs s__law_due) (defBody s__law_due) (defScope s__law_due) .none kV11 dc11 pm11 an11 cd11 ct11), sl11⟩) (c11 : PySem.W.codeIn K cd11 "_law_due" = true) (k11 : PySem.W.keepIn K (.ref f11) = true)
    (a12 : PySem.W.nsIn K mainGlobals "law" = some (some (.ref f12))) (l12 : K.lookup f12 = some ⟨oc12, od12, .func (PySem.W.fnOf "law" "law" (defArgs s_law) (defBody s_law) (defScope s_law) .none kV12 dc12 pm12 an12 cd12 ct12), sl12⟩) (c12 : PySem.W.codeIn K cd12 "law" = true) (k12 : PySem.W.keepIn K (.ref f12) = true)
    (z_len : PySem.W.nsIn K mainGlobals "len" = some none)
    (z_ord : PySem.W.nsIn K mainGlobals "ord" = some none)
    (z_str : PySem.W.nsIn K mainGlobals "str" = some none)
    (z_int : PySem.W.nsIn K mainGlobals "int" = some none)
    (z_list : PySem.W.nsIn K mainGlobals "list" = some none)
    (z_tuple : PySem.W.nsIn K mainGlobals "tuple" = some none)
    (z_range : PySem.W.nsIn K mainGlobals "range" = some none)
    (z_min : PySem.W.nsIn K mainGlobals "min" = some none)
    (z_max : PySem.W.nsIn K mainGlobals "max" = some none)
    (z_isinstance : PySem.W.nsIn K mainGlobals "isinstance" = some none)
    (z_sorted : PySem.W.nsIn K mainGlobals "sorted" = some none)
    (z_enumerate : PySem.W.nsIn K mainGlobals "enumerate" = some none)
    (z_set : PySem.W.nsIn K mainGlobals "set" = some none)
    (z_dict : PySem.W.nsIn K mainGlobals "dict" = some none)
    (z_sum : PySem.W.nsIn K mainGlobals "sum" = some none)
    (z_zip : PySem.W.nsIn K mainGlobals "zip" = some none)
    (z_bool : PySem.W.nsIn K mainGlobals "bool" = some none)
    {t_LONGEST : PySem.Tok} (q_LONGEST : PySem.W.nsIn K mainGlobals "LONGEST" = some (some (.int 12 t_LONGEST)))
    {t_SMALL : PySem.Tok} (q_SMALL : PySem.W.nsIn K mainGlobals "SMALL" = some (some (.str "abcdefghijklmnopqrstuvwxyz" t_SMALL)))
    {t_DIGITS : PySem.Tok} (q_DIGITS : PySem.W.nsIn K mainGlobals "DIGITS" = some (some (.str "0123456789" t_DIGITS)))
    {t_MARKS : PySem.Tok} (q_MARKS : PySem.W.nsIn K mainGlobals "MARKS" = some (some (.str "(){},;:|" t_MARKS)))
    {p_WORDS : Addr} {oc_WORDS : Value} {od_WORDS : Option Addr} {its_WORDS : Array Value} {n_WORDS : Nat} {sl_WORDS : Array (Option Value)} (q_WORDS : PySem.W.nsIn K mainGlobals "WORDS" = some (some (.ref p_WORDS))) (r_WORDS : K.lookup p_WORDS = some ⟨oc_WORDS, od_WORDS, .seq its_WORDS n_WORDS, sl_WORDS⟩) (s_WORDS : oc_WORDS = .type "tuple" ∧ its_WORDS.size ≤ 1000 ∧ Vals (wordsS.map V.str) its_WORDS.toList)
    : ∃ fd : FuncData, (∀ (s : Shared) (v : Value), BindsTo s fd ⟨[v], []⟩ [("_law_script", v)]) ∧ ∀ base : Heap, K.In base → base.Ns mainGlobals mg → FnOk l.prog w K mg base CX0 4 fa fd ["_law_script"] (sp_law K) := by
  have e := hfa.symm.trans (PySem.W.mg_of X G a12)
  cases e
  have B : Blt mg := ⟨PySem.W.mg_none_of X G z_len, PySem.W.mg_none_of X G z_ord, PySem.W.mg_none_of X G z_str, PySem.W.mg_none_of X G z_int, PySem.W.mg_none_of X G z_list, PySem.W.mg_none_of X G z_tuple, PySem.W.mg_none_of X G z_range, PySem.W.mg_none_of X G z_min, PySem.W.mg_none_of X G z_max, PySem.W.mg_none_of X G z_isinstance, PySem.W.mg_none_of X G z_sorted, PySem.W.mg_none_of X G z_enumerate, PySem.W.mg_none_of X G z_set, PySem.W.mg_none_of X G z_dict, PySem.W.mg_none_of X G z_sum, PySem.W.mg_none_of X G z_zip, PySem.W.mg_none_of X G z_bool⟩
  have F0 := fun_mk (st := s_is_name_form) l0 c0 k0
  have D_is_name_form : Def K mg "is_name_form" s_is_name_form ["run"] _ _ := ⟨F0, PySem.W.mg_of X G a0, F0.binds (ps := ["run"]) fun _ _ _ _ _ _ us hl => match us, hl with | [_], _ => rfl⟩
  have F1 := fun_mk (st := s_run_end) l1 c1 k1
  have D_run_end : Def K mg "run_end" s_run_end ["text", "start"] _ _ := ⟨F1, PySem.W.mg_of X G a1, F1.binds (ps := ["text", "start"]) fun _ _ _ _ _ _ us hl => match us, hl with | [_, _], _ => rfl⟩
  have F2 := fun_mk (st := s_run_token) l2 c2 k2
  have D_run_token : Def K mg "run_token" s_run_token ["run", "start"] _ _ := ⟨F2, PySem.W.mg_of X G a2, F2.binds (ps := ["run", "start"]) fun _ _ _ _ _ _ us hl => match us, hl with | [_, _], _ => rfl⟩
  have F3 := fun_mk (st := s_tokenize) l3 c3 k3
  have D_tokenize : Def K mg "tokenize" s_tokenize ["text"] _ _ := ⟨F3, PySem.W.mg_of X G a3, F3.binds (ps := ["text"]) fun _ _ _ _ _ _ us hl => match us, hl with | [_], _ => rfl⟩
  have F4 := fun_mk (st := s__law_source) l4 c4 k4
  have D__law_source : Def K mg "_law_source" s__law_source ["_law_script"] _ _ := ⟨F4, PySem.W.mg_of X G a4, F4.binds (ps := ["_law_script"]) fun _ _ _ _ _ _ us hl => match us, hl with | [_], _ => rfl⟩
  have F5 := fun_mk (st := s__law_pick) l5 c5 k5
  have D__law_pick : Def K mg "_law_pick" s__law_pick ["_law_source_here", "_law_many"] _ _ := ⟨F5, PySem.W.mg_of X G a5, F5.binds (ps := ["_law_source_here", "_law_many"]) fun _ _ _ _ _ _ us hl => match us, hl with | [_, _], _ => rfl⟩
  have F6 := fun_mk (st := s__law_name) l6 c6 k6
  have D__law_name : Def K mg "_law_name" s__law_name ["_law_source_here", "_law_taken"] _ _ := ⟨F6, PySem.W.mg_of X G a6, F6.binds (ps := ["_law_source_here", "_law_taken"]) fun _ _ _ _ _ _ us hl => match us, hl with | [_, _], _ => rfl⟩
  have F7 := fun_mk (st := s__law_same) l7 c7 k7
  have D__law_same : Def K mg "_law_same" s__law_same ["_law_actual", "_law_due_here"] _ _ := ⟨F7, PySem.W.mg_of X G a7, F7.binds (ps := ["_law_actual", "_law_due_here"]) fun _ _ _ _ _ _ us hl => match us, hl with | [_, _], _ => rfl⟩
  have F8 := fun_mk (st := s__law_blank) l8 c8 k8
  have D__law_blank : Def K mg "_law_blank" s__law_blank ["_law_source_here", "_law_least"] _ _ := ⟨F8, PySem.W.mg_of X G a8, F8.binds (ps := ["_law_source_here", "_law_least"]) fun _ _ _ _ _ _ us hl => match us, hl with | [_, _], _ => rfl⟩
  have F9 := fun_mk (st := s__law_spread) l9 c9 k9
  have D__law_spread : Def K mg "_law_spread" s__law_spread ["_law_source_here", "_law_words"] _ _ := ⟨F9, PySem.W.mg_of X G a9, F9.binds (ps := ["_law_source_here", "_law_words"]) fun _ _ _ _ _ _ us hl => match us, hl with | [_, _], _ => rfl⟩
  have F10 := fun_mk (st := s__law_token) l10 c10 k10
  have D__law_token : Def K mg "_law_token" s__law_token ["_law_source_here"] _ _ := ⟨F10, PySem.W.mg_of X G a10, F10.binds (ps := ["_law_source_here"]) fun _ _ _ _ _ _ us hl => match us, hl with | [_], _ => rfl⟩
  have F11 := fun_mk (st := s__law_due) l11 c11 k11
  have D__law_due : Def K mg "_law_due" s__law_due ["_law_words", "_law_places"] _ _ := ⟨F11, PySem.W.mg_of X G a11, F11.binds (ps := ["_law_words", "_law_places"]) fun _ _ _ _ _ _ us hl => match us, hl with | [_, _], _ => rfl⟩
  have F12 := fun_mk (st := s_law) l12 c12 k12
  have D_law : Def K mg "law" s_law ["_law_script"] _ _ := ⟨F12, PySem.W.mg_of X G a12, F12.binds (ps := ["_law_script"]) fun _ _ _ _ _ _ us hl => match us, hl with | [_], _ => rfl⟩
  have C_LONGEST : Cst mg "LONGEST" (.int 12) := ⟨_, PySem.W.mg_of X G q_LONGEST, ⟨_, rfl⟩⟩
  have C_SMALL : Cst mg "SMALL" (.str "abcdefghijklmnopqrstuvwxyz") := ⟨_, PySem.W.mg_of X G q_SMALL, ⟨_, rfl⟩⟩
  have C_DIGITS : Cst mg "DIGITS" (.str "0123456789") := ⟨_, PySem.W.mg_of X G q_DIGITS, ⟨_, rfl⟩⟩
  have C_MARKS : Cst mg "MARKS" (.str "(){},;:|") := ⟨_, PySem.W.mg_of X G q_MARKS, ⟨_, rfl⟩⟩
  have C_WORDS : Cst mg "WORDS" (.ref p_WORDS) := ⟨_, PySem.W.mg_of X G q_WORDS, rfl⟩
  have T_WORDS : ∀ H, SqT K H p_WORDS (wordsS.map V.str) := fun H => .inr ⟨_, its_WORDS, n_WORDS, r_WORDS, s_WORDS.1, rfl, Nat.le_of_lt (small1000 s_WORDS.2.1), s_WORDS.2.2⟩
  refine ⟨PySem.W.fnOf "law" "law" (defArgs s_law) (defBody s_law) (defScope s_law) .none kV12 dc12 pm12 an12 cd12 ct12, fun s v => .of_eq rfl, fun base _ _ => ?_⟩
  have G_is_name_form := ok_is_name_form (P := l.prog) (w := w) (base := base) (n := 0) D_is_name_form B C_LONGEST C_SMALL C_DIGITS
  have G_run_end := ok_run_end (P := l.prog) (w := w) (base := base) (n := 0) D_run_end B C_SMALL C_DIGITS
  have G_run_token := ok_run_token (P := l.prog) (w := w) (base := base) (n := 1) D_run_token B C_WORDS T_WORDS D_is_name_form (G_is_name_form.mono (by decide))
  have G_tokenize := ok_tokenize (P := l.prog) (w := w) (base := base) (n := 2) D_tokenize B C_SMALL C_DIGITS C_MARKS D_run_end (G_run_end.mono (by decide)) D_run_token (G_run_token.mono (by decide))
  have G__law_source := ok__law_source (P := l.prog) (w := w) (base := base) (n := 0) D__law_source B
  have G__law_pick := ok__law_pick (P := l.prog) (w := w) (base := base) (n := 0) D__law_pick B
  have G__law_name := ok__law_name (P := l.prog) (w := w) (base := base) (n := 1) D__law_name B D__law_pick (G__law_pick.mono (by decide))
  have G__law_same := ok__law_same (P := l.prog) (w := w) (base := base) D__law_same B 3
  have G__law_blank := ok__law_blank (P := l.prog) (w := w) (base := base) (n := 1) D__law_blank B D__law_pick (G__law_pick.mono (by decide))
  have G__law_spread := ok__law_spread (P := l.prog) (w := w) (base := base) (n := 2) D__law_spread B D__law_blank (G__law_blank.mono (by decide))
  have G__law_token := ok__law_token (P := l.prog) (w := w) (base := base) (n := 2) D__law_token B D__law_pick (G__law_pick.mono (by decide)) D__law_name (G__law_name.mono (by decide))
  have G__law_due := ok__law_due (P := l.prog) (w := w) (base := base) (n := 0) D__law_due B
  exact ok_law (P := l.prog) (w := w) (base := base) (n := 3) D_law B D__law_source (G__law_source.mono (by decide)) D__law_pick (G__law_pick.mono (by decide)) D__law_token (G__law_token.mono (by decide)) D__law_spread (G__law_spread.mono (by decide)) D__law_due (G__law_due.mono (by decide)) D_tokenize (G_tokenize.mono (by decide)) D__law_same (G__law_same.mono (by decide))
theorem walk {l : PySem.W.OpenLaw} {q : Program} {loose : List Str} {XP : (Str → Option Value) → Heap → Prop} {YP : World → Heap → Prop} {d : DefRec} {K : Params → PySem.W.Frag} (hn : l.most = some 63) (hdf : d.params.defaults = [])
    (hY : ∀ (w : World) (h : Heap), YP w h → (K w.params).In h)
    (F : ∀ (w : World) (mg : Str → Option Value) (fa : Addr) (h : Heap), (K w.params).In h → h.Ns mainGlobals mg → mg d.name = some (.ref fa) →
      ∃ fd : FuncData, (∀ (s : Shared) (u : Value), BindsTo s fd ⟨[u], []⟩ [("_law_script", u)]) ∧ ∀ base : Heap, (K w.params).In base → base.Ns mainGlobals mg → FnOk l.prog w (K w.params) mg base CX0 4 fa fd ["_law_script"] (sp_law (K w.params))) :
    PySem.W.WalkO q loose XP YP l.row.toRowW d [] (fun f vs => PySem.call f vs) :=
  L2.walk_of (n := 63) (k := 4) (x := "_law_script") (CX := fun _ => CX0) (sp := fun w => sp_law (K w.params)) hn (by decide) hdf ⟨rfl, by decide, by decide⟩ hY F (fun _ _ a ns hl _ hS => ⟨a, ns, rfl, hS, hl, fun _ => rfl⟩) fun _ _ _ _ _ z => z
end K01
open PySem PySem.W PyProof.Rows
set_option maxRecDepth 100000 in
set_option maxHeartbeats 0 in
theorem PySem.Challenge.cw_pactloom_k01_tokens_that_were_written_holds : PySem.Challenge.rw_pactloom_k01_tokens_that_were_written.Holds := by
  w_on; o_law; k_head; (case hw => w_witness2)
  k_fill
  refine K01.walk (l := PySem.Challenge.rw_pactloom_k01_tokens_that_were_written) rfl rfl (fun w h Y => PySem.W.kIn_of Y) ?F
  case F =>
    intro w mg fa h KX G hmg
    refine' K01.all_mk KX G hmg ?a0 ?l0 ?c0 ?k0 ?a1 ?l1 ?c1 ?k1 ?a2 ?l2 ?c2 ?k2 ?a3 ?l3 ?c3 ?k3 ?a4 ?l4 ?c4 ?k4 ?a5 ?l5 ?c5 ?k5 ?a6 ?l6 ?c6 ?k6 ?a7 ?l7 ?c7 ?k7 ?a8 ?l8 ?c8 ?k8 ?a9 ?l9 ?c9 ?k9 ?a10 ?l10 ?c10 ?k10 ?a11 ?l11 ?c11 ?k11 ?a12 ?l12 ?c12 ?k12 ?z_len ?z_ord ?z_str ?z_int ?z_list ?z_tuple ?z_range ?z_min ?z_max ?z_isinstance ?z_sorted ?z_enumerate ?z_set ?z_dict ?z_sum ?z_zip ?z_bool ?q_LONGEST ?q_SMALL ?q_DIGITS ?q_MARKS ?q_WORDS ?r_WORDS ?s_WORDS
    (case a0 => k_is)
    (case l0 => k_is)
    (case c0 => k_is)
    (case k0 => k_is)
    (case a1 => k_is)
    (case l1 => k_is)
    (case c1 => k_is)
    (case k1 => k_is)
    (case a2 => k_is)
    (case l2 => k_is)
    (case c2 => k_is)
    (case k2 => k_is)
    (case a3 => k_is)
    (case l3 => k_is)
    (case c3 => k_is)
    (case k3 => k_is)
    (case a4 => k_is)
    (case l4 => k_is)
    (case c4 => k_is)
    (case k4 => k_is)
    (case a5 => k_is)
    (case l5 => k_is)
    (case c5 => k_is)
    (case k5 => k_is)
    (case a6 => k_is)
    (case l6 => k_is)
    (case c6 => k_is)
    (case k6 => k_is)
    (case a7 => k_is)
    (case l7 => k_is)
    (case c7 => k_is)
    (case k7 => k_is)
    (case a8 => k_is)
    (case l8 => k_is)
    (case c8 => k_is)
    (case k8 => k_is)
    (case a9 => k_is)
    (case l9 => k_is)
    (case c9 => k_is)
    (case k9 => k_is)
    (case a10 => k_is)
    (case l10 => k_is)
    (case c10 => k_is)
    (case k10 => k_is)
    (case a11 => k_is)
    (case l11 => k_is)
    (case c11 => k_is)
    (case k11 => k_is)
    (case a12 => k_is)
    (case l12 => k_is)
    (case c12 => k_is)
    (case k12 => k_is)
    (case z_len => k_is)
    (case z_ord => k_is)
    (case z_str => k_is)
    (case z_int => k_is)
    (case z_list => k_is)
    (case z_tuple => k_is)
    (case z_range => k_is)
    (case z_min => k_is)
    (case z_max => k_is)
    (case z_isinstance => k_is)
    (case z_sorted => k_is)
    (case z_enumerate => k_is)
    (case z_set => k_is)
    (case z_dict => k_is)
    (case z_sum => k_is)
    (case z_zip => k_is)
    (case z_bool => k_is)
    (case q_LONGEST => k_is)
    (case q_SMALL => k_is)
    (case q_DIGITS => k_is)
    (case q_MARKS => k_is)
    (case q_WORDS => k_is)
    (case r_WORDS => k_is)
    (case s_WORDS => exact ⟨rfl, by decide, by repeat (first | exact .nil | refine .cons ⟨_, rfl⟩ ?_ | refine .cons rfl ?_)⟩)

