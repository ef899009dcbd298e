import PyProof.Rows.All
import Wide.All
import OpenK.AllK
import Wide.FinOn
import HandS.ForMost
import HandS.TupAny
import HandS.Deep
import HandS.IsInst
import HandS.Evl
import HandS.Flow
import HandS.Conv
import HandS.Zip
import HandS.Codes
import PySem.Challenge.RW_pactloom_k24_records_of_journals
set_option Elab.async false
set_option linter.all false
set_option maxRecDepth 100000
set_option maxHeartbeats 2000000
namespace PL
open PySem PySem.Spec PyProof.Rows L2

/-! ## rules by the values' kinds, so that a body's term follows from its letters alone -/
section
variable {X : Cx}
def uAdd (K : PySem.W.Frag) : R2 := fun x y H Q => match x with
  | .int i => ∃ j, y = .int j ∧ Q (.int (i + j)) H
  | .str a => ∃ b, y = .str b ∧ a.length + b.length ≤ sizeLine ∧ Q (.str (a ++ b)) H
  | .ref _ => rCat x y H Q ∨ rCatA K x y H Q
  | _ => False
theorem op_addU {K : PySem.W.Frag} (hK : X.K = K := by rfl) : OpR X (binaryOp .Add) (uAdd K) := by
  subst hK
  intro pins s σ H x y v u Q I rx ry h
  cases x with
  | int i => obtain ⟨j, rfl, q⟩ := h; exact op_add pins s σ H _ _ v u Q I rx ry ⟨i, j, rfl, rfl, q⟩
  | str a => obtain ⟨b, rfl, hl, q⟩ := h; exact op_add_str pins s σ H _ _ v u Q I rx ry ⟨a, b, rfl, rfl, hl, q⟩
  | ref a =>
    rcases h with h | h
    · exact op_cat pins s σ H _ _ v u Q I rx ry h
    · exact op_catA pins s σ H _ _ v u Q I rx ry h
  | _ => exact h.elim
def uMul : R2 := fun x y H Q => match x with
  | .int i => ∃ j, y = .int j ∧ CMul i j ∧ Q (.int (i * j)) H
  | .str a => ∃ n, y = .int n ∧ MulOk a n ∧ Q (.str (Txt.mul a n)) H
  | .ref _ => rRep x y H Q
  | _ => False
theorem op_mulU : OpR X (binaryOp .Mult) uMul := by
  intro pins s σ H x y v u Q I rx ry h
  cases x with
  | int i => obtain ⟨j, rfl, c, q⟩ := h; exact op_mul pins s σ H _ _ v u Q I rx ry ⟨i, j, rfl, rfl, c, q⟩
  | str a =>
    obtain ⟨n, rfl, c, q⟩ := h
    obtain ⟨t, rfl⟩ := rx
    obtain ⟨t', rfl⟩ := ry
    exact SB.mul c fun t'' k => ⟨.str _, H, I.tok _, ⟨_, rfl⟩, q⟩
  | ref a => exact op_rep pins s σ H _ _ v u Q I rx ry h
  | _ => exact h.elim
def uEq (K : PySem.W.Frag) : R2 := fun x y H Q => match scal x y with
  | true => Q (.bl (decide (x = y))) H
  | false => rEqD K x y H Q
theorem op_eqU {K : PySem.W.Frag} (hu : X.A.units + 64 < cLine) (hK : X.K = K := by rfl) : OpR X (compareOp .Eq) (uEq K) := by
  subst hK
  intro pins s σ H x y v u Q I rx ry h
  unfold uEq at h
  split at h
  · rename_i e; exact op_eq pins s σ H _ _ v u Q I rx ry ⟨e, h⟩
  · exact op_eqD hu pins s σ H _ _ v u Q I rx ry h
def uNe (K : PySem.W.Frag) : R2 := fun x y H Q => match scal x y with
  | true => Q (.bl (!decide (x = y))) H
  | false => rNeD K x y H Q
theorem op_neU {K : PySem.W.Frag} (hu : X.A.units + 64 < cLine) (hK : X.K = K := by rfl) : OpR X (compareOp .NotEq) (uNe K) := by
  subst hK
  intro pins s σ H x y v u Q I rx ry h
  unfold uNe at h
  split at h
  · rename_i e; exact op_ne pins s σ H _ _ v u Q I rx ry ⟨e, h⟩
  · exact op_neD hu pins s σ H _ _ v u Q I rx ry h
/-- in: a sign in a text; a flat thing in a list or tuple; data in a list -/
def uIn (K : PySem.W.Frag) (neg : Bool) : R2 := fun x y H Q => match y with
  | .str z => ∃ c : Nat, x = .str ⟨#[c]⟩ ∧ Q (.bl (if neg then !decide (c ∈ z.cps.toList) else decide (c ∈ z.cps.toList))) H
  | .ref _ => rIn K neg x y H Q ∨ (if neg then rNotInD K x y H Q else rInD K x y H Q)
  | _ => False
theorem op_inU {K : PySem.W.Frag} (hu : X.A.units + 65 < cLine) (hK : X.K = K := by rfl) : OpR X (compareOp .In) (uIn K false) := by
  subst hK
  intro pins s σ H x y v u Q I rx ry h
  cases y with
  | str z => obtain ⟨c, rfl, q⟩ := h; exact op_in_sign pins s σ H _ _ v u Q I rx ry ⟨c, z, rfl, rfl, q⟩
  | ref a =>
    rcases h with h | h
    · exact op_in_seq pins s σ H _ _ v u Q I rx ry h
    · exact op_inD hu pins s σ H _ _ v u Q I rx ry h
  | _ => exact h.elim
theorem op_notInU {K : PySem.W.Frag} (hu : X.A.units + 65 < cLine) (hK : X.K = K := by rfl) : OpR X (compareOp .NotIn) (uIn K true) := by
  subst hK
  intro pins s σ H x y v u Q I rx ry h
  cases y with
  | str z => obtain ⟨c, rfl, q⟩ := h; exact op_notIn_sign pins s σ H _ _ v u Q I rx ry ⟨c, z, rfl, rfl, q⟩
  | ref a =>
    rcases h with h | h
    · exact op_notIn_seq pins s σ H _ _ v u Q I rx ry h
    · exact op_notInD hu pins s σ H _ _ v u Q I rx ry h
  | _ => exact h.elim
/-- <, <=, >, >= of ints or texts -/
def uLt : R2 := fun x y H Q => match x with
  | .int i => ∃ j, y = .int j ∧ Q (.bl (decide (i < j))) H
  | .str a => ∃ b, y = .str b ∧ Q (.bl (decide (a.cps.toList < b.cps.toList))) H
  | _ => False
theorem op_ltU : OpR X (compareOp .Lt) uLt := by
  intro pins s σ H x y v u Q I rx ry h
  cases x with
  | int i => obtain ⟨j, rfl, q⟩ := h; exact op_lt pins s σ H _ _ v u Q I rx ry ⟨i, j, rfl, rfl, q⟩
  | str a => obtain ⟨b, rfl, q⟩ := h; exact op_lt_str pins s σ H _ _ v u Q I rx ry ⟨a, b, rfl, rfl, q⟩
  | _ => exact h.elim
def uLe : R2 := fun x y H Q => match x with
  | .int i => ∃ j, y = .int j ∧ Q (.bl (decide (i ≤ j))) H
  | .str a => ∃ b, y = .str b ∧ Q (.bl (!decide (b.cps.toList < a.cps.toList))) H
  | _ => False
theorem op_leU : OpR X (compareOp .LtE) uLe := by
  intro pins s σ H x y v u Q I rx ry h
  cases x with
  | int i => obtain ⟨j, rfl, q⟩ := h; exact op_le pins s σ H _ _ v u Q I rx ry ⟨i, j, rfl, rfl, q⟩
  | str a => obtain ⟨b, rfl, q⟩ := h; exact op_le_str pins s σ H _ _ v u Q I rx ry ⟨a, b, rfl, rfl, q⟩
  | _ => exact h.elim
def uGt : R2 := fun x y H Q => match x with
  | .int i => ∃ j, y = .int j ∧ Q (.bl (decide (j < i))) H
  | .str a => ∃ b, y = .str b ∧ Q (.bl (decide (b.cps.toList < a.cps.toList))) H
  | _ => False
theorem op_gtU : OpR X (compareOp .Gt) uGt := by
  intro pins s σ H x y v u Q I rx ry h
  cases x with
  | int i => obtain ⟨j, rfl, q⟩ := h; exact op_gt pins s σ H _ _ v u Q I rx ry ⟨i, j, rfl, rfl, q⟩
  | str a => obtain ⟨b, rfl, q⟩ := h; exact op_gt_str pins s σ H _ _ v u Q I rx ry ⟨a, b, rfl, rfl, q⟩
  | _ => exact h.elim
def uGe : R2 := fun x y H Q => match x with
  | .int i => ∃ j, y = .int j ∧ Q (.bl (decide (j ≤ i))) H
  | .str a => ∃ b, y = .str b ∧ Q (.bl (!decide (a.cps.toList < b.cps.toList))) H
  | _ => False
theorem op_geU : OpR X (compareOp .GtE) uGe := by
  intro pins s σ H x y v u Q I rx ry h
  cases x with
  | int i => obtain ⟨j, rfl, q⟩ := h; exact op_ge pins s σ H _ _ v u Q I rx ry ⟨i, j, rfl, rfl, q⟩
  | str a => obtain ⟨b, rfl, q⟩ := h; exact op_ge_str pins s σ H _ _ v u Q I rx ry ⟨a, b, rfl, rfl, q⟩
  | _ => exact h.elim
/-- o[i] -/
def uIx (K : PySem.W.Frag) : R2 := fun x y H Q => match x with
  | .str z => ∃ i c, y = .int i ∧ z.length ≤ sizeLine ∧ atI z.cps.toList i = some c ∧ Q (.str ⟨#[c]⟩) H
  | .ref p => ∃ xs i v, y = .int i ∧ (SqL K H p xs ∨ SqT K H p xs) ∧ atI xs i = some v ∧ Q v H
  | _ => False
theorem ix_u {K : PySem.W.Frag} (hK : X.K = K := by rfl) : IxR X (uIx K) := by
  subst hK
  intro va sl pins s σ H x y v u Q I rx ry h hp
  cases x with
  | str z => obtain ⟨i, c, rfl, hz, ha, q⟩ := h; exact ix_str va sl pins s σ H _ _ v u Q I rx ry ⟨z, i, c, rfl, rfl, hz, ha, q⟩ hp
  | ref p =>
    obtain ⟨xs, i, w, rfl, hs | hs, ha, q⟩ := h
    · exact ix_list va sl pins s σ H _ _ v u Q I rx ry ⟨p, xs, i, w, rfl, rfl, hs, ha, q⟩ hp
    · exact ix_tup va sl pins s σ H _ _ v u Q I rx ry ⟨p, xs, i, w, rfl, rfl, hs, ha, q⟩ hp
  | _ => exact h.elim
/-- o[lo:hi] -/
def uSl (K : PySem.W.Frag) : V → Option Int → Option Int → Hp → VK → Prop := fun x lo hi H Q => match x with
  | .str z => z.length ≤ sizeLine ∧ Q (.str (cutS z lo hi)) H
  | .ref _ => rSlL K x lo hi H Q ∨ rSlA K x lo hi H Q
  | _ => False
theorem sl_u {K : PySem.W.Frag} (hK : X.K = K := by rfl) : SlR X (uSl K) := by
  subst hK
  intro pins s σ H x v vl vu lo hi sl Q I rx hs pl pu h
  cases x with
  | str z => exact sl_str pins s σ H _ v vl vu lo hi sl Q I rx hs pl pu ⟨z, rfl, h⟩
  | ref p =>
    rcases h with h | h
    · exact sl_list pins s σ H _ v vl vu lo hi sl Q I rx hs pl pu h
    · exact sl_tupA pins s σ H _ v vl vu lo hi sl Q I rx hs pl pu h
  | _ => exact h.elim
/-- what a for walks: a list, a tuple, a text -/
def itOf (K : PySem.W.Frag) (x : V) (H : Hp) (J : It) : Prop := match x with
  | .ref a => ((∃ xs, SqL K H a xs) ∧ J = Itl K a) ∨ ((∃ xs, SqT K H a xs) ∧ J = Itt K a)
  | .str z => J = Its z
  | _ => False
def iAny (K : PySem.W.Frag) (tl : TE) : TI := fun σ H R => tl σ H fun x H1 => ∃ J, itOf K x H1 J ∧ R J H1
theorem pi_any {K : PySem.W.Frag} {tg l : Expr} {tl : TE} (hl : PE X l tl) (hK : X.K = K := by rfl) : PI X tg l (iAny K tl) := by
  subst hK
  refine ⟨fun pins s σ H R I h => ?_⟩
  refine thn (hl.run pins s σ H _ I h) fun v s1 ⟨x, H1, I1, r1, J, q1, q⟩ => ?_
  cases x with
  | ref a =>
    cases r1
    rcases q1 with ⟨⟨xs, hq⟩, rfl⟩ | ⟨⟨xs, hq⟩, rfl⟩
    · obtain ⟨its, rv, p, hz⟩ := I1.list hq
      refine wpAny_pyIter_list p.isList ?_
      refine ⟨s1.heap.objs.size, [s1.heap.objs.size], _, _, H1, rfl, I1.kept (t' := s1.toks) fun b o e => Heap.get?_push_of_some _ e, turn_list a _, ⟨_, Heap.get?_push_size _ rfl, rfl, rfl⟩, fun b hb => ?_, q⟩
      have e : b = s1.heap.objs.size := by simpa using hb
      subst e
      exact I1.fpOk (Nat.le_refl _) (I1.hok.fresh (Nat.le_refl _))
    · obtain ⟨its, rv, p, hz⟩ := I1.tuple hq
      refine wpAny_pyIter_tuple (show s1.heap.IsTuple a its.toArray from p) ?_
      refine ⟨s1.heap.objs.size, [s1.heap.objs.size], _, _, H1, rfl, I1.kept (t' := s1.toks) fun b o e => Heap.get?_push_of_some _ e, turn_tuple a _, ⟨_, Heap.get?_push_size _ rfl, rfl, rfl⟩, fun b hb => ?_, q⟩
      have e : b = s1.heap.objs.size := by simpa using hb
      subst e
      exact I1.fpOk (Nat.le_refl _) (I1.hok.fresh (Nat.le_refl _))
  | str x =>
    obtain ⟨t, rfl⟩ := r1
    cases (show J = Its x from q1)
    cases ha : x.cps.all (· < 128)
    · exact wpAny_pyIter_wide ha (pi_one (tk := s1.toks) I1 _ (turn_str _ x t "str_iterator" (.inr rfl)) ⟨_, Heap.get?_push_size _ rfl, rfl, rfl⟩ q)
    · exact wpAny_pyIter_ascii ha (pi_one (tk := s1.toks) I1 _ (turn_str _ x t "str_ascii_iterator" (.inl rfl)) ⟨_, Heap.get?_push_size _ rfl, rfl, rfl⟩ q)
  | _ => exact False.elim q1
/-! built-ins by name -/
def cLen (K : PySem.W.Frag) : List V → Hp → VK → Prop := fun xs H Q => ∃ x n, xs = [x] ∧ LenV K x H n ∧ Q (.int n) H
theorem c_len {K : PySem.W.Frag} (hK : X.K = K := by rfl) : CallR X (.builtin "len") (cLen K) := by subst hK; exact call_len
def cInt : List V → Hp → VK → Prop := fun xs H Q => match xs with
  | [.int i] => Q (.int i) H
  | [.bl k] => Q (.int (if k then 1 else 0)) H
  | [.str a] => ∃ n, PySem.intText? a = some n ∧ a.length ≤ 640 ∧ Q (.int n) H
  | _ => False
theorem c_int : CallR X (.type "int") cInt := by
  intro pins s σ H xs us Q I r h
  unfold cInt at h
  split at h
  · exact call_int1 pins s σ H _ us Q I r (.inl ⟨_, rfl, h⟩)
  · exact call_int1 pins s σ H _ us Q I r (.inr ⟨_, rfl, h⟩)
  · obtain ⟨n, h1, h2, q⟩ := h
    exact call_int_str pins s σ H _ us Q I r ⟨_, n, rfl, h1, h2, q⟩
  · exact h.elim
def cStr : List V → Hp → VK → Prop := fun xs H Q => ∃ i, xs = [.int i] ∧ i.natAbs.log2 < 1920 ∧ Q (.str (toString i)) H
theorem c_str : CallR X (.type "str") cStr := call_str_int
def cOrd : List V → Hp → VK → Prop := fun xs H Q => ∃ x, xs = [.str x] ∧ x.length = 1 ∧ Q (.int (x.cps.getD 0 0 : Nat)) H
theorem c_ord : CallR X (.builtin "ord") cOrd := call_ord
def cList (K : PySem.W.Frag) : List V → Hp → VK → Prop := fun xs H Q => ∃ p ys, xs = [.ref p] ∧ (SqL K H p ys ∨ SqT K H p ys) ∧ ∀ l, H l = none → Q (.ref l) (upd H l (.lst ys))
theorem c_list {K : PySem.W.Frag} (hK : X.K = K := by rfl) : CallR X (.type "list") (cList K) := by subst hK; exact call_list_of
def cTup (K : PySem.W.Frag) : List V → Hp → VK → Prop := fun xs H Q => ∃ p ys, xs = [.ref p] ∧ ((SqL K H p ys ∧ ∀ l, H l = none → Q (.ref l) (upd H l (.tup ys))) ∨ (SqT K H p ys ∧ Q (.ref p) H))
theorem c_tup {K : PySem.W.Frag} (hK : X.K = K := by rfl) : CallR X (.type "tuple") (cTup K) := by subst hK; exact call_tuple_of
def cMax2 : List V → Hp → VK → Prop := fun xs H Q => ∃ i j, xs = [.int i, .int j] ∧ Q (.int (if j > i then j else i)) H
theorem c_max2 (hc : X.calm = true) : CallR X (.builtin "max") cMax2 := call_max2 hc
def cMin2 : List V → Hp → VK → Prop := fun xs H Q => ∃ i j, xs = [.int i, .int j] ∧ Q (.int (if j < i then j else i)) H
theorem c_min2 (hc : X.calm = true) : CallR X (.builtin "min") cMin2 := call_min2 hc
theorem pg_k {K : PySem.W.Frag} {e : Expr} {t : TGs} {n : Nat} (h : PG X e (gTup X.K n t)) (hK : X.K = K := by rfl) : PG X e (gTup K n t) := by subst hK; exact h
def tTru (K : PySem.W.Frag) (ta : TE) : TT := fun σ H Q => ta σ H fun x H' => ∃ k, TruV K x H' k ∧ Q k H'
theorem pt_truthU {K : PySem.W.Frag} {a : Expr} {ta : TE} (ha : PE X a ta) (he : ∀ whole, isTrue a X.env whole = (do let v ← whole; standAt a.pos; holding [v] (truthy v))) (hK : X.K = K := by rfl) : PT X a (tTru K ta) := by subst hK; exact pt_truth ha he
def uBM (K : PySem.W.Frag) (T : String) (r : V → List V → Hp → VK → Prop) (to : TE) (t : TA) : TE := tBM K T r to t
def uBM0 (K : PySem.W.Frag) (T : String) (r : V → List V → Hp → VK → Prop) (to : TE) : TE := tBM0 K T r to
theorem uBM_mk {K : PySem.W.Frag} {e : Expr} {T : String} {r : V → List V → Hp → VK → Prop} {to : TE} {t : TA} (h : PE X e (tBM X.K T r to t)) (hK : X.K = K := by rfl) : PE X e (uBM K T r to t) := by subst hK; exact h
theorem uBM0_mk {K : PySem.W.Frag} {e : Expr} {T : String} {r : V → List V → Hp → VK → Prop} {to : TE} (h : PE X e (tBM0 X.K T r to)) (hK : X.K = K := by rfl) : PE X e (uBM0 K T r to) := by subst hK; exact h
def uJoin (K : PySem.W.Frag) : V → List V → Hp → VK → Prop := fun x xs H Q => ∃ a p, ∃ ys : List Str, x = .str a ∧ xs = [.ref p] ∧ (SqL K H p (ys.map V.str) ∨ SqT K H p (ys.map V.str)) ∧
      (ys.map (·.length)).sum + ys.length * a.length ≤ 16777216 ∧ Q (.str (Txt.join a ys)) H
theorem pe_joinU {K : PySem.W.Frag} {o e : Expr} {to te : TE} {apos pos : Pos} (ho : PE X o to) (he : PE X e te) (hs : starEach [e] X.env = [(false, eval e X.env)] := by rfl) (hbase : attributeBase o "join" X.env (eval o X.env) = eval o X.env := by rfl) (hline : (apos.endLine == pos.line) = true := by rfl) (hK : X.K = K := by rfl) :
    PE X (.Call (.Attribute o "join" apos) [e] [] pos) (tM1 (uJoin K) to te) := by subst hK; exact pe_join ho he hs hbase hline
def uSplit : V → List V → Hp → VK → Prop := fun x xs H Q => ∃ a b, x = .str a ∧ xs = [.str b] ∧ (b.length == 0) = false ∧ a.length + 2 ≤ sizeLine ∧ rNewStrs (Txt.split a b) H Q
theorem pe_splitU {o e : Expr} {to te : TE} {apos pos : Pos} (ho : PE X o to) (he : PE X e te) (hs : starEach [e] X.env = [(false, eval e X.env)] := by rfl) (hbase : attributeBase o "split" X.env (eval o X.env) = eval o X.env := by rfl) (hline : (apos.endLine == pos.line) = true := by rfl) :
    PE X (.Call (.Attribute o "split" apos) [e] [] pos) (tM1 uSplit to te) := pe_split ho he hs hbase hline
end
end PL

set_option Elab.async false
set_option linter.all false
set_option maxRecDepth 100000
set_option maxHeartbeats 2000000
namespace PL
open PySem PySem.Spec PyProof.Rows L2
open Evl (Ex)
open C8 (tCut pss_cut)

/-! ## defs of the text, constants, built-ins -/
structure Def (K : PySem.W.Frag) (mg : Str → Option Value) (x : Str) (st : Stmt) (ps : List Str) (f : Addr) (fd : FuncData) : Prop where
  F : Fun K x x st f fd
  m : mg x = some (.ref f)
  b : Binds K fd ps []
def Cst (mg : Str → Option Value) (x : Str) (v : V) : Prop := ∃ u, mg x = some u ∧ RelV v u
theorem slen (x y : Str) : (x ++ y).length = x.length + y.length := by rw [TL.len_tl, TL.tl_append, List.length_append, ← TL.len_tl, ← TL.len_tl]
theorem lit_len (s : String) : (Str.ofString s).length = s.toList.length := by rw [TL.len_tl, TL.tl_ofString, List.length_map]
theorem mk_len (l : List Nat) : (⟨l.toArray⟩ : Str).length = l.length := by rw [TL.len_tl]
theorem lit0 : (Str.ofString " ").length = 1 := rfl
theorem lit1 : (Str.ofString "\n").length = 1 := rfl
theorem lit2 : (Str.ofString ".").length = 1 := rfl
theorem lit3 : (Str.ofString "->").length = 2 := rfl
theorem lit4 : (Str.ofString "q").length = 1 := rfl
theorem lit5 : (Str.ofString "1").length = 1 := rfl
theorem lit6 : (Str.ofString " \n").length = 2 := rfl
theorem lit7 : (Str.ofString "  ").length = 2 := rfl
theorem lit8 : (Str.ofString "end").length = 3 := rfl
theorem lit9 : (Str.ofString "a").length = 1 := rfl
theorem lit10 : (Str.ofString "b").length = 1 := rfl
theorem lit11 : (Str.ofString "s").length = 1 := rfl
theorem lit12 : (Str.ofString "x").length = 1 := rfl
theorem lit13 : (Str.ofString "").length = 0 := rfl
theorem lit14 : (Str.ofString " -> ").length = 4 := rfl
theorem lit15 : (Str.ofString ": ").length = 2 := rfl
theorem lit16 : (Str.ofString "; ").length = 2 := rfl
theorem lit17 : (Str.ofString " | ").length = 3 := rfl
theorem lit18 : (Str.ofString "{").length = 1 := rfl
theorem lit19 : (Str.ofString "}").length = 1 := rfl
theorem lit20 : (Str.ofString "(").length = 1 := rfl
theorem lit21 : (Str.ofString ")").length = 1 := rfl
theorem lit22 : (Str.ofString ", ").length = 2 := rfl
theorem lit23 : (Str.ofString "state ").length = 6 := rfl
theorem lit24 : (Str.ofString "goto ").length = 5 := rfl
theorem lit25 : (Str.ofString " goto ").length = 6 := rfl
theorem lit26 : (Str.ofString " end").length = 4 := rfl
theorem pe_cst {X : Cx} {x : Str} {v : V} {pos : Pos} (hg : Gl X x) (h : Cst X.mg x v) (hd : (x == ("__debug__" : Str)) = false := by decide) : PE X (.Name x pos) (tC v) :=
  let ⟨_, hm, r⟩ := h; pe_glob hg hm r hd
theorem u64 {A : Around} {k : Nat} (r : Room k A) : A.units + 64 < cLine := by have := r.un; omega
theorem u65 {A : Around} {k : Nat} (r : Room k A) : A.units + 65 < cLine := by have := r.un; omega

/-! ## texts as lists of codes -/
abbrev mk (l : List Nat) : Str := ⟨l.toArray⟩
theorem mk_eq {z : Str} {l : List Nat} (h : TL.tl z = l) : z = mk l := by subst h; exact (TL.mk_tl z).symm
theorem mk_inj {a b : List Nat} : mk a = mk b ↔ a = b := ⟨fun e => by have := congrArg TL.tl e; exact this, fun e => by rw [e]⟩
theorem tl_cutS (z : Str) (lo hi : Option Int) : TL.tl (cutS z lo hi) = ((TL.tl z).drop (HT.sIx z.length 0 lo)).take (HT.sIx z.length z.length hi - HT.sIx z.length 0 lo) := rfl
theorem sIx_nat {n d i : Nat} (h : i ≤ n) : HT.sIx n d (some (i : Int)) = i := by
  show (if (i : Int) < 0 then ((i : Int) + (n : Int)).toNat else min (i : Int).toNat n) = i
  rw [if_neg (by omega)]; omega
theorem sIx_neg {n d i : Nat} (h : i ≤ n) (h0 : 0 < i) : HT.sIx n d (some (-(i : Int))) = n - i := by
  show (if (-(i : Int)) < 0 then (-(i : Int) + (n : Int)).toNat else min (-(i : Int)).toNat n) = n - i
  rw [if_pos (by omega)]; omega
theorem cutS_to {z : Str} {i : Nat} (h : i ≤ z.length) : cutS z none (some (i : Int)) = mk ((TL.tl z).take i) := by
  refine mk_eq ?_
  rw [tl_cutS, sIx_nat h]
  show ((TL.tl z).drop 0).take (i - 0) = _
  rw [List.drop_zero, Nat.sub_zero]
theorem cutS_from {z : Str} {i : Nat} (h : i ≤ z.length) : cutS z (some (i : Int)) none = mk ((TL.tl z).drop i) := by
  refine mk_eq ?_
  rw [tl_cutS, sIx_nat h]
  show ((TL.tl z).drop i).take (z.length - i) = _
  rw [List.take_of_length_le (by rw [List.length_drop, TL.len_tl]; exact Nat.le_refl _)]
theorem cutS_both {z : Str} {i j : Nat} (h : i ≤ z.length) (h2 : j ≤ z.length) : cutS z (some (i : Int)) (some (j : Int)) = mk (((TL.tl z).drop i).take (j - i)) := by
  refine mk_eq ?_
  rw [tl_cutS, sIx_nat h, sIx_nat h2]
theorem inV_strs (x : Str) : ∀ l : List Str, inV (.str x) (l.map V.str) = decide (x ∈ l)
  | [] => rfl
  | y :: l => by
    have ih := inV_strs x l
    show (eqV (.str y) (.str x) || inV (.str x) (l.map V.str)) = _
    rw [ih]
    show ((y == x) || _) = _
    by_cases h : x = y
    · subst h; simp
    · rw [beq_eq_false_iff_ne.mpr (Ne.symm h)]; simp [h]
theorem inV_ints (x : Int) : ∀ l : List Int, inV (.int x) (l.map V.int) = decide (x ∈ l)
  | [] => rfl
  | y :: l => by
    have ih := inV_ints x l
    show (eqV (.int y) (.int x) || inV (.int x) (l.map V.int)) = _
    rw [ih]
    show ((y == x) || _) = _
    by_cases h : x = y
    · subst h; simp
    · rw [beq_eq_false_iff_ne.mpr (Ne.symm h)]; simp [h]
theorem flat_strs (l : List Str) : (l.map V.str).all flatV = true := List.all_eq_true.mpr fun v hv => by obtain ⟨x, _, rfl⟩ := List.mem_map.mp hv; rfl
theorem flat_ints (l : List Int) : (l.map V.int).all flatV = true := List.all_eq_true.mpr fun v hv => by obtain ⟨x, _, rfl⟩ := List.mem_map.mp hv; rfl

/-! ## readings, one step each -/
section
variable {K : PySem.W.Frag} {σ : L2.St} {H : Hp} {D : Ends} {t u tb ts : TS} {te ta tc : TE} {tt tu tv : TT} {tA : TA} {Q : VK} {QB : Bool → Hp → Prop} {g : TG}
theorem r_seq (h : t { D with nx := u D } σ H) : tSeq t u D σ H := h
theorem r_nocut (h : t { D with nx := u D } σ H) : tCut t u D σ H := ⟨_, h, fun _ _ h => h⟩
theorem r_cut (Mid : L2.St → Hp → Prop) (h : t { D with nx := Mid } σ H) (k : ∀ σ' H', Mid σ' H' → u D σ' H') : tCut t u D σ H := ⟨Mid, h, k⟩
theorem r_asg (h : te σ H fun x H1 => g x σ H1 D.nx) : tAsg te g D σ H := h
theorem r_name {i : Nat} {v : V} {R : L2.St → Hp → Prop} (h : R (σ.set i (some v)) H) : gName i v σ H R := h
theorem r_drop (h : te σ H fun _ H1 => D.nx σ H1) : tDrop te D σ H := h
theorem r_ret (h : te σ H D.rt) : tRet te D σ H := h
theorem r_retN (h : D.rt .non H) : tRetN D σ H := h
theorem r_ifS (h : tt σ H fun b H1 => if b = true then t D σ H1 else u D σ H1) : tIfS tt t u D σ H := h
theorem r_next (h : D.nx σ H) : tNext D σ H := h
theorem r_brk (h : D.bk σ H) : tBreak D σ H := h
theorem r_cnt (h : D.ct σ H) : tCont D σ H := h
theorem r_aug {i : Nat} {ti : TIp} {x : V} (e : σ[i]? = some (some x)) (h : te σ H fun y H1 => ti x y H1 fun z H2 => D.nx (σ.set i (some z)) H2) : tAug i te ti D σ H := ⟨x, e, h⟩
theorem r_ipI {f : Int → Int → Int} {i j : Int} (h : Q (.int (f i j)) H) : ipI f (.int i) (.int j) H Q := ⟨i, j, rfl, rfl, h⟩
theorem r_var {i : Nat} {v : V} (e : σ[i]? = some (some v)) (q : Q v H) : tVar i σ H Q := ⟨v, e, q⟩
theorem r_C {v : V} (q : Q v H) : tC v σ H Q := q
theorem r_op {r : R2} (h : ta σ H fun x H1 => te σ H1 fun y H2 => r x y H2 Q) : tOp r ta te σ H Q := h
theorem r_un {r : V → Hp → VK → Prop} (h : ta σ H fun x H1 => r x H1 Q) : tUn r ta σ H Q := h
theorem r_rU {f : Int → V} {i : Int} (h : Q (f i) H) : rU f (.int i) H Q := ⟨i, rfl, h⟩
theorem r_I0 {f : Int → Int → V} {i j : Int} (h : Q (f i j) H) : rI0 f (.int i) (.int j) H Q := ⟨i, j, rfl, rfl, h⟩
theorem r_I {C : Int → Int → Prop} {f : Int → Int → V} {i j : Int} (c : C i j) (h : Q (f i j) H) : rI C f (.int i) (.int j) H Q := ⟨i, j, rfl, rfl, c, h⟩
theorem r_addI {i j : Int} (h : Q (.int (i + j)) H) : uAdd K (.int i) (.int j) H Q := ⟨j, rfl, h⟩
theorem r_addS {a b : Str} (l : a.length + b.length ≤ sizeLine) (h : Q (.str (a ++ b)) H) : uAdd K (.str a) (.str b) H Q := ⟨b, rfl, l, h⟩
theorem r_mulI {i j : Int} (c : CMul i j) (h : Q (.int (i * j)) H) : uMul (.int i) (.int j) H Q := ⟨j, rfl, c, h⟩
theorem r_eqI {i j : Int} (h : Q (.bl (decide (i = j))) H) : uEq K (.int i) (.int j) H Q := by
  show Q (.bl (decide (V.int i = V.int j))) H
  rw [dec_int, Bool.beq_eq_decide_eq]; exact h
theorem r_neI {i j : Int} (h : Q (.bl (!decide (i = j))) H) : uNe K (.int i) (.int j) H Q := by
  show Q (.bl (!decide (V.int i = V.int j))) H
  rw [dec_int, Bool.beq_eq_decide_eq]; exact h
theorem r_eqS {i j : Str} (h : Q (.bl (decide (i = j))) H) : uEq K (.str i) (.str j) H Q := by
  show Q (.bl (decide (V.str i = V.str j))) H
  have e : decide (V.str i = V.str j) = decide (i = j) := by simp
  rw [e]; exact h
theorem r_neS {i j : Str} (h : Q (.bl (!decide (i = j))) H) : uNe K (.str i) (.str j) H Q := by
  show Q (.bl (!decide (V.str i = V.str j))) H
  have e : decide (V.str i = V.str j) = decide (i = j) := by simp
  rw [e]; exact h
theorem r_eqB {i j : Bool} (h : Q (.bl (i == j)) H) : uEq K (.bl i) (.bl j) H Q := by
  show Q (.bl (decide (V.bl i = V.bl j))) H
  rw [dec_bl]; exact h
theorem r_neB {i j : Bool} (h : Q (.bl (!(i == j))) H) : uNe K (.bl i) (.bl j) H Q := by
  show Q (.bl (!decide (V.bl i = V.bl j))) H
  rw [dec_bl]; exact h
theorem r_eqD {x y : V} {d e : PyData} (hs : scal x y = false) (h1 : Dp K H x d) (h2 : Dp K H y e) (s1 : SeqAt.shaped d = true) (s2 : SeqAt.shaped e = true) (h : Q (.bl (PyData.eqv d e)) H) : uEq K x y H Q := by
  show (match scal x y with | true => Q (.bl (decide (x = y))) H | false => rEqD K x y H Q)
  rw [hs]; exact ⟨d, e, h1, h2, s1, s2, h⟩
theorem r_neD {x y : V} {d e : PyData} (hs : scal x y = false) (h1 : Dp K H x d) (h2 : Dp K H y e) (s1 : SeqAt.shaped d = true) (s2 : SeqAt.shaped e = true) (h : Q (.bl (!PyData.eqv d e)) H) : uNe K x y H Q := by
  show (match scal x y with | true => Q (.bl (!decide (x = y))) H | false => rNeD K x y H Q)
  rw [hs]; exact ⟨d, e, h1, h2, s1, s2, h⟩
theorem r_ltI {i j : Int} (h : Q (.bl (decide (i < j))) H) : uLt (.int i) (.int j) H Q := ⟨j, rfl, h⟩
theorem r_leI {i j : Int} (h : Q (.bl (decide (i ≤ j))) H) : uLe (.int i) (.int j) H Q := ⟨j, rfl, h⟩
theorem r_gtI {i j : Int} (h : Q (.bl (decide (j < i))) H) : uGt (.int i) (.int j) H Q := ⟨j, rfl, h⟩
theorem r_geI {i j : Int} (h : Q (.bl (decide (j ≤ i))) H) : uGe (.int i) (.int j) H Q := ⟨j, rfl, h⟩
theorem r_inC {c : Nat} {z : Str} (h : Q (.bl (decide (c ∈ z.cps.toList))) H) : uIn K false (.str ⟨#[c]⟩) (.str z) H Q := ⟨c, rfl, h⟩
theorem r_ninC {c : Nat} {z : Str} (h : Q (.bl (!decide (c ∈ z.cps.toList))) H) : uIn K true (.str ⟨#[c]⟩) (.str z) H Q := ⟨c, rfl, h⟩
theorem r_inL {x : V} {p : Addr} {xs : List V} (hs : SqL K H p xs ∨ SqT K H p xs) (f1 : flatV x = true) (f2 : xs.all flatV = true) (h : Q (.bl (inV x xs)) H) : uIn K false x (.ref p) H Q := .inl ⟨p, xs, rfl, hs, f1, f2, h⟩
theorem r_ninL {x : V} {p : Addr} {xs : List V} (hs : SqL K H p xs ∨ SqT K H p xs) (f1 : flatV x = true) (f2 : xs.all flatV = true) (h : Q (.bl (!inV x xs)) H) : uIn K true x (.ref p) H Q := .inl ⟨p, xs, rfl, hs, f1, f2, h⟩
theorem r_ixS {z : Str} {i : Int} {c : Nat} (hz : z.length ≤ sizeLine) (ha : atI z.cps.toList i = some c) (h : Q (.str ⟨#[c]⟩) H) : uIx K (.str z) (.int i) H Q := ⟨i, c, rfl, hz, ha, h⟩
theorem r_ixL {p : Addr} {xs : List V} {i : Int} {v : V} (hs : SqL K H p xs ∨ SqT K H p xs) (ha : atI xs i = some v) (h : Q v H) : uIx K (.ref p) (.int i) H Q := ⟨xs, i, v, rfl, hs, ha, h⟩
theorem r_slS {z : Str} {lo hi : Option Int} (hz : z.length ≤ sizeLine) (h : Q (.str (cutS z lo hi)) H) : uSl K (.str z) lo hi H Q := ⟨hz, h⟩
theorem r_sl {r : V → Option Int → Option Int → Hp → VK → Prop} {tl th : TO} (h : te σ H fun x H1 => tl σ H1 fun l H2 => th σ H2 fun u H3 => r x l u H3 Q) : tSl r te tl th σ H Q := h
theorem r_part {R : Option Int → Hp → Prop} (h : te σ H fun x H1 => ∃ i, x = .int i ∧ R (some i) H1) : tPart te σ H R := h
theorem r_nopart {R : Option Int → Hp → Prop} (h : R none H) : tNoPart σ H R := h
theorem r_exI {i : Int} {R : Int → Prop} (h : R i) : ∃ j, V.int i = .int j ∧ R j := ⟨i, rfl, h⟩
theorem r_exB {i : Bool} {R : Bool → Prop} (h : R i) : ∃ j, V.bl i = .bl j ∧ R j := ⟨i, rfl, h⟩
theorem r_test (h : te σ H fun x H' => ∃ k, x = .bl k ∧ QB k H') : tTest te σ H QB := h
theorem r_B (h : te σ H fun x H' => ∃ k, x = .bl k ∧ QB k H') : tB te σ H QB := h
theorem r_and (h : tt σ H fun c H1 => if c = true then tu σ H1 QB else QB false H1) : tAnd tt tu σ H QB := h
theorem r_or (h : tt σ H fun c H1 => if c = true then QB true H1 else tu σ H1 QB) : tOr tt tu σ H QB := h
theorem r_not (h : tt σ H fun c H1 => QB (!c) H1) : tNot tt σ H QB := h
theorem r_andV (h : ta σ H fun x H1 => ∃ c, x = .bl c ∧ if c = true then te σ H1 Q else Q (.bl false) H1) : tAndV ta te σ H Q := h
theorem r_orV (h : ta σ H fun x H1 => ∃ c, x = .bl c ∧ if c = true then Q (.bl true) H1 else te σ H1 Q) : tOrV ta te σ H Q := h
theorem r_notV (h : ta σ H fun x H1 => ∃ c, x = .bl c ∧ Q (.bl (!c)) H1) : tNotV ta σ H Q := h
theorem r_if (h : tt σ H fun c H1 => if c = true then ta σ H1 Q else te σ H1 Q) : tIf tt ta te σ H Q := h
theorem r_truB {b : Bool} {R : Bool → Prop} (h : R b) : ∃ k, TruV K (.bl b) H k ∧ R k := ⟨b, rfl, h⟩
theorem r_truI {i : Int} {R : Bool → Prop} (h : R (i != 0)) : ∃ k, TruV K (.int i) H k ∧ R k := ⟨_, rfl, h⟩
theorem r_truN {R : Bool → Prop} (h : R false) : ∃ k, TruV K .non H k ∧ R k := ⟨_, rfl, h⟩
theorem r_truL {a : Addr} {xs : List V} {R : Bool → Prop} (hs : SqL K H a xs ∨ SqT K H a xs) (h : R (!xs.isEmpty)) : ∃ k, TruV K (.ref a) H k ∧ R k :=
  ⟨_, hs.elim (fun z => .inl ⟨xs, z, rfl⟩) (fun z => .inr (.inl ⟨xs, z, rfl⟩)), h⟩
theorem r_nil {R : List V → Hp → Prop} (h : R [] H) : tNil σ H R := h
theorem r_cons {R : List V → Hp → Prop} (h : te σ H fun x H1 => tA σ H1 fun xs H2 => R (x :: xs) H2) : tCons te tA σ H R := h
theorem r_CB {r : List V → Hp → VK → Prop} (h : tA σ H fun vs H1 => r vs H1 Q) : tCB r tA σ H Q := h
theorem r_call {sp : Sp} {dvs : List V} {E : XK} (h : tA σ H fun vs H1 => sp (vs ++ dvs) H1 Q E) : tCall sp dvs E tA σ H Q := h
theorem r_lenL {p : Addr} {xs : List V} (hs : SqL K H p xs ∨ SqT K H p xs) (h : Q (.int xs.length) H) : cLen K [.ref p] H Q :=
  ⟨_, _, rfl, hs.elim (fun z => .inl ⟨xs, z, rfl⟩) (fun z => .inr ⟨xs, z, rfl⟩), h⟩
theorem r_lenS {z : Str} (hz : z.length ≤ sizeLine) (h : Q (.int z.length) H) : cLen K [.str z] H Q := ⟨_, _, rfl, ⟨hz, rfl⟩, h⟩
theorem r_intI {i : Int} (h : Q (.int i) H) : cInt [.int i] H Q := h
theorem r_str {i : Int} (c : i.natAbs.log2 < 1920) (h : Q (.str (toString i)) H) : cStr [.int i] H Q := ⟨i, rfl, c, h⟩
theorem r_min2 {i j : Int} (h : Q (.int (if j < i then j else i)) H) : cMin2 [.int i, .int j] H Q := ⟨i, j, rfl, h⟩
theorem r_max2 {i j : Int} (h : Q (.int (if j > i then j else i)) H) : cMax2 [.int i, .int j] H Q := ⟨i, j, rfl, h⟩
theorem r_ord {c : Nat} (h : Q (.int c) H) : cOrd [.str ⟨#[c]⟩] H Q := ⟨_, rfl, rfl, h⟩
theorem r_tup {R : VK} (h : tA σ H fun xs H1 => xs.length ≤ sizeLine ∧ ∀ p, H1 p = none → R (.ref p) (upd H1 p (.tup xs))) : tTup tA σ H R := h
theorem r_lst {R : VK} (h : tA σ H fun xs H1 => xs.length ≤ sizeLine ∧ ∀ p, H1 p = none → R (.ref p) (upd H1 p (.lst xs))) : tLst tA σ H R := h
theorem r_append {l : Addr} {xs : List V} {y : V} (hl : H l = some (.lst xs)) (hz : xs.length < sizeLine) (h : Q .non (upd H l (.lst (xs ++ [y])))) : rAppend (.ref l) [y] H Q := ⟨l, xs, y, rfl, rfl, hl, hz, h⟩
theorem r_BM {T : String} {r : V → List V → Hp → VK → Prop} (h : te σ H fun x H1 => tyV K T x H1 ∧ tA σ H1 fun xs H2 => r x xs H2 Q) : uBM K T r te tA σ H Q := h
theorem r_BM0 {T : String} {r : V → List V → Hp → VK → Prop} (h : te σ H fun x H1 => tyV K T x H1 ∧ r x [] H1 Q) : uBM0 K T r te σ H Q := h
theorem r_tyL {a : Addr} {xs : List V} {R : Prop} (hs : SqL K H a xs) (h : R) : tyV K "list" (.ref a) H ∧ R := ⟨.inl ⟨rfl, xs, hs⟩, h⟩
theorem r_M0 {r : V → List V → Hp → VK → Prop} {a : Str} (h : te σ H fun x H1 => (∃ a, x = .str a) ∧ r x [] H1 Q) : tM0 r te σ H Q := h
theorem r_M1 {r : V → List V → Hp → VK → Prop} (h : te σ H fun x H1 => (∃ a, x = .str a) ∧ ta σ H1 fun y H2 => r x [y] H2 Q) : tM1 r te ta σ H Q := h
theorem r_tyS {a : Str} {R : Prop} (h : R) : (∃ b, V.str a = .str b) ∧ R := ⟨⟨a, rfl⟩, h⟩
theorem r_gTup {n : Nat} {gs : TGs} {a : Addr} {xs : List V} {R : L2.St → Hp → Prop} (hs : SqT K H a xs) (hl : xs.length = n) (h : gs xs σ H R) : gTup K n gs (.ref a) σ H R := ⟨a, xs, rfl, hs, hl, h⟩
theorem r_gCons {v : V} {r : List V} {gs : TGs} {R : L2.St → Hp → Prop} (h : g v σ H fun σ' H' => gs r σ' H' R) : gCons g gs (v :: r) σ H R := ⟨v, r, rfl, h⟩
theorem r_gNil {R : L2.St → Hp → Prop} (h : R σ H) : gNil [] σ H R := ⟨rfl, h⟩
theorem r_gSub {v : V} {st : TSet} {R : L2.St → Hp → Prop} (h : te σ H fun o H1 => ta σ H1 fun i H2 => st o i v H2 fun H3 => R σ H3) : gSub te ta st v σ H R := h
theorem r_setL {p : Addr} {xs : List V} {k : Int} {j : Nat} {v : V} {R : Hp → Prop} (hp : H p = some (.lst xs)) (hj : ixN xs.length k = some j) (h : R (upd H p (.lst (xs.set j v)))) : rSetL (.ref p) (.int k) v H R := ⟨p, xs, k, j, rfl, rfl, hp, hj, h⟩
theorem r_isN {x : V} (h : Q (.bl (decide (x = .non))) H) : (fun (x y : V) (H : Hp) (Q : VK) => y = V.non ∧ Q (.bl (decide (x = .non))) H) x .non H Q := ⟨rfl, h⟩
theorem r_while (W : Nat → L2.St → Hp → Prop) (m0 : Nat) (h0 : W m0 σ H)
    (hs : ∀ m σ H, W m σ H → tt σ H fun b H1 => if b = true then ∃ N : L2.St → Hp → Prop, (∀ σ' H', N σ' H' → ∃ m', m' < m ∧ W m' σ' H') ∧ tb { D with nx := N, ct := N, bk := D.nx } σ H1 else D.nx σ H1) : tWhile tt tb D σ H :=
  ⟨W, ⟨m0, h0⟩, hs⟩
theorem r_turn {W : Nat → L2.St → Hp → Prop} {m : Nat} (h : tb { D with nx := fun σ' H' => ∃ m', m' < m ∧ W m' σ' H', ct := fun σ' H' => ∃ m', m' < m ∧ W m' σ' H', bk := D.nx } σ H) :
    ∃ N : L2.St → Hp → Prop, (∀ σ' H', N σ' H' → ∃ m', m' < m ∧ W m' σ' H') ∧ tb { D with nx := N, ct := N, bk := D.nx } σ H := ⟨_, fun _ _ h => h, h⟩
theorem r_for {wi : TI} (h : wi σ H fun J H1 => ∃ W : Nat → Nat → L2.St → Hp → Prop, (∃ m, W 0 m σ H1) ∧ ∀ i m σ H, W i m σ H →
  (J.stop i H ∧ D.nx σ H) ∨ (J.go i H ∧ ∃ N : L2.St → Hp → Prop, (∀ σ' H', N σ' H' → ∃ m', m' < m ∧ W (i + 1) m' σ' H') ∧ ∀ x H', J.yld i H x H' → g x σ H' fun σ2 H2 => tb { D with nx := N, ct := N, bk := D.nx } σ2 H2)) : tFor wi g tb D σ H := h
theorem r_iAny {R : It → Hp → Prop} (h : te σ H fun x H1 => ∃ J, itOf K x H1 J ∧ R J H1) : iAny K te σ H R := h
theorem r_itL {a : Addr} {xs : List V} {R : It → Prop} (hs : SqL K H a xs) (h : R (Itl K a)) : ∃ J, itOf K (.ref a) H J ∧ R J := ⟨_, .inl ⟨⟨xs, hs⟩, rfl⟩, h⟩
theorem r_itT {a : Addr} {xs : List V} {R : It → Prop} (hs : SqT K H a xs) (h : R (Itt K a)) : ∃ J, itOf K (.ref a) H J ∧ R J := ⟨_, .inr ⟨⟨xs, hs⟩, rfl⟩, h⟩
theorem r_itS {z : Str} {R : It → Prop} (h : R (Its z)) : ∃ J, itOf K (.str z) H J ∧ R J := ⟨_, rfl, h⟩
theorem r_tru (h : te σ H fun x H' => ∃ k, TruV K x H' k ∧ QB k H') : tTru K te σ H QB := h
theorem r_rng1 {R : It → Hp → Prop} (h : tA σ H fun vs H1 => ∃ j : Int, vs = [.int j] ∧ -(2 ^ 62) ≤ j ∧ j < 2 ^ 62 ∧ R (Itr 0 j.toNat) H1) : iRng1 tA σ H R := h
theorem r_rng2 {R : It → Hp → Prop} (h : tA σ H fun vs H1 => ∃ i j : Int, vs = [.int i, .int j] ∧ (-(2 ^ 62) ≤ i ∧ i < 2 ^ 62 ∧ -(2 ^ 62) ≤ j ∧ j < 2 ^ 62) ∧ R (Itr i (j - i).toNat) H1) : iRng2 tA σ H R := h
/-! data -/
mutual
theorem dp_mono {H' : Hp} (e : Ex H H') : ∀ {v : V} {d : PyData}, Dp K H v d → Dp K H' v d
  | _, _, .non => .non
  | _, _, .bl b => .bl b
  | _, _, .int i => .int i
  | _, _, .str x => .str x
  | _, _, .lst h a => .lst (Evl.ex_l e h) (dps_mono e a)
  | _, _, .tup h a => .tup (Evl.ex_t e h) (dps_mono e a)
theorem dps_mono {H' : Hp} (e : Ex H H') : ∀ {vs : List V} {ds : List PyData}, DpAll K H vs ds → DpAll K H' vs ds
  | _, _, .nil => .nil
  | _, _, .cons h a => .cons (dp_mono e h) (dps_mono e a)
end
/-- all tuples stand -/
def TEx (K : PySem.W.Frag) (H H' : Hp) : Prop := ∀ b xs, SqT K H b xs → SqT K H' b xs
theorem TEx.refl (H : Hp) : TEx K H H := fun _ _ h => h
theorem TEx.trans {H H1 H2 : Hp} (a : TEx K H H1) (b : TEx K H1 H2) : TEx K H H2 := fun x o h => b x o (a x o h)
theorem TEx.of {H H' : Hp} (e : Ex H H') : TEx K H H' := fun _ _ h => Evl.ex_t e h
/-- all but a stands -/
def Fr (a : Addr) (H H' : Hp) : Prop := ∀ b o, b ≠ a → H b = some o → H' b = some o
theorem Fr.refl (a : Addr) (H : Hp) : Fr a H H := fun _ _ _ h => h
theorem Fr.trans {a : Addr} {H H1 H2 : Hp} (x : Fr a H H1) (y : Fr a H1 H2) : Fr a H H2 := fun b o hb h => y b o hb (x b o hb h)
theorem Fr.of {a : Addr} {H H' : Hp} (e : Ex H H') : Fr a H H' := fun b o _ h => e b o h
theorem Fr.upd {a : Addr} {H : Hp} {o : HO} : Fr a H (upd H a o) := fun b u hb h => (upd_ne hb).trans h
theorem TEx.fr {a : Addr} {xs : List V} {H H' : Hp} (h : H a = some (.lst xs)) (f : Fr a H H') : TEx K H H' := fun b ys ht => by
  rcases ht with (ht | ⟨o, ht⟩) | ht
  · exact .inl (.inl (f b _ (fun e => by subst e; rw [h] at ht; cases ht) ht))
  · exact .inl (.inr ⟨o, f b _ (fun e => by subst e; rw [h] at ht; cases ht) ht⟩)
  · exact .inr ht
theorem Fr.free {a p : Addr} {o : HO} {H H' : Hp} (f : Fr a H H') (ha : H' a = some o) (hp : H' p = none) : H p = none := by
  cases q : H p with
  | none => rfl
  | some u =>
    by_cases e : p = a
    · subst e; rw [ha] at hp; cases hp
    · rw [f p u e q] at hp; cases hp
theorem Ex.of_fr {a : Addr} {H H1 H2 : Hp} (e : Ex H H1) (f : Fr a H1 H2) (ha : H a = none) : Ex H H2 := fun b o h => f b o (fun z => by subst z; rw [ha] at h; cases h) (e b o h)
/-- data without lists: whatever list changes, it stays -/
def noList : PyData → Bool
  | .list _ => false
  | .tuple ds => noLists ds
  | _ => true
where noLists : List PyData → Bool
  | [] => true
  | d :: ds => noList d && noLists ds
mutual
theorem dp_keep {H' : Hp} (e : TEx K H H') : ∀ {v : V} {d : PyData}, noList d = true → Dp K H v d → Dp K H' v d
  | _, _, _, .non => .non
  | _, _, _, .bl b => .bl b
  | _, _, _, .int i => .int i
  | _, _, _, .str x => .str x
  | _, _, z, .lst _ _ => nomatch z
  | _, _, z, .tup ht q => .tup (e _ _ ht) (dps_keep e z q)
theorem dps_keep {H' : Hp} (e : TEx K H H') : ∀ {vs : List V} {ds : List PyData}, noList.noLists ds = true → DpAll K H vs ds → DpAll K H' vs ds
  | _, _, _, .nil => .nil
  | _, _, z, .cons p q => .cons (dp_keep e (Bool.and_eq_true_iff.mp z).1 p) (dps_keep e (Bool.and_eq_true_iff.mp z).2 q)
end
theorem dps_app : ∀ {vs ws : List V} {ds es : List PyData}, DpAll K H vs ds → DpAll K H ws es → DpAll K H (vs ++ ws) (ds ++ es)
  | _, _, _, _, .nil, h => h
  | _, _, _, _, .cons h a, g => .cons h (dps_app a g)
theorem dps_len : ∀ {vs : List V} {ds : List PyData}, DpAll K H vs ds → vs.length = ds.length
  | _, _, .nil => rfl
  | _, _, .cons _ a => congrArg (· + 1) (dps_len a)
theorem dps_get : ∀ {vs : List V} {ds : List PyData} {i : Nat} {d : PyData}, DpAll K H vs ds → ds[i]? = some d → ∃ v, vs[i]? = some v ∧ Dp K H v d
  | _, _, _, _, .nil, e => by simp at e
  | _, _, 0, _, .cons h _, e => by simp at e; subst e; exact ⟨_, rfl, h⟩
  | _, _, i + 1, _, .cons _ a, e => by
    obtain ⟨v, h1, h2⟩ := dps_get (i := i) a (by simpa using e)
    exact ⟨v, by simpa using h1, h2⟩
theorem dps_getV : ∀ {vs : List V} {ds : List PyData} {i : Nat} {v : V}, DpAll K H vs ds → vs[i]? = some v → ∃ d, ds[i]? = some d ∧ Dp K H v d
  | _, _, _, _, .nil, e => by simp at e
  | _, _, 0, _, .cons h _, e => by simp at e; subst e; exact ⟨_, rfl, h⟩
  | _, _, i + 1, _, .cons _ a, e => by
    obtain ⟨d, h1, h2⟩ := dps_getV (i := i) a (by simpa using e)
    exact ⟨d, by simpa using h1, h2⟩
theorem dps_strs : ∀ l : List Str, DpAll K H (l.map V.str) (l.map PyData.str)
  | [] => .nil
  | x :: l => .cons (.str x) (dps_strs l)
theorem dps_take : ∀ {vs : List V} {ds : List PyData} (n : Nat), DpAll K H vs ds → DpAll K H (vs.take n) (ds.take n)
  | _, _, 0, _ => .nil
  | _, _, _ + 1, .nil => .nil
  | _, _, n + 1, .cons h a => .cons h (dps_take n a)
theorem r_nn {R : Prop} (h : R) : V.non = V.non ∧ R := ⟨rfl, h⟩
theorem r_nonT {A B : Prop} (h : A) : if decide (V.non = V.non) = true then A else B := iteT h
theorem r_refF {a : Addr} {A B : Prop} (h : B) : if decide (V.ref a = V.non) = true then A else B := iteF h
theorem r_intF {a : Int} {A B : Prop} (h : B) : if decide (V.int a = V.non) = true then A else B := iteF h
theorem r_strF {a : Str} {A B : Prop} (h : B) : if decide (V.str a = V.non) = true then A else B := iteF h
theorem r_nonF {A B : Prop} (h : B) : if (!decide (V.non = V.non)) = true then A else B := iteF h
theorem r_refT {a : Addr} {A B : Prop} (h : A) : if (!decide (V.ref a = V.non)) = true then A else B := iteT h
theorem r_intT {a : Int} {A B : Prop} (h : A) : if (!decide (V.int a = V.non)) = true then A else B := iteT h
theorem r_strT {a : Str} {A B : Prop} (h : A) : if (!decide (V.str a = V.non)) = true then A else B := iteT h
/-! branches -/
theorem ite_d {p A B : Prop} [Decidable p] (h1 : p → A) (h2 : ¬ p → B) : if decide p = true then A else B := by
  by_cases h : p
  · rw [decide_eq_true h]; exact iteT (h1 h)
  · rw [decide_eq_false h]; exact iteF (h2 h)
theorem ite_nd {p A B : Prop} [Decidable p] (h1 : ¬ p → A) (h2 : p → B) : if (!decide p) = true then A else B := by
  by_cases h : p
  · rw [decide_eq_true h]; exact iteF (h2 h)
  · rw [decide_eq_false h]; exact iteT (h1 h)
theorem ite_T {p A B : Prop} [Decidable p] (h : p) (h1 : A) : if decide p = true then A else B := ite_d (fun _ => h1) fun z => absurd h z
theorem ite_F {p A B : Prop} [Decidable p] (h : ¬ p) (h1 : B) : if decide p = true then A else B := ite_d (fun z => absurd z h) fun _ => h1
theorem ite_nT {p A B : Prop} [Decidable p] (h : ¬ p) (h1 : A) : if (!decide p) = true then A else B := ite_nd (fun _ => h1) fun z => absurd z h
theorem ite_nF {p A B : Prop} [Decidable p] (h : p) (h1 : B) : if (!decide p) = true then A else B := ite_nd (fun z => absurd h z) fun _ => h1
theorem ite_b {b : Bool} {A B : Prop} (h1 : b = true → A) (h2 : b = false → B) : if b = true then A else B := by
  cases b
  · exact iteF (h2 rfl)
  · exact iteT (h1 rfl)
theorem for_text {z : Str} (Pv : Nat → L2.St → Hp → Prop) (h0 : Pv 0 σ H)
    (hs : ∀ i (c : Nat) σ H, z.cps.toList[i]? = some c → Pv i σ H → g (.str ⟨#[c]⟩) σ H fun σ2 H2 => tb { D with nx := Pv (i + 1), ct := Pv (i + 1), bk := D.nx } σ2 H2) (hd : ∀ σ H, Pv z.length σ H → D.nx σ H) :
    ∃ W : Nat → Nat → L2.St → Hp → Prop, (∃ m, W 0 m σ H) ∧ ∀ i m σ H, W i m σ H →
      ((Its z).stop i H ∧ D.nx σ H) ∨ ((Its z).go i H ∧ ∃ N : L2.St → Hp → Prop, (∀ σ' H', N σ' H' → ∃ m', m' < m ∧ W (i + 1) m' σ' H') ∧ ∀ x H', (Its z).yld i H x H' → g x σ H' fun σ2 H2 => tb { D with nx := N, ct := N, bk := D.nx } σ2 H2) := by
  refine ⟨fun i m σ H => m = z.length - i ∧ i ≤ z.length ∧ Pv i σ H, ⟨z.length, by simp, Nat.zero_le _, h0⟩, ?_⟩
  rintro i m σ H ⟨rfl, hi, p⟩
  by_cases hlt : i < z.length
  · refine .inr ⟨hlt, Pv (i + 1), fun σ' H' p' => ⟨z.length - (i + 1), by omega, rfl, hlt, p'⟩, fun x H' y => ?_⟩
    obtain ⟨e, c, hc, e2⟩ := y
    subst e e2
    exact hs i c σ _ (by rw [Array.getElem?_toList]; exact hc) p
  · have e : i = z.length := by omega
    subst e
    exact .inl ⟨Nat.le_refl _, hd σ H p⟩
theorem lc_text {z : Str} {tt : TT} {te : TE} {vs : List Nat} {H1 : Hp} {D : Addr} {Qd : Hp → Prop} (Pv : Nat → Hp → Prop) (h0 : Pv 0 (upd H1 D (.lst [])))
    (hs : ∀ i (c : Nat) H, z.cps.toList[i]? = some c → Pv i H → g (.str ⟨#[c]⟩) (wipe σ vs) H fun σ2 H2 => wipe σ2 vs = wipe σ vs ∧ tt σ2 H2 fun b H3 =>
      if b = true then te σ2 H3 fun y H4 => ∃ acc, H4 D = some (.lst acc) ∧ acc.length < sizeLine ∧ Pv (i + 1) (upd H4 D (.lst (acc ++ [y]))) else Pv (i + 1) H3) (hd : ∀ H, Pv z.length H → Qd H) :
    ∃ W : Nat → Nat → Hp → Prop, (∃ m, W 0 m (upd H1 D (.lst []))) ∧ ∀ i m H, W i m H →
      ((Its z).stop i H ∧ Qd H) ∨ ((Its z).go i H ∧ ∃ Nx : Hp → Prop, (∀ H', Nx H' → ∃ m', m' < m ∧ W (i + 1) m' H') ∧ ∀ x H', (Its z).yld i H x H' → g x (wipe σ vs) H' fun σ2 H2 => wipe σ2 vs = wipe σ vs ∧ tt σ2 H2 fun b H3 =>
        if b = true then te σ2 H3 fun y H4 => ∃ acc, H4 D = some (.lst acc) ∧ acc.length < sizeLine ∧ Nx (upd H4 D (.lst (acc ++ [y]))) else Nx H3) := by
  refine ⟨fun i m H => m = z.length - i ∧ i ≤ z.length ∧ Pv i H, ⟨z.length, by simp, Nat.zero_le _, h0⟩, ?_⟩
  rintro i m H ⟨rfl, hi, p⟩
  by_cases hlt : i < z.length
  · refine .inr ⟨hlt, Pv (i + 1), fun H' p' => ⟨z.length - (i + 1), by omega, rfl, hlt, p'⟩, fun x H' y => ?_⟩
    obtain ⟨e, c, hc, e2⟩ := y
    subst e e2
    exact hs i c _ (by rw [Array.getElem?_toList]; exact hc) p
  · have e : i = z.length := by omega
    subst e
    exact .inl ⟨Nat.le_refl _, hd H p⟩
theorem r_lc {wi : TI} {vs : List Nat} (h : wi σ H fun J H1 => ∀ D, H1 D = none → ∃ W : Nat → Nat → Hp → Prop, (∃ m, W 0 m (upd H1 D (.lst []))) ∧ ∀ i m H, W i m H →
    (J.stop i H ∧ Q (.ref D) H) ∨ (J.go i H ∧ ∃ Nx : Hp → Prop, (∀ H', Nx H' → ∃ m', m' < m ∧ W (i + 1) m' H') ∧ ∀ x H', J.yld i H x H' → g x (wipe σ vs) H' fun σ2 H2 => wipe σ2 vs = wipe σ vs ∧ tt σ2 H2 fun b H3 =>
      if b = true then te σ2 H3 fun y H4 => ∃ acc, H4 D = some (.lst acc) ∧ acc.length < sizeLine ∧ Nx (upd H4 D (.lst (acc ++ [y]))) else Nx H3)) : tLc wi g tt te vs σ H Q := h
theorem r_yes (h : QB true H) : tYes σ H QB := h
end
end PL

set_option Elab.async false
set_option linter.all false
set_option maxRecDepth 100000
set_option maxHeartbeats 4000000
namespace M24
open PySem TL
/-! ### sums -/
def sumF (t c : Nat) : Nat := (31 * t + c) % 9973
def sumG (t : Nat) (l : List Nat) : Nat := l.foldl sumF t
def sumN (l : List Nat) : Nat := sumG 7 l
theorem sumG_app (t : Nat) (a b : List Nat) : sumG t (a ++ b) = sumG (sumG t a) b := List.foldl_append
theorem sumF_lt (t c : Nat) : sumF t c < 9973 := Nat.mod_lt _ (by decide)
theorem sumG_lt {t : Nat} (ht : t < 9973) : ∀ l : List Nat, sumG t l < 9973
  | [] => ht
  | c :: r => sumG_lt (sumF_lt t c) r
theorem sumF_inj {t u c : Nat} (ht : t < 9973) (hu : u < 9973) (h : sumF t c = sumF u c) : t = u := by
  unfold sumF at h
  omega
theorem sumG_inj : ∀ (l : List Nat) {t u : Nat}, t < 9973 → u < 9973 → sumG t l = sumG u l → t = u
  | [], _, _, _, _, h => h
  | c :: r, _, _, ht, hu, h => sumF_inj ht hu (sumG_inj r (sumF_lt _ _) (sumF_lt _ _) h)
theorem sumN_one {a b : List Nat} {c d : Nat} (hc : c < 9973) (hd : d < 9973) (h : sumN (a ++ c :: b) = sumN (a ++ d :: b)) : c = d := by
  unfold sumN at h
  rw [sumG_app, sumG_app] at h
  have e : sumF (sumG 7 a) c = sumF (sumG 7 a) d := sumG_inj b (sumF_lt _ _) (sumF_lt _ _) h
  unfold sumF at e
  omega
/-! ### texts cut at one sign -/
def cut (s : Nat) (l : List Nat) : List (List Nat) := spl [s] 0 [] l
theorem spl_acc (s : Nat) : ∀ (l acc : List Nat), spl [s] 0 acc l = (acc ++ (cut s l).headD []) :: (cut s l).tail
  | [], acc => by show [acc] = [acc ++ []]; rw [List.append_nil]
  | c :: r, acc => by
    unfold cut
    by_cases h : c = s
    · subst h
      have e : pre [c] (c :: r) = true := by show ([c] == [c]) = true; exact beq_self_eq_true _
      rw [spl_hit e, spl_hit e]
      show acc :: _ = (acc ++ []) :: _
      rw [List.append_nil]; rfl
    · have e : pre [s] (c :: r) = false := pre_of_head [] r h
      rw [spl_miss e, spl_miss e, spl_acc s r (acc ++ [c]), spl_acc s r ([] ++ [c])]
      show _ = (acc ++ ([c] ++ _)) :: _
      rw [List.append_assoc]; rfl
theorem cut_nil (s : Nat) : cut s [] = [[]] := rfl
theorem cut_hit (s : Nat) (r : List Nat) : cut s (s :: r) = [] :: cut s r := by
  unfold cut
  rw [spl_hit (by show ([s] == [s]) = true; exact beq_self_eq_true _)]; rfl
theorem cut_miss {s c : Nat} (r : List Nat) (h : c ≠ s) : cut s (c :: r) = (c :: (cut s r).headD []) :: (cut s r).tail := by
  unfold cut
  rw [spl_miss (pre_of_head [] r h), spl_acc]; rfl
theorem cut_free {s : Nat} {p : List Nat} (h : s ∉ p) : cut s p = [p] := by
  unfold cut; rw [spl_last1 h, List.nil_append]
theorem cut_app {s : Nat} {p : List Nat} (r : List Nat) (h : s ∉ p) : cut s (p ++ s :: r) = p :: cut s r := by
  have e := spl_part1 (S := []) (rest := r) (acc := []) h
  rw [List.nil_append] at e
  exact e
theorem cut_len (s : Nat) : ∀ l : List Nat, (cut s l).length = l.count s + 1
  | [] => by rw [cut_nil]; rfl
  | c :: r => by
    by_cases h : c = s
    · subst h; rw [cut_hit, List.length_cons, cut_len c r, List.count_cons_self]
    · rw [cut_miss r h, List.length_cons, List.length_tail, cut_len s r, List.count_cons_of_ne h]; omega
theorem cut_ne (s : Nat) (l : List Nat) : cut s l ≠ [] := fun e => by have := cut_len s l; rw [e] at this; simp at this
theorem cut_sub (s : Nat) : ∀ (l p : List Nat), p ∈ cut s l → s ∉ p ∧ p.length ≤ l.length ∧ ∀ c ∈ p, c ∈ l
  | [], p, h => by rw [cut_nil] at h; have := List.mem_singleton.mp h; subst this; simp
  | c :: r, p, h => by
    by_cases e : c = s
    · subst e
      rw [cut_hit] at h
      rcases List.mem_cons.mp h with rfl | h
      · simp
      · obtain ⟨h1, h2, h3⟩ := cut_sub c r p h
        exact ⟨h1, Nat.le_succ_of_le h2, fun x hx => List.mem_cons_of_mem _ (h3 x hx)⟩
    · rw [cut_miss r e] at h
      rcases List.mem_cons.mp h with rfl | h
      · have hm : (cut s r).headD [] ∈ cut s r := by
          cases q : cut s r with
          | nil => exact absurd q (cut_ne s r)
          | cons x xs => simp
        obtain ⟨h1, h2, h3⟩ := cut_sub s r _ hm
        refine ⟨fun hx => ?_, Nat.succ_le_succ h2, fun x hx => ?_⟩
        · rcases List.mem_cons.mp hx with rfl | hx
          · exact e rfl
          · exact h1 hx
        · rcases List.mem_cons.mp hx with rfl | hx
          · exact List.mem_cons_self
          · exact List.mem_cons_of_mem _ (h3 x hx)
      · obtain ⟨h1, h2, h3⟩ := cut_sub s r p (List.mem_of_mem_tail h)
        exact ⟨h1, Nat.le_succ_of_le h2, fun x hx => List.mem_cons_of_mem _ (h3 x hx)⟩
/-! ### records -/
structure Rec where
  k : List Nat
  o : List Nat
  b : List Nat
  n : Nat
  deriving DecidableEq
def kinds : List (List Nat) := [[112], [107], [103], [116], [114], [97], [110], [121], [120], [119], [122]]
def digit (c : Nat) : Bool := decide (48 ≤ c) && decide (c ≤ 57)
def isNumL (l : List Nat) : Bool := !(l.isEmpty || decide (9 < l.length) || l.headD 0 == 48) && l.all digit
def okParts (l k o b n s : List Nat) : Prop := k ∈ kinds ∧ o ≠ [] ∧ b ≠ [] ∧ isNumL n = true ∧ numL (sumN (l.take (l.length - s.length))) = s
instance (l k o b n s : List Nat) : Decidable (okParts l k o b n s) := by unfold okParts; infer_instance
def parseP (l : List Nat) : List (List Nat) → Option Rec
  | [k, o, b, n, s] => if okParts l k o b n s then some ⟨k, o, b, NumText.digitsVal n⟩ else none
  | _ => none
def parseL (l : List Nat) : Option Rec := parseP l (cut 32 l)
def goes : List (List Nat) → List Rec
  | [] => []
  | x :: xs => match parseL x with
    | some r => r :: goes xs
    | none => []
def readL (l : List Nat) : List Rec := goes (cut 10 l).dropLast
def body (r : Rec) : List Nat := r.k ++ [32] ++ r.o ++ [32] ++ r.b ++ [32] ++ numL r.n ++ [32]
def line (r : Rec) : List Nat := body r ++ numL (sumN (body r))
def text (r : Rec) : List Nat := line r ++ [10]
structure Good (r : Rec) : Prop where
  k : r.k ∈ kinds
  o : r.o ≠ []
  b : r.b ≠ []
  fo : ∀ c ∈ r.o, c ≠ 32 ∧ c ≠ 10
  fb : ∀ c ∈ r.b, c ≠ 32 ∧ c ≠ 10
  n1 : 1 ≤ r.n
  n2 : r.n ≤ 999999999
theorem kinds_free : ∀ k ∈ kinds, ∀ c ∈ k, c ≠ 32 ∧ c ≠ 10 := by decide
theorem num_free {n s : Nat} (h : s < 48) : s ∉ numL n := numL_free (.inl h)
theorem lines_nil {p : List Nat} (h : 10 ∉ p) : readL p = [] := by unfold readL; rw [cut_free h]; rfl
theorem lines_cons {p : List Nat} (r : List Nat) (h : 10 ∉ p) : readL (p ++ 10 :: r) = match parseL p with | some x => x :: readL r | none => [] := by
  unfold readL
  rw [cut_app r h]
  have e : (p :: cut 10 r).dropLast = p :: (cut 10 r).dropLast := List.dropLast_cons_of_ne_nil (cut_ne 10 r)
  rw [e]; rfl
theorem line_shape (r : Rec) (g : Good r) : cut 32 (line r) = [r.k, r.o, r.b, numL r.n, numL (sumN (body r))] := by
  have e : line r = r.k ++ 32 :: (r.o ++ 32 :: (r.b ++ 32 :: (numL r.n ++ 32 :: numL (sumN (body r))))) := by
    unfold line; generalize sumN (body r) = m; unfold body; simp
  rw [e, cut_app _ (fun h => (kinds_free _ g.k _ h).1 rfl), cut_app _ (fun h => (g.fo _ h).1 rfl), cut_app _ (fun h => (g.fb _ h).1 rfl), cut_app _ (num_free (by decide)), cut_free (num_free (by decide))]
theorem num_isNum {n : Nat} (h1 : 1 ≤ n) (h2 : n ≤ 999999999) : isNumL (numL n) = true := by
  have hl : (numL n).length ≤ 9 := numL_len (by decide) (by omega)
  have hd := numL_digits n
  have hv := numL_val n
  unfold isNumL
  cases q : numL n with
  | nil => exact absurd q (numL_ne n)
  | cons c r =>
    rw [q] at hl hd
    have h9 : decide (9 < (c :: r).length) = false := decide_eq_false (by omega)
    have hall : (c :: r).all digit = true := List.all_eq_true.mpr fun x hx => by
      have z := hd x hx
      unfold digit
      rw [decide_eq_true (show 48 ≤ x by omega), decide_eq_true (show x ≤ 57 by omega)]; rfl
    have h0 : ((c :: r).headD 0 == 48) = false := by
      show (c == 48) = false
      refine beq_eq_false_iff_ne.mpr fun e => ?_
      subst e
      exact absurd q (lead n h1 r)
    rw [h9, hall, h0]; rfl
where
  lead (n : Nat) (h1 : 1 ≤ n) : ∀ r, numL n ≠ 48 :: r := by
    induction n using Nat.strongRecOn with
    | _ n ih =>
      intro r e
      by_cases h : n < 10
      · rw [numL_lt h] at e
        injection e with e1 e2
        omega
      · rw [numL_step (by omega)] at e
        cases q : numL (n / 10) with
        | nil => exact absurd q (numL_ne _)
        | cons c t =>
          rw [q] at e
          injection e with e1 e2
          subst e1
          exact ih (n / 10) (by omega) (by omega) t q
theorem parse_line (r : Rec) (g : Good r) : parseL (line r) = some r := by
  unfold parseL
  rw [line_shape r g]
  have e : (line r).take ((line r).length - (numL (sumN (body r))).length) = body r := by
    have z : (line r).length - (numL (sumN (body r))).length = (body r).length := by unfold line; rw [List.length_append]; omega
    rw [z]; unfold line; exact List.take_left
  show (if okParts (line r) r.k r.o r.b (numL r.n) (numL (sumN (body r))) then some (⟨r.k, r.o, r.b, NumText.digitsVal (numL r.n)⟩ : Rec) else none) = some r
  rw [if_pos ⟨g.k, g.o, g.b, num_isNum g.n1 g.n2, by rw [e]⟩, numL_val]
theorem line_free (r : Rec) (g : Good r) : 10 ∉ line r := by
  intro h
  unfold line body at h
  simp only [List.mem_append, List.mem_singleton] at h
  rcases h with (((((((h | h) | h) | h) | h) | h) | h) | h) | h
  · exact (kinds_free _ g.k _ h).2 rfl
  · exact absurd h (by decide)
  · exact (g.fo _ h).2 rfl
  · exact absurd h (by decide)
  · exact (g.fb _ h).2 rfl
  · exact absurd h (by decide)
  · exact num_free (by decide) h
  · exact absurd h (by decide)
  · exact num_free (by decide) h
theorem read_app : ∀ (rs : List Rec) (rest : List Nat), (∀ r ∈ rs, Good r) → readL ((rs.map text).flatten ++ rest) = rs ++ readL rest
  | [], _, _ => rfl
  | r :: rs, rest, g => by
    have hr := g r List.mem_cons_self
    have e : ((r :: rs).map text).flatten ++ rest = line r ++ 10 :: ((rs.map text).flatten ++ rest) := by
      rw [List.map_cons, List.flatten_cons]; unfold text; simp
    rw [e, lines_cons _ (line_free r hr), parse_line r hr, read_app rs rest fun x hx => g x (List.mem_cons_of_mem _ hx)]; rfl
/-- what has no four blanks is no record -/
theorem parse_count {l : List Nat} (h : l.count 32 ≠ 4) : parseL l = none := by
  unfold parseL
  have z := cut_len 32 l
  cases q : cut 32 l with
  | nil => rfl
  | cons a l1 => cases l1 with
    | nil => rfl
    | cons b l2 => cases l2 with
      | nil => rfl
      | cons c l3 => cases l3 with
        | nil => rfl
        | cons d l4 => cases l4 with
          | nil => rfl
          | cons e l5 => cases l5 with
            | nil => rw [q] at z; simp at z; omega
            | cons f l6 => rfl
theorem line_count (r : Rec) (g : Good r) : (line r).count 32 = 4 := by
  have z := cut_len 32 (line r)
  rw [line_shape r g] at z
  simp at z; omega
/-- a line whose last part is s, with a head: the sum must fit -/
theorem parse_sum {hd s : List Nat} (hs : 32 ∉ s) (h : numL (sumN (hd ++ [32])) ≠ s) : parseL (hd ++ 32 :: s) = none := by
  unfold parseL
  have key : ∀ l : List Nat, ∃ ps : List (List Nat), cut 32 (l ++ 32 :: s) = ps ++ [s] := by
    intro l
    induction l with
    | nil => exact ⟨[[]], by rw [List.nil_append, cut_hit, cut_free hs]; rfl⟩
    | cons c r ih =>
      obtain ⟨ps, e⟩ := ih
      by_cases hc : c = 32
      · subst hc
        exact ⟨[] :: ps, by rw [List.cons_append, cut_hit, e]; rfl⟩
      · rw [List.cons_append, cut_miss _ hc, e]
        cases ps with
        | nil =>
          exfalso
          have z := cut_len 32 (r ++ 32 :: s)
          rw [e] at z
          simp at z
        | cons p ps => exact ⟨(c :: p) :: ps, rfl⟩
  obtain ⟨ps, e⟩ := key hd
  rw [e]
  have et : (hd ++ 32 :: s).take ((hd ++ 32 :: s).length - s.length) = hd ++ [32] := by
    have e1 : (hd ++ 32 :: s) = (hd ++ [32]) ++ s := by simp
    rw [e1, List.length_append, Nat.add_sub_cancel]
    exact List.take_left
  match ps with
  | [k, o, b, n] =>
    show (if okParts _ k o b n s then _ else none) = none
    refine if_neg fun q => ?_
    have := q.2.2.2.2
    rw [et] at this
    exact h this
  | [] => rfl
  | [_] => rfl
  | [_, _] => rfl
  | [_, _, _] => rfl
  | [_, _, _, _, _] => rfl
  | _ :: _ :: _ :: _ :: _ :: _ :: _ => rfl
structure Asc (r : Rec) : Prop where
  o : ∀ c ∈ r.o, c < 9973
  b : ∀ c ∈ r.b, c < 9973
theorem text_asc (r : Rec) (g : Good r) (q : Asc r) : ∀ c ∈ text r, c < 9973 := by
  intro c h
  have nd : ∀ n, c ∈ numL n → c < 9973 := fun n h => by have := numL_digits n c h; omega
  have kd : ∀ k ∈ kinds, ∀ c ∈ k, c < 9973 := by decide
  unfold text line body at h
  simp only [List.mem_append, List.mem_singleton] at h
  rcases h with ((((((((h | h) | h) | h) | h) | h) | h) | h) | h) | h
  · exact kd _ g.k _ h
  · omega
  · exact q.o _ h
  · omega
  · exact q.b _ h
  · omega
  · exact nd _ h
  · omega
  · exact nd _ h
  · omega
def headOf (r : Rec) : List Nat := r.k ++ [32] ++ r.o ++ [32] ++ r.b ++ [32] ++ numL r.n
theorem line_head (r : Rec) : line r = headOf r ++ 32 :: numL (sumN (headOf r ++ [32])) := by
  have e : body r = headOf r ++ [32] := rfl
  unfold line
  rw [e]; simp
theorem spoilt (r : Rec) (g : Good r) (qa : Asc r) {a b : List Nat} {c c' : Nat} (e : text r = a ++ c :: b) (hne : c' ≠ c) (h' : c' < 9973) (rs : List Rec) (gs : ∀ x ∈ rs, Good x) :
    readL (a ++ c' :: b ++ (rs.map text).flatten) = [] := by
  have hc : c < 9973 := text_asc r g qa c (by rw [e]; simp)
  have hf := line_free r g
  rcases List.eq_nil_or_concat b with rfl | ⟨b0, x, rfl⟩
  · -- the newline is spoilt
    have e1 : line r = a ∧ 10 = c := by
      unfold text at e
      have := List.append_inj' e rfl
      exact ⟨this.1, by injection this.2⟩
    obtain ⟨rfl, rfl⟩ := e1
    cases rs with
    | nil =>
      show readL (line r ++ [c'] ++ []) = []
      rw [List.append_nil]
      refine lines_nil fun h => ?_
      rcases List.mem_append.mp h with h | h
      · exact hf h
      · exact hne (List.mem_singleton.mp h).symm
    | cons r2 rs =>
      have g2 := gs r2 List.mem_cons_self
      have e2 : line r ++ [c'] ++ ((r2 :: rs).map text).flatten = (line r ++ c' :: line r2) ++ 10 :: (rs.map text).flatten := by
        rw [List.map_cons, List.flatten_cons]; unfold text; simp
      rw [e2, lines_cons]
      · rw [parse_count]
        rw [List.count_append, List.count_cons, line_count r g, line_count r2 g2]
        split <;> omega
      · intro h
        rcases List.mem_append.mp h with h | h
        · exact hf h
        · rcases List.mem_cons.mp h with h | h
          · exact hne h.symm
          · exact line_free r2 g2 h
  · have e1 : line r = a ++ c :: b0 ∧ x = 10 := by
      unfold text at e
      have e3 : a ++ c :: (b0 ++ [x]) = (a ++ c :: b0) ++ [x] := by simp
      rw [show b0.concat x = b0 ++ [x] by simp, e3] at e
      have := List.append_inj' e rfl
      exact ⟨this.1, by have z := this.2; injection z with z1; exact z1.symm⟩
    obtain ⟨e1, rfl⟩ := e1
    rw [show b0.concat 10 = b0 ++ [10] by simp]
    have hl := line_head r
    have hs32 : 32 ∉ numL (sumN (headOf r ++ [32])) := num_free (by decide)
    rw [e1] at hf
    have cnt := line_count r g
    rw [e1, List.count_append, List.count_cons] at cnt
    -- where c stands
    have where_ : (∃ h2, headOf r = a ++ c :: h2 ∧ b0 = h2 ++ 32 :: numL (sumN (headOf r ++ [32]))) ∨ (a = headOf r ∧ c = 32 ∧ b0 = numL (sumN (headOf r ++ [32]))) ∨ ∃ s1, numL (sumN (headOf r ++ [32])) = s1 ++ c :: b0 ∧ a = headOf r ++ 32 :: s1 := by
      rw [e1] at hl
      rcases List.append_eq_append_iff.mp hl with ⟨t, h1, h2⟩ | ⟨t, h1, h2⟩
      · cases t with
        | nil =>
          rw [List.nil_append] at h2
          injection h2 with h3 h4
          exact .inr (.inl ⟨by rw [h1]; simp, h3, h4⟩)
        | cons y t =>
          rw [List.cons_append] at h2
          injection h2 with h3 h4
          subst h3
          exact .inl ⟨t, h1, h4⟩
      · cases t with
        | nil =>
          rw [List.nil_append] at h2
          injection h2 with h3 h4
          exact .inr (.inl ⟨by rw [h1]; simp, h3.symm, h4.symm⟩)
        | cons y t =>
          rw [List.cons_append] at h2
          injection h2 with h3 h4
          subst h3
          exact .inr (.inr ⟨t, h4, h1⟩)
    by_cases h10 : c' = 10
    · subst h10
      have e3 : a ++ 10 :: (b0 ++ [10]) ++ (rs.map text).flatten = a ++ 10 :: (b0 ++ [10] ++ (rs.map text).flatten) := by simp
      rw [e3, lines_cons _ (fun h => hf (List.mem_append_left _ h))]
      have : parseL a = none := by
        rcases where_ with ⟨h2, _, h4⟩ | ⟨_, h4, _⟩ | ⟨s1, h4, h5⟩
        · refine parse_count fun z => ?_
          have : 0 < b0.count 32 := List.count_pos_iff.mpr (by rw [h4]; simp)
          omega
        · refine parse_count fun z => ?_
          subst h4
          rw [z] at cnt
          simp at cnt
        · rw [h5]
          refine parse_sum (fun h => hs32 (by rw [h4]; simp [h])) fun q => ?_
          rw [h4] at q
          have := congrArg List.length q
          simp at this
      rw [this]
    · have e3 : a ++ c' :: (b0 ++ [10]) ++ (rs.map text).flatten = (a ++ c' :: b0) ++ 10 :: (rs.map text).flatten := by simp
      rw [e3, lines_cons]
      · have : parseL (a ++ c' :: b0) = none := by
          by_cases h1 : c = 32
          · refine parse_count fun z => ?_
            rw [List.count_append, List.count_cons] at z
            subst h1
            simp [hne] at z cnt
            omega
          by_cases h2 : c' = 32
          · refine parse_count fun z => ?_
            rw [List.count_append, List.count_cons] at z
            subst h2
            simp [h1] at z cnt
            omega
          rcases where_ with ⟨h3, h4, h5⟩ | ⟨_, h4, _⟩ | ⟨s1, h4, h5⟩
          · rw [h5, show a ++ c' :: (h3 ++ 32 :: numL (sumN (headOf r ++ [32]))) = (a ++ c' :: h3) ++ 32 :: numL (sumN (headOf r ++ [32])) by simp]
            refine parse_sum hs32 fun q => ?_
            have q1 := numL_inj q
            rw [h4, show a ++ c' :: h3 ++ [32] = a ++ c' :: (h3 ++ [32]) by simp, show a ++ c :: h3 ++ [32] = a ++ c :: (h3 ++ [32]) by simp] at q1
            exact hne (sumN_one h' hc q1)
          · exact absurd h4 h1
          · rw [h5, show headOf r ++ 32 :: s1 ++ c' :: b0 = headOf r ++ 32 :: (s1 ++ c' :: b0) by simp]
            refine parse_sum (fun h => ?_) fun q => ?_
            · rcases List.mem_append.mp h with h | h
              · exact hs32 (by rw [h4]; simp [h])
              · rcases List.mem_cons.mp h with h | h
                · exact h2 h.symm
                · exact hs32 (by rw [h4]; simp [h])
            · rw [h4] at q
              have := List.append_cancel_left q
              injection this with z1 z2
              exact hne z1.symm
        rw [this]
      · intro h
        rcases List.mem_append.mp h with h | h
        · exact hf (List.mem_append_left _ h)
        · rcases List.mem_cons.mp h with h | h
          · exact h10 h.symm
          · exact hf (List.mem_append_right _ (List.mem_cons_of_mem _ h))
/-! ### how many stand whole ahead of a place -/
def wholeF (p : Nat) (st : Nat × Nat) (t : List Nat) : Nat × Nat := (st.1 + t.length, if st.1 + t.length ≤ p then st.2 + 1 else st.2)
def wholeN (p : Nat) (ts : List (List Nat)) : Nat := (ts.foldl (wholeF p) (0, 0)).2
theorem whole_over (p : Nat) : ∀ (ts : List (List Nat)) (st : Nat × Nat), p < st.1 → (ts.foldl (wholeF p) st).2 = st.2
  | [], _, _ => rfl
  | t :: ts, st, h => by
    rw [List.foldl_cons, whole_over p ts _ (by unfold wholeF; show p < st.1 + t.length; omega)]
    unfold wholeF
    exact if_neg (by omega)
theorem whole_at (p : Nat) : ∀ (ts : List (List Nat)) (st : Nat × Nat), st.1 ≤ p → p ≤ st.1 + ts.flatten.length →
    ∃ m, m ≤ ts.length ∧ (ts.foldl (wholeF p) st).2 = st.2 + m ∧ st.1 + (ts.take m).flatten.length ≤ p ∧ ∀ t, ts[m]? = some t → p < st.1 + (ts.take m).flatten.length + t.length
  | [], st, h1, h2 => ⟨0, Nat.le_refl _, rfl, by simpa using h1, fun t h => by simp at h⟩
  | t :: ts, st, h1, h2 => by
    by_cases h : st.1 + t.length ≤ p
    · obtain ⟨m, a1, a2, a3, a4⟩ := whole_at p ts (wholeF p st t) h (by rw [List.flatten_cons, List.length_append] at h2; show p ≤ st.1 + t.length + _; omega)
      refine ⟨m + 1, Nat.succ_le_succ a1, ?_, ?_, fun u hu => ?_⟩
      · rw [List.foldl_cons, a2]; unfold wholeF; rw [if_pos h]; show st.2 + 1 + m = st.2 + (m + 1); omega
      · rw [List.take_succ_cons, List.flatten_cons, List.length_append]
        have : st.1 + t.length + (ts.take m).flatten.length ≤ p := a3
        omega
      · have := a4 u (by simpa using hu)
        rw [List.take_succ_cons, List.flatten_cons, List.length_append]
        have z : p < st.1 + t.length + (ts.take m).flatten.length + u.length := this
        omega
    · refine ⟨0, Nat.zero_le _, ?_, by simpa using h1, fun u hu => ?_⟩
      · rw [List.foldl_cons, whole_over p ts _ (by show p < st.1 + t.length; omega)]
        unfold wholeF
        rw [if_neg h]; rfl
      · have e : t = u := by simpa using hu
        subst e
        show p < st.1 + 0 + t.length
        omega
theorem whole_is (p : Nat) (ts : List (List Nat)) (h : p ≤ ts.flatten.length) : wholeN p ts ≤ ts.length ∧ (ts.take (wholeN p ts)).flatten.length ≤ p ∧ ∀ t, ts[wholeN p ts]? = some t → p < (ts.take (wholeN p ts)).flatten.length + t.length := by
  obtain ⟨m, a1, a2, a3, a4⟩ := whole_at p ts (0, 0) (Nat.zero_le _) (by simpa using h)
  have e : wholeN p ts = m := by unfold wholeN; rw [a2]; simp
  rw [e]
  exact ⟨a1, by simpa using a3, fun t ht => by simpa using a4 t ht⟩
/-! ### the law's three questions -/
section
variable (rs : List Rec) (gs : ∀ r ∈ rs, Good r) (qs : ∀ r ∈ rs, Asc r)
abbrev allT : List Nat := (rs.map text).flatten
include gs
theorem read_all : readL (allT rs) = rs := by
  have e := read_app rs [] gs
  rw [List.append_nil] at e
  rw [e]
  show rs ++ readL [] = rs
  rw [lines_nil (by simp), List.append_nil]
theorem read_more {l : List Nat} (h : readL l = []) : readL (allT rs ++ l) = rs := by rw [read_app rs l gs, h, List.append_nil]
theorem split_at (p : Nat) (h : p ≤ (allT rs).length) : ∃ m, m = wholeN p (rs.map text) ∧ m ≤ rs.length ∧ (allT (rs.take m)).length ≤ p ∧ (∀ r, rs[m]? = some r → p < (allT (rs.take m)).length + (text r).length) ∧ (m = rs.length ∨ ∃ r, rs[m]? = some r ∧ rs = rs.take m ++ r :: rs.drop (m + 1)) := by
  obtain ⟨a1, a2, a3⟩ := whole_is p (rs.map text) h
  refine ⟨_, rfl, by simpa using a1, by rw [allT, ← List.map_take] at *; exact a2, fun r hr => ?_, ?_⟩
  · have := a3 (text r) (by rw [List.getElem?_map, hr]; rfl)
    rw [allT, List.map_take]; exact this
  · rw [List.length_map] at a1
    rcases Nat.lt_or_ge (wholeN p (rs.map text)) rs.length with hl | hl
    · refine .inr ⟨rs[wholeN p (rs.map text)], List.getElem?_eq_getElem hl, ?_⟩
      rw [← List.drop_eq_getElem_cons hl, List.take_append_drop]
    · exact .inl (by omega)
theorem read_cut (p : Nat) (h : p ≤ (allT rs).length) : readL ((allT rs).take p) = rs.take (wholeN p (rs.map text)) := by
  obtain ⟨m, hm, h1, h2, h3, h4⟩ := split_at rs gs p h
  rw [← hm]
  rcases h4 with h4 | ⟨r, hr, h4⟩
  · have e : rs.take m = rs := List.take_of_length_le (by omega)
    rw [e] at h2 ⊢
    rw [List.take_of_length_le (by omega), read_all rs gs]
  · have g : Good r := gs r (List.mem_of_getElem? hr)
    have e : (allT rs).take p = allT (rs.take m) ++ (text r).take (p - (allT (rs.take m)).length) := by
      have e1 : allT rs = allT (rs.take m) ++ (text r ++ allT (rs.drop (m + 1))) := by
        have := congrArg allT h4
        rw [this]
        unfold allT
        rw [List.map_append, List.flatten_append, List.map_cons, List.flatten_cons]
      rw [e1, List.take_append, List.take_of_length_le h2, List.take_append]
      have := h3 r hr
      rw [show p - (allT (rs.take m)).length - (text r).length = 0 by omega, List.take_zero, List.append_nil]
    rw [e, read_app (rs.take m) _ fun x hx => gs x (List.mem_of_mem_take hx)]
    have : readL ((text r).take (p - (allT (rs.take m)).length)) = [] := by
      refine lines_nil fun hx => ?_
      have hlt := h3 r hr
      unfold text at hx hlt
      rw [List.length_append, List.length_singleton] at hlt
      rw [List.take_append_of_le_length (by omega)] at hx
      exact line_free r g (List.mem_of_mem_take hx)
    rw [this, List.append_nil]
include qs
theorem read_spoilt (p : Nat) (h : p < (allT rs).length) {c c' : Nat} (hc : (allT rs)[p]? = some c) (hne : c' ≠ c) (h' : c' < 9973) :
    readL ((allT rs).take p ++ c' :: (allT rs).drop (p + 1)) = rs.take (wholeN p (rs.map text)) := by
  obtain ⟨m, hm, h1, h2, h3, h4⟩ := split_at rs gs p (Nat.le_of_lt h)
  rw [← hm]
  rcases h4 with h4 | ⟨r, hr, h4⟩
  · have e : rs.take m = rs := List.take_of_length_le (by omega)
    rw [e] at h2
    omega
  · have hlt := h3 r hr
    have mr := List.mem_of_getElem? hr
    have e1 : allT rs = allT (rs.take m) ++ (text r ++ allT (rs.drop (m + 1))) := by
      have := congrArg allT h4
      rw [this]
      unfold allT
      rw [List.map_append, List.flatten_append, List.map_cons, List.flatten_cons]
    have hj : p - (allT (rs.take m)).length < (text r).length := by omega
    have e2 : text r = (text r).take (p - (allT (rs.take m)).length) ++ c :: (text r).drop (p - (allT (rs.take m)).length + 1) := by
      have : (text r)[p - (allT (rs.take m)).length]? = some c := by
        rw [e1, List.getElem?_append_right h2, List.getElem?_append_left hj] at hc
        exact hc
      have z := List.getElem?_eq_some_iff.mp this
      obtain ⟨z1, z2⟩ := z
      rw [← z2, ← List.drop_eq_getElem_cons z1, List.take_append_drop]
    have e3 : (allT rs).take p ++ c' :: (allT rs).drop (p + 1) = allT (rs.take m) ++ ((text r).take (p - (allT (rs.take m)).length) ++ c' :: (text r).drop (p - (allT (rs.take m)).length + 1) ++ allT (rs.drop (m + 1))) := by
      rw [e1, List.take_append, List.take_of_length_le h2, List.take_append_of_le_length (by omega), List.drop_append, List.drop_of_length_le (by omega), List.nil_append, List.drop_append_of_le_length (by omega)]
      rw [show p + 1 - (allT (rs.take m)).length = p - (allT (rs.take m)).length + 1 by omega]
      simp
    rw [e3, read_app (rs.take m) _ fun x hx => gs x (List.mem_of_mem_take hx)]
    rw [spoilt r (gs r mr) (qs r mr) e2 hne h' (rs.drop (m + 1)) fun x hx => gs x (List.mem_of_mem_drop hx), List.append_nil]
end
end M24

set_option Elab.async false
set_option linter.all false
set_option maxRecDepth 100000
set_option maxHeartbeats 4000000
namespace K24
open PySem PySem.Spec PyProof.Rows L2 PL TL
open Evl (Ex)
open C8 (pss_cut)
def topS (i : Nat) : Stmt := PySem.Challenge.pw_pactloom_k24_records_of_journals.main.body.getD i (.Pass ⟨0, 0, 0, 0⟩)
abbrev s_sum_of : Stmt := topS 7
theorem sc_sum_of : FnScope ["text", "total", "char"] ["text"] (defScope s_sum_of) := ⟨rfl, rfl, rfl, by decide +kernel, rfl, by decide +kernel, by decide +kernel⟩
abbrev s_record : Stmt := topS 8
theorem sc_record : FnScope ["kind", "other", "label", "number", "text"] ["kind", "other", "label", "number"] (defScope s_record) := ⟨rfl, rfl, rfl, by decide +kernel, rfl, by decide +kernel, by decide +kernel⟩
abbrev s_is_number : Stmt := topS 9
theorem sc_is_number : FnScope ["text", "char"] ["text"] (defScope s_is_number) := ⟨rfl, rfl, rfl, by decide +kernel, rfl, by decide +kernel, by decide +kernel⟩
abbrev s_parsed : Stmt := topS 10
theorem sc_parsed : FnScope ["line", "parts"] ["line"] (defScope s_parsed) := ⟨rfl, rfl, rfl, by decide +kernel, rfl, by decide +kernel, by decide +kernel⟩
abbrev s_read_records : Stmt := topS 11
theorem sc_read_records : FnScope ["text", "found", "lines", "line", "entry"] ["text"] (defScope s_read_records) := ⟨rfl, rfl, rfl, by decide +kernel, rfl, by decide +kernel, by decide +kernel⟩
abbrev s__law_state : Stmt := topS 13
theorem sc__law_state : FnScope ["_law_script"] ["_law_script"] (defScope s__law_state) := ⟨rfl, rfl, rfl, by decide +kernel, rfl, by decide +kernel, by decide +kernel⟩
abbrev s__law_draw : Stmt := topS 14
theorem sc__law_draw : FnScope ["_law_state_here", "_law_limit", "_law_cell", "_law_digit", "_law_mixed"] ["_law_state_here", "_law_limit"] (defScope s__law_draw) := ⟨rfl, rfl, rfl, by decide +kernel, rfl, by decide +kernel, by decide +kernel⟩
abbrev s__law_name : Stmt := topS 15
theorem sc__law_name : FnScope ["_law_state_here", "_law_first", "_law_other", "_law_number", "_law_name_here", "_law_tail"] ["_law_state_here"] (defScope s__law_name) := ⟨rfl, rfl, rfl, by decide +kernel, rfl, by decide +kernel, by decide +kernel⟩
abbrev s__law_sum : Stmt := topS 17
theorem sc__law_sum : FnScope ["_law_text_here", "_law_total", "_law_char"] ["_law_text_here"] (defScope s__law_sum) := ⟨rfl, rfl, rfl, by decide +kernel, rfl, by decide +kernel, by decide +kernel⟩
abbrev s__law_record : Stmt := topS 18
theorem sc__law_record : FnScope ["_law_state_here", "_law_kind", "_law_other", "_law_label", "_law_number"] ["_law_state_here"] (defScope s__law_record) := ⟨rfl, rfl, rfl, by decide +kernel, rfl, by decide +kernel, by decide +kernel⟩
abbrev s__law_text : Stmt := topS 19
theorem sc__law_text : FnScope ["_law_entry", "_law_text_here"] ["_law_entry"] (defScope s__law_text) := ⟨rfl, rfl, rfl, by decide +kernel, rfl, by decide +kernel, by decide +kernel⟩
abbrev s__law_whole : Stmt := topS 20
theorem sc__law_whole : FnScope ["_law_texts", "_law_length", "_law_count", "_law_size", "_law_text_here"] ["_law_texts", "_law_length"] (defScope s__law_whole) := ⟨rfl, rfl, rfl, by decide +kernel, rfl, by decide +kernel, by decide +kernel⟩
abbrev s_law : Stmt := topS 21
theorem sc_law : FnScope ["_law_script", "_law_state_here", "_law_k", "_law_entries", "_law_texts", "_law_text_here", "_law_kind", "_law_place", "_law_others", "_law_sign", "_law_spoiled", "_law_entry"] ["_law_script"] (defScope s_law) := ⟨rfl, rfl, rfl, by decide +kernel, rfl, by decide +kernel, by decide +kernel⟩
structure Blt (mg : Str → Option Value) : Prop where
  len : mg "len" = none
  ord : mg "ord" = none
  str : mg "str" = none
  int : mg "int" = none
  list : mg "list" = none
  range : mg "range" = none
local macro_rules | `(tactic| walk_at "ex") => `(tactic| first
  | assumption
  | exact Evl.Ex.refl _
  | exact Evl.Ex.new (by assumption)
  | (refine Evl.Ex.trans ?exa (Evl.Ex.new (by assumption)); case exa => walk_at "ex")
  | (refine Evl.Ex.trans ?exa ?exb; case exb => assumption; case exa => walk_at "ex"))
local macro_rules | `(tactic| walk_at "at") => `(tactic| first
  | assumption
  | exact upd_same
  | (refine (upd_ne (by first | assumption | exact Ne.symm (by assumption))).trans ?ata; case ata => walk_at "at")
  | exact (Evl.Ex.new (by assumption)) _ _ (by assumption))
local macro_rules | `(tactic| walk_at "dp") => `(tactic| first
  | assumption
  | exact Dp.int _
  | exact Dp.str _
  | exact Dp.non
  | exact Dp.bl _
  | (refine dp_mono ?exa (by assumption); case exa => walk_at "ex"))
local macro_rules | `(tactic| walk_at "sq") => `(tactic| first
  | assumption
  | exact Or.inl (SqL.of (by walk_at "at"))
  | exact SqL.of (by walk_at "at")
  | exact SqT.of (by walk_at "at")
  | exact Or.inr (SqT.of (by walk_at "at"))
  | exact Or.inl (by assumption)
  | exact Or.inr (by assumption))
local macro_rules | `(tactic| walk_at "fr") => `(tactic| first
  | assumption
  | exact PL.Fr.refl _ _
  | (refine PL.Fr.trans ?fra PL.Fr.upd; case fra => walk_at "fr")
  | exact PL.Fr.of (by walk_at "ex")
  | (refine PL.Fr.trans ?fra ?frb; case frb => assumption; case fra => walk_at "fr"))
local macro_rules | `(tactic| walk_at "sz") => `(tactic| first
  | assumption
  | exact Nat.le_of_lt (small1000 (by first | decide | omega))
  | exact small1000 (by first | decide | omega)
  | exact Nat.le_of_lt (small1000 (by simp only [List.length_cons, List.length_nil]; decide))
  | (rw [sizeLine_eq]; omega)
  | (rw [sizeLine_eq]; simp only [slen, mk_len, List.length_cons, List.length_nil, lit0, lit1, lit2, lit3, lit4, lit5, lit6, lit7, lit8, lit9, lit10, lit11, lit12, lit13, lit14, lit15, lit16, lit17, lit18, lit19, lit20, lit21, lit22, lit23, lit24, lit25, lit26]; omega))
local macro_rules | `(tactic| walk_at "s1") => `(tactic| first
  | with_reducible refine r_seq ?_
  | with_reducible refine r_asg ?_
  | with_reducible refine r_name ?_
  | with_reducible refine r_drop ?_
  | with_reducible refine r_ret ?_
  | with_reducible refine r_retN ?_
  | with_reducible refine r_ifS ?_
  | with_reducible refine r_next ?_
  | with_reducible refine r_brk ?_
  | with_reducible refine r_cnt ?_
  | ((with_reducible refine' r_aug ?ea ?_); case ea => exact rfl)
  | with_reducible refine r_ipI ?_
  | with_reducible refine r_for ?_
  | with_reducible refine r_iAny ?_
  | with_reducible refine r_rng1 ?_
  | with_reducible refine r_rng2 ?_)
local macro_rules | `(tactic| walk_at "s2") => `(tactic| first
  | ((with_reducible refine' r_var ?ea ?_); case ea => exact rfl)
  | with_reducible refine r_C ?_
  | with_reducible refine r_op ?_
  | with_reducible refine r_cons ?_
  | with_reducible refine r_nil ?_
  | with_reducible refine r_call ?_
  | with_reducible refine r_CB ?_
  | with_reducible refine r_test ?_
  | with_reducible refine r_B ?_
  | with_reducible refine r_and ?_
  | with_reducible refine r_or ?_
  | with_reducible refine r_not ?_
  | with_reducible refine r_andV ?_
  | with_reducible refine r_orV ?_
  | with_reducible refine r_notV ?_
  | with_reducible refine r_if ?_
  | with_reducible refine r_un ?_
  | with_reducible refine r_sl ?_
  | with_reducible refine r_part ?_
  | with_reducible refine r_nopart ?_
  | with_reducible refine r_tup ?_
  | with_reducible refine r_lst ?_
  | with_reducible refine r_BM ?_
  | with_reducible refine r_BM0 ?_
  | with_reducible refine r_M1 ?_
  | with_reducible refine r_M0 ?_
  | with_reducible refine r_gCons ?_
  | with_reducible refine r_gNil ?_
  | with_reducible refine r_gSub ?_
  | with_reducible refine r_lc ?_
  | with_reducible refine r_yes ?_)
local macro_rules | `(tactic| walk_at "s3") => `(tactic| first
  | with_reducible refine r_addI ?_
  | ((with_reducible refine r_addS ?ea ?_); case ea => walk_at "sz")
  | with_reducible refine r_I0 ?_
  | ((with_reducible refine r_I ?ea ?_); case ea => first | (show (_ : Int) ≠ _; decide) | exact ⟨by decide, by decide⟩ | exact ⟨by decide, by decide, by decide⟩ | exact ⟨by omega, by omega⟩ | (show (_ : Int) ≠ _; omega))
  | ((with_reducible refine r_mulI ?ea ?_); case ea => first | exact Or.inl ⟨by omega, by omega⟩ | exact Or.inr ⟨by omega, by omega⟩)
  | with_reducible refine r_itS ?_
  | with_reducible refine r_tru ?_
  | with_reducible refine r_rU ?_
  | with_reducible refine r_eqI ?_
  | with_reducible refine r_eqS ?_
  | with_reducible refine r_neI ?_
  | with_reducible refine r_neS ?_
  | with_reducible refine r_eqB ?_
  | with_reducible refine r_ltI ?_
  | with_reducible refine r_leI ?_
  | with_reducible refine r_gtI ?_
  | with_reducible refine r_geI ?_
  | with_reducible refine r_inC ?_
  | with_reducible refine r_ninC ?_
  | with_reducible refine r_exI ?_
  | with_reducible refine r_exB ?_
  | with_reducible refine r_truB ?_
  | with_reducible refine r_truI ?_
  | with_reducible refine r_truN ?_
  | with_reducible refine r_intI ?_
  | ((with_reducible refine r_str ?ea ?_); case ea => first | assumption | decide)
  | with_reducible refine r_min2 ?_
  | with_reducible refine r_max2 ?_
  | with_reducible refine r_ord ?_
  | with_reducible refine r_tyS ?_
  | ((with_reducible refine r_slS ?ea ?_); case ea => walk_at "sz")
  | ((with_reducible refine r_lenS ?ea ?_); case ea => walk_at "sz")
  | ((with_reducible refine' r_lenL ?ea ?_); case ea => walk_at "sq")
  | ((with_reducible refine' r_truL ?ea ?_); case ea => walk_at "sq")
  | ((with_reducible refine' r_tyL ?ea ?_); case ea => first | assumption | exact SqL.of (by walk_at "at"))
  | ((with_reducible refine' r_gTup ?ea ?eb ?_); case ea => (first | assumption | exact SqT.of (by assumption)); case eb => rfl)
  | ((with_reducible refine' r_setL ?ea ?eb ?_); (case ea => walk_at "at"); (case eb => rfl))
  | ((with_reducible refine' r_ixL ?ea ?eb ?_); (case ea => walk_at "sq"); (case eb => first | exact atI_nat rfl | rfl | assumption | exact atI_nat (by assumption)))
  | ((with_reducible refine' r_append ?ea ?eb ?_); (case ea => walk_at "at"); (case eb => walk_at "sz"))
  | refine And.intro (show wipe _ _ = wipe _ _ from rfl) ?_
  | with_reducible refine r_nn ?_
  | with_reducible refine r_nonT ?_
  | with_reducible refine r_refF ?_
  | with_reducible refine r_intF ?_
  | with_reducible refine r_strF ?_
  | with_reducible refine r_nonF ?_
  | with_reducible refine r_refT ?_
  | with_reducible refine r_intT ?_
  | with_reducible refine r_strT ?_
  | with_reducible refine iteT ?_
  | with_reducible refine iteF ?_)
local macro_rules | `(tactic| walk_at "s") => `(tactic| first | walk_at "s2" | walk_at "s1" | walk_at "s3")
local macro_rules | `(tactic| walk_at "go") => `(tactic| repeat (walk_at "s"))
section
variable {P : Program} {w : World} {K : PySem.W.Frag} {mg : Str → Option Value} {base : Heap} {f : Addr} {fd : FuncData} {n : Nat}
/-! ### the sum -/
theorem sum_step (t c : Nat) : ((31 * (t : Int) + (c : Int)).fmod 9973) = ((M24.sumF t c : Nat) : Int) := by
  rw [Int.fmod_eq_emod_of_nonneg _ (by decide)]; unfold M24.sumF; omega
theorem sumN_take (l : List Nat) (i c : Nat) (h : l[i]? = some c) : M24.sumN (l.take (i + 1)) = M24.sumF (M24.sumN (l.take i)) c := by
  rw [List.take_add_one, h]
  show M24.sumG 7 (l.take i ++ [c]) = _
  rw [M24.sumG_app]; rfl
def sp_sum : Sp := fun vs H Q _ => ∃ z : Str, vs = [.str z] ∧ Q (.int (M24.sumN (tl z) : Nat)) H
theorem ok_sum_of (D : Def K mg "sum_of" s_sum_of ["text"] f fd) (B : Blt mg) (C_START : Cst mg "START" (.int 7)) (C_FACTOR : Cst mg "FACTOR" (.int 31)) (C_MODULUS : Cst mg "MODULUS" (.int 9973)) :
    FnOk P w K mg base CX0 (n + 1) f fd ["text"] sp_sum := by
  refine D.F.ok sc_sum_of (fun vs H Q E h => ?_) (fun cdv A outer s H vs Q E hr h => ?_)
  · obtain ⟨z, rfl, _⟩ := h; rfl
  obtain ⟨z, rfl, q⟩ := h
  refine ⟨_, (pss_cons (ps_set (i := 1) sc_sum_of.nd rfl (.inl rfl) (pe_cst (by rfl) C_START))
      (pss_cut (ps_for PassesOwn.never rfl (pi_any (K := K) (pv 0)) (pg_name (i := 2) sc_sum_of.nd rfl (.inl rfl)) (pss_one (ps_set (i := 1) sc_sum_of.nd rfl (.inl rfl) (pe_op op_modN (pe_op (op_addU (K := K)) (pe_op op_mulU (pe_cst (by rfl) C_FACTOR) (pv 1)) (pe_callB c_ord (by rfl) B.ord (by decide +kernel) (pa_cons (pv 2) pa_nil))) (pe_cst (by rfl) C_MODULUS)))))
      (pss_one (ps_ret (pv 1))))), ?_⟩
  walk_at "go"
  refine r_nocut ?_
  walk_at "go"
  refine for_text (fun i σ H' => H' = H ∧ ∃ v, σ = [some (.str z), some (.int (M24.sumN ((tl z).take i) : Nat)), v]) ⟨rfl, none, rfl⟩ ?_ ?_
  · rintro i c σ H' hc ⟨rfl, v, rfl⟩
    walk_at "go"
    rw [sum_step, ← sumN_take _ _ _ hc]
    exact ⟨rfl, _, rfl⟩
  · rintro σ H' ⟨rfl, v, rfl⟩
    walk_at "go"
    rw [List.take_of_length_le (by rw [len_tl]; exact Nat.le_refl _)]
    exact q
theorem ok__law_sum (D : Def K mg "_law_sum" s__law_sum ["_law_text_here"] f fd) (B : Blt mg) :
    FnOk P w K mg base CX0 (n + 1) f fd ["_law_text_here"] sp_sum := by
  refine D.F.ok sc__law_sum (fun vs H Q E h => ?_) (fun cdv A outer s H vs Q E hr h => ?_)
  · obtain ⟨z, rfl, _⟩ := h; rfl
  obtain ⟨z, rfl, q⟩ := h
  refine ⟨_, (pss_cons (ps_set (i := 1) sc__law_sum.nd rfl (.inl rfl) pe_int)
      (pss_cut (ps_for PassesOwn.never rfl (pi_any (K := K) (pv 0)) (pg_name (i := 2) sc__law_sum.nd rfl (.inl rfl)) (pss_one (ps_set (i := 1) sc__law_sum.nd rfl (.inl rfl) (pe_op op_modN (pe_callTy c_int (by rfl) B.int (by decide +kernel) (pa_cons (pe_op (op_addU (K := K)) (pe_op op_mulU (pv 1) pe_int) (pe_callB c_ord (by rfl) B.ord (by decide +kernel) (pa_cons (pv 2) pa_nil))) pa_nil)) pe_int))))
      (pss_one (ps_ret (pv 1))))), ?_⟩
  walk_at "go"
  refine r_nocut ?_
  walk_at "go"
  refine for_text (fun i σ H' => H' = H ∧ ∃ v, σ = [some (.str z), some (.int (M24.sumN ((tl z).take i) : Nat)), v]) ⟨rfl, none, rfl⟩ ?_ ?_
  · rintro i c σ H' hc ⟨rfl, v, rfl⟩
    walk_at "go"
    have e : (M24.sumN (List.take i (tl z)) : Int) * 31 = 31 * (M24.sumN (List.take i (tl z)) : Int) := by omega
    rw [e, sum_step, ← sumN_take _ _ _ hc]
    exact ⟨rfl, _, rfl⟩
  · rintro σ H' ⟨rfl, v, rfl⟩
    walk_at "go"
    rw [List.take_of_length_le (by rw [len_tl]; exact Nat.le_refl _)]
    exact q
/-! ### a record's text -/
def mkR (k o b : Str) (n : Nat) : M24.Rec := ⟨tl k, tl o, tl b, n⟩
theorem num_len {n : Nat} (h : n ≤ 999999999) : (Str.ofString (toString ((n : Nat) : Int))).length ≤ 9 := by
  rw [len_tl, tl_num]; exact numL_len (by decide) (by omega)
theorem log_small {n : Nat} (h : n ≤ 999999999) : ((n : Int)).natAbs.log2 < 1920 := by
  rw [Int.natAbs_natCast]
  by_cases h0 : n = 0
  · subst h0; decide
  · exact (Nat.log2_lt h0).mpr (Nat.lt_of_le_of_lt h (Nat.lt_of_lt_of_le (by decide : 999999999 < 2 ^ 30) (Nat.pow_le_pow_right (by decide) (by decide))))
theorem sum_lt (l : List Nat) : M24.sumN l ≤ 999999999 := by have := M24.sumG_lt (t := 7) (by decide) l; unfold M24.sumN; omega
theorem body_eq (k o b : Str) (n : Nat) : tl (k ++ (" " : Str) ++ o ++ " " ++ b ++ " " ++ Str.ofString (toString ((n : Nat) : Int)) ++ " ") = M24.body (mkR k o b n) := by
  simp only [tl_append, tl_num]; simp only [tl_ofString]; rfl
theorem text_eq (k o b : Str) (n : Nat) {x : Str} (hx : tl x = M24.body (mkR k o b n)) : x ++ Str.ofString (toString ((M24.sumN (M24.body (mkR k o b n)) : Nat) : Int)) ++ ("\n" : Str) = mk (M24.text (mkR k o b n)) := by
  refine ext_tl ?_
  rw [tl_append, tl_append, hx, tl_num, tl_ofString, tl_mk]
  show _ = M24.line _ ++ [10]
  rfl
def sp_record : Sp := fun vs H Q _ => ∃ (k o b : Str) (m : Nat), vs = [.str k, .str o, .str b, .int (m : Nat)] ∧ k.length ≤ 100 ∧ o.length ≤ 100 ∧ b.length ≤ 100 ∧ m ≤ 999999999 ∧ Q (.str (mk (M24.text (mkR k o b m)))) H
theorem ok_record {gs : Addr} {gd : FuncData} (D : Def K mg "record" s_record ["kind", "other", "label", "number"] f fd) (B : Blt mg) (D_sum_of : Def K mg "sum_of" s_sum_of ["text"] gs gd) (G_sum_of : FnOk P w K mg base CX0 n gs gd ["text"] sp_sum) :
    FnOk P w K mg base CX0 (n + 1) f fd ["kind", "other", "label", "number"] sp_record := by
  refine D.F.ok sc_record (fun vs H Q E h => ?_) (fun cdv A outer s H vs Q E hr h => ?_)
  · obtain ⟨k, o, b, m, rfl, _⟩ := h; rfl
  obtain ⟨k, o, b, m, rfl, hk, ho, hb, hm, q⟩ := h
  refine ⟨_, (pss_cons (ps_set (i := 4) sc_record.nd rfl (.inl rfl) (pe_op (op_addU (K := K)) (pe_op (op_addU (K := K)) (pe_op (op_addU (K := K)) (pe_op (op_addU (K := K)) (pe_op (op_addU (K := K)) (pe_op (op_addU (K := K)) (pe_op (op_addU (K := K)) (pv 0) pe_str) (pv 1)) pe_str) (pv 2)) pe_str) (pe_callTy c_str (by rfl) B.str (by decide +kernel) (pa_cons (pv 3) pa_nil))) pe_str))
      (pss_one (ps_ret (pe_op (op_addU (K := K)) (pe_op (op_addU (K := K)) (pv 4) (pe_callTy c_str (by rfl) B.str (by decide +kernel) (pa_cons (pe_call G_sum_of hr (by rfl) D_sum_of.m D_sum_of.F.kp D_sum_of.b .nil pass0 (pa_cons (pv 4) pa_nil)) pa_nil))) pe_str)))), ?_⟩
  have ln := num_len hm
  have lm := log_small hm
  walk_at "go"
  refine ⟨_, rfl, ?_⟩
  rw [body_eq k o b m]
  have lm2 := log_small (sum_lt (M24.body (mkR k o b m)))
  have ln2 := num_len (sum_lt (M24.body (mkR k o b m)))
  walk_at "go"
  rw [text_eq k o b m (body_eq k o b m)]
  exact q
end

set_option maxHeartbeats 8000000
section
variable {P : Program} {w : World} {K : PySem.W.Frag} {mg : Str → Option Value} {base : Heap} {f : Addr} {fd : FuncData} {n : Nat}
/-! ### is_number -/
theorem digits_in (c : Nat) : decide (c ∈ tl (Str.ofString "0123456789")) = M24.digit c := by
  rw [tl_ofString]
  show decide (c ∈ [48, 49, 50, 51, 52, 53, 54, 55, 56, 57]) = (decide (48 ≤ c) && decide (c ≤ 57))
  rw [Bool.eq_iff_iff, Bool.and_eq_true, decide_eq_true_eq, decide_eq_true_eq, decide_eq_true_eq]
  simp only [List.mem_cons, List.not_mem_nil, or_false]
  omega
theorem eqv_nil (ds : List PyData) : PyData.eqv (.list ds) (.list []) = ds.isEmpty := by cases ds <;> simp [PyData.eqv, PyData.eqvAll]
theorem signs_shaped (l : List Nat) (hl : ∀ c ∈ l, c < 1114112) : SeqAt.shaped (.list (l.map fun c => PyData.str ⟨#[c]⟩)) = true := by
  have h1 : ∀ l : List Nat, (∀ c ∈ l, c < 1114112) → PyData.canLayAll0 (l.map fun c => PyData.str ⟨#[c]⟩) = true := by
    intro l; induction l with
    | nil => intro _; rfl
    | cons c r ih =>
      intro hl
      have := hl c List.mem_cons_self
      simp [PyData.canLayAll0, PyData.canLay0, PyData.strOk, ih fun x hx => hl x (List.mem_cons_of_mem _ hx), this]
  have h2 : ∀ l : List Nat, PyData.depthAll (l.map fun c => PyData.str ⟨#[c]⟩) ≤ 1 := by
    intro l; induction l with
    | nil => simp [PyData.depthAll]
    | cons c r ih => simp only [List.map_cons, PyData.depthAll, PyData.depth]; omega
  show ((PyData.list _).canLay0 && decide ((PyData.list _).depth ≤ 64)) = true
  rw [Bool.and_eq_true]
  refine ⟨by simp only [PyData.canLay0]; exact h1 l hl, decide_eq_true ?_⟩
  have := h2 l
  simp only [PyData.depth]; omega
theorem nil_shaped : SeqAt.shaped (.list []) = true := by decide
theorem dps_signs {K : PySem.W.Frag} {H : Hp} : ∀ l : List Nat, DpAll K H (l.map fun c => V.str ⟨#[c]⟩) (l.map fun c => PyData.str ⟨#[c]⟩)
  | [] => .nil
  | c :: l => .cons (.str _) (dps_signs l)
theorem isEmpty_filter (l : List Nat) : (((l.filter fun c => !M24.digit c).map fun c => PyData.str ⟨#[c]⟩).isEmpty) = l.all M24.digit := by
  induction l with
  | nil => rfl
  | cons c r ih =>
    cases h : M24.digit c <;> simp_all [List.filter_cons]
def sp_isnum : Sp := fun vs H Q _ => ∃ z : Str, vs = [.str z] ∧ z.length ≤ 100000 ∧ (∀ c ∈ tl z, c < 1114112) ∧ ∀ H', Ex H H' → Q (.bl (M24.isNumL (tl z))) H'
theorem ok_is_number (D : Def K mg "is_number" s_is_number ["text"] f fd) (B : Blt mg) (C_MOST_DIGITS : Cst mg "MOST_DIGITS" (.int 9)) (C_DIGITS : Cst mg "DIGITS" (.str "0123456789")) :
    FnOk P w K mg base CX0 (n + 1) f fd ["text"] sp_isnum := by
  refine D.F.ok sc_is_number (fun vs H Q E h => ?_) (fun cdv A outer s H vs Q E hr h => ?_)
  · obtain ⟨z, rfl, _⟩ := h; rfl
  obtain ⟨z, rfl, hz, hs, q⟩ := h
  refine ⟨_, (pss_cut (ps_if (PW.pt (pw_or (pt_cmpR (op_eqU (K := K) (u64 hr)) (pv 0) pe_str (nomark _)) (pw_or (pt_cmpR (op_gtU) (pe_callB (c_len (K := K)) (by rfl) B.len PySem.boot_len (pa_cons (pv 0) pa_nil)) (pe_cst (by rfl) C_MOST_DIGITS) (nomark _)) (pw_or1 (pt_cmpR (op_eqU (K := K) (u64 hr)) (pe_ix (ix_u (K := K)) (pv 0) pe_int (fun _ _ => rfl)) pe_str (nomark _)))))) (pss_one (ps_ret pe_bl)) pss_nil)
      (pss_one (ps_ret (pe_cmpR (op_eqU (K := K) (u64 hr)) (pe_lc (own := [("char", 1)]) (g := gName 1) rfl sc_is_number.nd (pi_any (K := K) (pv 0)) (blkOk_by (own := [("char", 1)]) (N := ["text", "char"]) (sc := defScope s_is_number) (by decide +kernel)) (fun _ _ _ _ _ => (pg_name (i := 1) sc_is_number.nd rfl (.inl rfl))) (fun _ _ _ _ _ => (pts_one (pt_cmpR (op_notInU (K := K) (u65 hr)) (pv 1) (pe_cst (by rfl) C_DIGITS) (by rfl)))) (fun _ _ _ _ _ => (pv 1))) (pe_lst pa_nil) (nomark _))))), ?_⟩
  have hzl : z.length ≤ sizeLine := Nat.le_trans hz (by decide)
  refine r_cut (fun σ' H' => σ' = [some (.str z), none] ∧ H' = H ∧ ¬ (z.length = 0) ∧ ¬ (9 < z.length) ∧ (tl z).headD 0 ≠ 48) ?_ ?_
  · walk_at "go"
    refine ite_d (fun h => ?_) (fun h => ?_)
    · subst h
      walk_at "go"
      have := q H (Ex.refl _)
      exact this
    · have hne : tl z ≠ [] := fun e => h (ext_tl e)
      have hpos : z.length ≠ 0 := fun e => hne (List.eq_nil_of_length_eq_zero (by rw [← len_tl]; exact e))
      walk_at "go"
      refine ite_d (fun h9 => ?_) (fun h9 => ?_)
      · walk_at "go"
        have := q H (Ex.refl _)
        have e : M24.isNumL (tl z) = false := by
          unfold M24.isNumL
          rw [decide_eq_true (show 9 < (tl z).length by rw [← len_tl]; omega)]; simp
        rw [e] at this
        exact this
      · obtain ⟨c, r, hc⟩ := List.exists_cons_of_ne_nil hne
        walk_at "go"
        refine r_ixS hzl (show atI (tl z) 0 = some c from atI_nat (j := 0) (by rw [hc]; rfl)) ?_
        walk_at "go"
        have ec : (({ cps := #[c] } : Str) = Str.ofString "0") ↔ c = 48 := ⟨fun e => by have := congrArg tl e; rw [tl_ofString] at this; injection this, fun e => by subst e; rfl⟩
        refine ite_d (fun h0 => ?_) (fun h0 => ?_)
        · walk_at "go"
          have := q H (Ex.refl _)
          have e : M24.isNumL (tl z) = false := by
            unfold M24.isNumL
            rw [hc, ec.mp h0]; simp
          rw [e] at this
          exact this
        · walk_at "go"
          exact ⟨rfl, rfl, hpos, by omega, by rw [hc]; exact fun e => h0 (ec.mpr e)⟩
  · rintro σ H' ⟨rfl, rfl, h1, h2, h3⟩
    walk_at "go"
    intro p np
    refine lc_text (fun i H2 => Ex H' H2 ∧ H2 p = some (.lst (((tl z).take i).filter (fun c => !M24.digit c) |>.map fun c => V.str ⟨#[c]⟩))) ⟨Ex.new np, upd_same⟩ ?_ ?_
    · rintro i c H2 hc ⟨e2, hp⟩
      have ht : (tl z).take (i + 1) = (tl z).take i ++ [c] := by rw [List.take_add_one, hc]; rfl
      walk_at "go"
      refine ite_nd (fun h => ?_) (fun h => ?_)
      · have hd : M24.digit c = false := by rw [← digits_in]; exact decide_eq_false h
        walk_at "go"
        refine ⟨_, hp, ?_, Ex.mut e2 np, ?_⟩
        · rw [List.length_map]
          have := List.length_filter_le (fun c => !M24.digit c) (List.take i (tl z))
          have h3 : (List.take i (tl z)).length ≤ (tl z).length := List.length_take_le' _ _
          rw [← len_tl] at h3
          rw [sizeLine_eq]; omega
        · rw [upd_same, ht, List.filter_append, List.map_append, List.filter_cons, hd]; rfl
      · have hd : M24.digit c = true := by rw [← digits_in]; exact decide_eq_true h
        walk_at "go"
        refine ⟨e2, ?_⟩
        rw [hp, ht, List.filter_append, List.filter_cons, hd]; simp
    · rintro H2 ⟨e2, hp⟩
      rw [List.take_of_length_le (by rw [len_tl]; exact Nat.le_refl _)] at hp
      walk_at "go"
      refine ⟨by walk_at "sz", fun p2 np2 => ?_⟩
      refine r_eqD rfl (dp_mono (Ex.new np2) (.lst (SqL.of hp) (dps_signs _))) (.lst (SqL.of upd_same) .nil) (signs_shaped _ fun c hc => hs c (List.mem_filter.mp hc).1) nil_shaped ?_
      rw [eqv_nil, isEmpty_filter]
      have := q (upd H2 p2 (.lst [])) (e2.trans (Ex.new np2))
      have e : M24.isNumL (tl z) = (tl z).all M24.digit := by
        unfold M24.isNumL
        have a1 : (tl z).isEmpty = false := by
          rw [List.isEmpty_eq_false_iff]; intro e; exact h1 (by rw [len_tl, e]; rfl)
        rw [a1, decide_eq_false (show ¬ 9 < (tl z).length by rw [← len_tl]; exact h2), beq_eq_false_iff_ne.mpr h3]; rfl
      rw [e] at this
      exact this
end

set_option maxHeartbeats 8000000
section
variable {P : Program} {w : World} {K : PySem.W.Frag} {mg : Str → Option Value} {base : Heap} {f : Addr} {fd : FuncData} {n : Nat}
def recV (r : M24.Rec) : PyData := .tuple [.str (mk r.k), .str (mk r.o), .str (mk r.b), .int (r.n : Nat)]
theorem split_cut (z : Str) (s : Nat) (hs : s < 256) : Txt.split z (mk [s]) = (M24.cut s (tl z)).map mk := by
  have e := split_spl z (mk [s]) (by rw [tl_mk]; simp) (kind_ok (by simp [hs]))
  have e2 : ((M24.cut s (tl z)).map mk).map tl = spl (tl (mk [s])) 0 [] (tl z) := by
    rw [List.map_map, tl_mk]
    have : (tl ∘ mk) = id := by funext l; rfl
    rw [this, List.map_id]; rfl
  exact map_tl_inj (e.trans e2.symm)
def kindsS : List Str := M24.kinds.map mk
def outP (K : PySem.W.Frag) (H : Hp) (o : Option M24.Rec) (v : V) : Prop := match o with
  | none => v = .non
  | some r => Dp K H v (recV r)
def sp_parsed (K : PySem.W.Frag) : Sp := fun vs H Q _ => ∃ z : Str, vs = [.str z] ∧ z.length ≤ 100000 ∧ (∀ c ∈ tl z, c < 1114112) ∧ ∀ v H', Ex H H' → outP K H' (M24.parseL (tl z)) v → Q v H'
theorem kinds_mem (k : List Nat) : (mk k ∈ kindsS) ↔ k ∈ M24.kinds := by
  unfold kindsS
  constructor
  · intro h; obtain ⟨x, hx, e⟩ := List.mem_map.mp h; rw [← mk_inj.mp e]; exact hx
  · intro h; exact List.mem_map.mpr ⟨k, h, rfl⟩
theorem ok_parsed {gs gi aK : Addr} {gsd gid : FuncData} (D : Def K mg "parsed" s_parsed ["line"] f fd) (B : Blt mg) (C_KINDS : Cst mg "KINDS" (.ref aK)) (hK : ∀ H, SqT K H aK (kindsS.map V.str))
    (D_sum_of : Def K mg "sum_of" s_sum_of ["text"] gs gsd) (G_sum_of : FnOk P w K mg base CX0 n gs gsd ["text"] sp_sum)
    (D_is_number : Def K mg "is_number" s_is_number ["text"] gi gid) (G_is_number : FnOk P w K mg base CX0 n gi gid ["text"] sp_isnum) :
    FnOk P w K mg base CX0 (n + 1) f fd ["line"] (sp_parsed K) := by
  refine D.F.ok sc_parsed (fun vs H Q E h => ?_) (fun cdv A outer s H vs Q E hr h => ?_)
  · obtain ⟨z, rfl, _⟩ := h; rfl
  obtain ⟨z, rfl, hz, hs, q⟩ := h
  refine ⟨_, (pss_cons (ps_set (i := 1) sc_parsed.nd rfl (.inl rfl) (pe_splitU (pv 0) pe_str))
      (pss_cut (ps_if (PW.pt (pw_or (pt_cmpR (op_neU (K := K) (u64 hr)) (pe_callB (c_len (K := K)) (by rfl) B.len PySem.boot_len (pa_cons (pv 1) pa_nil)) pe_int (nomark _)) (pw_or (pt_cmpR (op_notInU (K := K) (u65 hr)) (pe_ix (ix_u (K := K)) (pv 1) pe_int (fun _ _ => rfl)) (pe_cst (by rfl) C_KINDS) (by rfl)) (pw_or (pt_cmpR (op_eqU (K := K) (u64 hr)) (pe_ix (ix_u (K := K)) (pv 1) pe_int (fun _ _ => rfl)) pe_str (nomark _)) (pw_or (pt_cmpR (op_eqU (K := K) (u64 hr)) (pe_ix (ix_u (K := K)) (pv 1) pe_int (fun _ _ => rfl)) pe_str (nomark _)) (pw_or1 (pt_not (pt_truthU (K := K) (pe_call G_is_number hr (by rfl) D_is_number.m D_is_number.F.kp D_is_number.b .nil pass0 (pa_cons (pe_ix (ix_u (K := K)) (pv 1) pe_int (fun _ _ => rfl)) pa_nil)) (by intro _; rfl))))))))) (pss_one (ps_ret pe_non)) pss_nil)
      (pss_cut (ps_if (pt_cmpR (op_neU (K := K) (u64 hr)) (pe_callTy c_str (by rfl) B.str (by decide +kernel) (pa_cons (pe_call G_sum_of hr (by rfl) D_sum_of.m D_sum_of.F.kp D_sum_of.b .nil pass0 (pa_cons (pe_slice (sl_u (K := K)) (pv 0) po_none (po_some (pe_op op_sub (pe_callB (c_len (K := K)) (by rfl) B.len PySem.boot_len (pa_cons (pv 0) pa_nil)) (pe_callB (c_len (K := K)) (by rfl) B.len PySem.boot_len (pa_cons (pe_ix (ix_u (K := K)) (pv 1) pe_int (fun _ _ => rfl)) pa_nil))))) pa_nil)) pa_nil)) (pe_ix (ix_u (K := K)) (pv 1) pe_int (fun _ _ => rfl)) (nomark _)) (pss_one (ps_ret pe_non)) pss_nil)
      (pss_one (ps_ret (pe_tup (pa_cons (pe_ix (ix_u (K := K)) (pv 1) pe_int (fun _ _ => rfl)) (pa_cons (pe_ix (ix_u (K := K)) (pv 1) pe_int (fun _ _ => rfl)) (pa_cons (pe_ix (ix_u (K := K)) (pv 1) pe_int (fun _ _ => rfl)) (pa_cons (pe_callTy c_int (by rfl) B.int (by decide +kernel) (pa_cons (pe_ix (ix_u (K := K)) (pv 1) pe_int (fun _ _ => rfl)) pa_nil)) pa_nil)))))))))), ?_⟩
  have hzl : z.length ≤ sizeLine := Nat.le_trans hz (by decide)
  walk_at "go"
  refine ⟨z, _, rfl, rfl, rfl, by rw [sizeLine_eq]; omega, fun p np => ?_⟩
  rw [show (Str.ofString " ") = mk [32] from rfl, split_cut z 32 (by decide)]
  generalize hH1 : upd H p _ = H1
  have e1 : Ex H H1 := by rw [← hH1]; exact Ex.new np
  have hp : H1 p = some (.lst (((M24.cut 32 (tl z)).map mk).map V.str)) := by rw [← hH1]; exact upd_same
  have hsub := M24.cut_sub 32 (tl z)
  clear hH1
  walk_at "go"
  have out : ∀ (H2 : Hp), Ex H1 H2 → M24.parseL (tl z) = none → Q .non H2 := fun H2 e h => q _ _ (e1.trans e) (by rw [h]; rfl)
  unfold M24.parseL at out q
  refine r_cut (fun σ' H' => ∃ k o b m t : List Nat, Ex H1 H' ∧ σ' = [some (.str z), some (.ref p)] ∧ M24.cut 32 (tl z) = [k, o, b, m, t] ∧ k ∈ M24.kinds ∧ o ≠ [] ∧ b ≠ [] ∧ M24.isNumL m = true) ?_ ?_
  · walk_at "go"
    generalize hc : M24.cut 32 (tl z) = parts at *
    have five : (((parts.map mk).map V.str).length : Int) = 5 ↔ parts.length = 5 := by rw [List.length_map, List.length_map]; omega
    refine ite_nd (fun h => ?_) (fun h => ?_)
    · walk_at "go"
      refine out H1 (Ex.refl _) ?_
      have h5 : parts.length ≠ 5 := fun e => h (five.mpr e)
      match parts, h5 with
      | [], _ => rfl
      | [_], _ => rfl
      | [_, _], _ => rfl
      | [_, _, _], _ => rfl
      | [_, _, _, _], _ => rfl
      | [_, _, _, _, _], h5 => exact absurd rfl h5
      | _ :: _ :: _ :: _ :: _ :: _ :: _, _ => rfl
    · have h5 := five.mp h
      match parts, h5 with
      | [k, o, b, m, t], _ =>
      have ek : inV (V.str (mk k)) (kindsS.map V.str) = decide (k ∈ M24.kinds) := by
        rw [inV_strs]; exact decide_eq_decide.mpr (kinds_mem k)
      have emp : ∀ l : List Nat, (mk l = Str.ofString "") ↔ l = [] := fun l => ⟨fun e => by have := congrArg tl e; exact this, fun e => by subst e; rfl⟩
      have no : ∀ H2, Ex H1 H2 → ¬ M24.okParts (tl z) k o b m t → Q .non H2 := fun H2 e h => out H2 e (if_neg h)
      have hm := hsub m (by simp)
      walk_at "go"
      refine r_ninL (.inr (hK H1)) rfl (flat_strs _) ?_
      rw [ek]
      walk_at "go"
      refine ite_nd (fun h1 => ?_) (fun h1 => ?_)
      · walk_at "go"
        exact no H1 (Ex.refl _) fun q => h1 q.1
      walk_at "go"
      refine ite_d (fun h2 => ?_) (fun h2 => ?_)
      · walk_at "go"
        exact no H1 (Ex.refl _) fun q => q.2.1 ((emp o).mp h2)
      walk_at "go"
      refine ite_d (fun h3 => ?_) (fun h3 => ?_)
      · walk_at "go"
        exact no H1 (Ex.refl _) fun q => q.2.2.1 ((emp b).mp h3)
      walk_at "go"
      refine ⟨_, rfl, by rw [mk_len]; rw [← len_tl] at hm; omega, fun c hc => hs c (hm.2.2 c hc), fun H2 e2 => ?_⟩
      walk_at "go"
      rw [tl_mk]
      cases h4 : M24.isNumL m
      · walk_at "go"
        refine no H2 e2 fun q => ?_
        have := q.2.2.2.1
        rw [h4] at this; cases this
      · walk_at "go"
        exact ⟨k, o, b, m, t, e2, rfl, rfl, h1, fun e => h2 ((emp o).mpr e), fun e => h3 ((emp b).mpr e), h4⟩
  · rintro σ H2 ⟨k, o, b, m, t, e2, rfl, hc, h1, h2, h3, h4⟩
    rw [hc] at hp q out hsub
    have hp2 := e2 _ _ hp
    have ht := hsub t (by simp)
    have hm := hsub m (by simp)
    rw [← len_tl] at ht hm
    refine r_nocut ?_
    walk_at "go"
    rw [show ((z.length : Int) - ((mk t).length : Int)) = ((z.length - t.length : Nat) : Int) by rw [mk_len t]; omega, cutS_to (Nat.sub_le _ _)]
    refine ⟨_, rfl, ?_⟩
    rw [tl_mk]
    have lm := log_small (sum_lt ((tl z).take (z.length - t.length)))
    walk_at "go"
    refine ite_nd (fun h5 => ?_) (fun h5 => ?_)
    · walk_at "go"
      refine out H2 e2 (if_neg fun q => h5 ?_)
      have := q.2.2.2.2
      rw [← len_tl] at this
      exact (mk_eq (tl_num _)).trans (mk_inj.mpr this)
    · have e5 : numL (M24.sumN ((tl z).take (z.length - t.length))) = t := by
        have := congrArg tl h5
        rw [tl_num] at this; exact this
      have hd : NumText.AllDigits m := by
        unfold M24.isNumL at h4
        rw [Bool.and_eq_true, List.all_eq_true] at h4
        intro c hc
        have := h4.2 c hc
        unfold M24.digit at this
        rw [Bool.and_eq_true, decide_eq_true_eq, decide_eq_true_eq] at this
        omega
      have hne : m ≠ [] := by
        intro e; subst e; exact absurd h4 (by decide)
      have h9 : m.length ≤ 9 := by
        unfold M24.isNumL at h4
        rw [Bool.and_eq_true] at h4
        have := h4.1
        simp at this
        omega
      have ei : PySem.intText? (mk m) = some (NumText.digitsVal m : Nat) := intText_digits (x := mk m) hd hne (by rw [mk_len]; omega)
      walk_at "go"
      refine ⟨_, ei, by rw [mk_len]; omega, ?_⟩
      walk_at "go"
      refine ⟨by walk_at "sz", fun p3 np3 => ?_⟩
      refine q _ _ ((e1.trans e2).trans (Ex.new np3)) ?_
      have : M24.parseP (tl z) [k, o, b, m, t] = some ⟨k, o, b, NumText.digitsVal m⟩ := if_pos ⟨h1, h2, h3, h4, by rw [← len_tl]; exact e5⟩
      rw [this]
      exact .tup (SqT.of upd_same) (.cons (.str _) (.cons (.str _) (.cons (.str _) (.cons (.int _) .nil))))
end

set_option maxHeartbeats 8000000
section
variable {P : Program} {w : World} {K : PySem.W.Frag} {mg : Str → Option Value} {base : Heap} {f : Addr} {fd : FuncData} {n : Nat}
def sp_read (K : PySem.W.Frag) : Sp := fun vs H Q _ => ∃ z : Str, vs = [.str z] ∧ z.length ≤ 100000 ∧ (∀ c ∈ tl z, c < 1114112) ∧ ∀ v H', Ex H H' → Dp K H' v (.list ((M24.readL (tl z)).map recV)) → Q v H'
theorem goes_step {l : List (List Nat)} {i : Nat} {x : List Nat} (h : l[i]? = some x) : M24.goes (l.drop i) = match M24.parseL x with
    | some r => r :: M24.goes (l.drop (i + 1))
    | none => [] := by
  obtain ⟨h1, h2⟩ := List.getElem?_eq_some_iff.mp h
  rw [List.drop_eq_getElem_cons h1, h2]; rfl
theorem cutV_init (xs : List V) (h : 0 < xs.length) : cutV xs none (some (-1)) = xs.dropLast := by
  unfold cutV
  have e : HT.sIx xs.length xs.length (some (-1)) = xs.length - 1 := sIx_neg (i := 1) h (by decide)
  rw [e]
  show (xs.drop 0).take (xs.length - 1 - 0) = _
  rw [List.drop_zero, Nat.sub_zero, List.dropLast_eq_take]
theorem recs_no : ∀ rs : List M24.Rec, noList.noLists (rs.map recV) = true
  | [] => rfl
  | r :: rs => by show (noList (recV r) && _) = true; rw [recs_no rs]; rfl
theorem ok_read_records {gp : Addr} {gpd : FuncData} (D : Def K mg "read_records" s_read_records ["text"] f fd) (B : Blt mg)
    (D_parsed : Def K mg "parsed" s_parsed ["line"] gp gpd) (G_parsed : FnOk P w K mg base CX0 n gp gpd ["line"] (sp_parsed K)) :
    FnOk P w K mg base CX0 (n + 1) f fd ["text"] (sp_read K) := by
  refine D.F.ok sc_read_records (fun vs H Q E h => ?_) (fun cdv A outer s H vs Q E hr h => ?_)
  · obtain ⟨z, rfl, _⟩ := h; rfl
  obtain ⟨z, rfl, hz, hs, q⟩ := h
  refine ⟨_, (pss_cons (ps_set (i := 1) sc_read_records.nd rfl (.inl rfl) (pe_lst pa_nil))
      (pss_cons (ps_set (i := 2) sc_read_records.nd rfl (.inl rfl) (pe_splitU (pv 0) pe_str))
      (pss_cut (ps_for PassesOwn.never rfl (pi_any (K := K) (pe_slice (sl_u (K := K)) (pv 2) po_none (po_some (pe_un un_neg pe_int)))) (pg_name (i := 3) sc_read_records.nd rfl (.inl rfl)) (pss_cons (ps_set (i := 4) sc_read_records.nd rfl (.inl rfl) (pe_call G_parsed hr (by rfl) D_parsed.m D_parsed.F.kp D_parsed.b .nil pass0 (pa_cons (pv 3) pa_nil)))
      (pss_cut (ps_if (pt_cmpR op_isN (pv 4) pe_non (nomark _)) (pss_one ps_break) pss_nil)
      (pss_one (ps_expr (uBM_mk (K := K) (pe_bm PySem.F.plainAttrs_list PySem.F.slot_list_append PySem.F.type_list_append mt_append (pv 1) (pa_cons (pv 4) pa_nil))))))))
      (pss_one (ps_ret (pv 1)))))), ?_⟩
  have hzl : z.length ≤ sizeLine := Nat.le_trans hz (by decide)
  walk_at "go"
  refine ⟨Nat.zero_le _, fun fo nf => ?_⟩
  generalize hH1 : upd H fo _ = H1
  have e1 : Ex H H1 := by rw [← hH1]; exact Ex.new nf
  have hf : H1 fo = some (.lst []) := by rw [← hH1]; exact upd_same
  clear hH1
  walk_at "go"
  refine ⟨z, _, rfl, rfl, rfl, by rw [sizeLine_eq]; omega, fun p np => ?_⟩
  rw [show (Str.ofString "\n") = mk [10] from rfl, split_cut z 10 (by decide)]
  generalize hH1 : upd H1 p _ = H2
  have e2 : Ex H1 H2 := by rw [← hH1]; exact Ex.new np
  have hp : H2 p = some (.lst (((M24.cut 10 (tl z)).map mk).map V.str)) := by rw [← hH1]; exact upd_same
  clear hH1
  walk_at "go"
  refine r_nocut ?_
  walk_at "go"
  refine .inl ⟨p, _, rfl, SqL.of hp, fun l nl => ?_⟩
  have hcl : 0 < (((M24.cut 10 (tl z)).map mk).map V.str).length := by rw [List.length_map, List.length_map, M24.cut_len]; omega
  rw [show (-1 : Int) = -(1 : Int) from rfl, cutV_init _ hcl, ← List.map_dropLast, ← List.map_dropLast]
  generalize hH1 : upd H2 l _ = H3
  have e3 : Ex H2 H3 := by rw [← hH1]; exact Ex.new nl
  have hl : H3 l = some (.lst (((M24.cut 10 (tl z)).dropLast.map mk).map V.str)) := by rw [← hH1]; exact upd_same
  clear hH1
  have hsub : ∀ x ∈ (M24.cut 10 (tl z)).dropLast, x.length ≤ z.length ∧ ∀ c ∈ x, c < 1114112 := fun x hx => by
    have := M24.cut_sub 10 (tl z) x ((List.dropLast_sublist _).subset hx)
    rw [← len_tl] at this
    exact ⟨this.2.1, fun c hc => hs c (this.2.2 c hc)⟩
  unfold M24.readL at q
  have hlen : (M24.cut 10 (tl z)).dropLast.length ≤ 100000 := by
    rw [List.length_dropLast, M24.cut_len]
    have : (tl z).count 10 ≤ (tl z).length := List.count_le_length
    rw [← len_tl] at this; omega
  generalize hL : (M24.cut 10 (tl z)).dropLast = L at *
  refine r_itL (SqL.of hl) ?_
  have flz : l ≠ fo := ne_of_none (e2 _ _ hf) nl |>.symm
  refine for_list (xs := (L.map mk).map V.str) (fun i σ H' => ∃ (y3 y4 : Option V) (rs : List M24.Rec) (vs : List V), σ = [some (.str z), some (.ref fo), some (.ref p), y3, y4] ∧ Ex H H' ∧ H' l = some (.lst ((L.map mk).map V.str)) ∧ H' fo = some (.lst vs) ∧
    DpAll K H' vs (rs.map recV) ∧ rs.length ≤ i ∧ M24.goes L = rs ++ M24.goes (L.drop i)) ⟨none, none, [], [], rfl, (e1.trans e2).trans e3, hl, e3 _ _ (e2 _ _ hf), .nil, Nat.le_refl _, rfl⟩ ?_ ?_ ?_
  · rintro i σ H' _ ⟨y3, y4, rs, vs, _, _, h, _⟩
    exact SqL.of h
  · rintro i x σ H' hx ⟨y3, y4, rs, vs, rfl, ee, hl', hfo, hd, hri, hg⟩
    rw [List.map_map, List.getElem?_map] at hx
    obtain ⟨x0, hx0, rfl⟩ := Option.map_eq_some_iff.mp hx
    have hm := hsub x0 (List.mem_of_getElem? hx0)
    have hi : i < L.length := (List.getElem?_eq_some_iff.mp hx0).1
    rw [goes_step hx0] at hg
    walk_at "go"
    refine ⟨mk x0, rfl, by rw [mk_len x0]; omega, hm.2, fun v H4 e4 ho => ?_⟩
    rw [tl_mk] at ho
    cases hpx : M24.parseL x0 with
    | none =>
      rw [hpx] at ho hg
      cases (show v = .non from ho)
      walk_at "go"
      refine r_nocut ?_
      walk_at "go"
      refine q _ _ (ee.trans e4) ?_
      rw [hg, List.append_nil]
      exact .lst (SqL.of (e4 _ _ hfo)) (dps_mono e4 hd)
    | some r =>
      rw [hpx] at ho hg
      have ho : Dp K H4 v (recV r) := ho
      obtain ⟨va, rfl⟩ : ∃ a, v = .ref a := by cases ho; exact ⟨_, rfl⟩
      have hfo4 := e4 _ _ hfo
      have hv := dps_len hd
      rw [List.length_map] at hv
      walk_at "go"
      refine r_nocut ?_
      walk_at "go"
      have em : Ex H (upd H4 fo (.lst (vs ++ [.ref va]))) := (ee.trans e4).mut nf
      refine ⟨_, _, rs ++ [r], vs ++ [.ref va], rfl, em, (upd_ne flz).trans (e4 _ _ hl'), upd_same, ?_, by rw [List.length_append, List.length_singleton]; omega, by rw [hg, List.append_assoc]; rfl⟩
      rw [List.map_append]
      exact dps_app (dps_keep (TEx.fr hfo4 .upd) (recs_no rs) (dps_mono e4 hd)) (.cons (dp_keep (TEx.fr hfo4 .upd) rfl ho) .nil)
  · rintro σ H' ⟨y3, y4, rs, vs, rfl, ee, hl', hfo, hd, hri, hg⟩
    rw [List.length_map, List.length_map, List.drop_length] at hg
    walk_at "go"
    refine q _ _ ee ?_
    rw [hg]
    show Dp K H' _ (.list ((rs ++ []).map recV))
    rw [List.append_nil]
    exact .lst (SqL.of hfo) hd
end

set_option maxHeartbeats 8000000
section
variable {P : Program} {w : World} {K : PySem.W.Frag} {mg : Str → Option Value} {base : Heap} {f : Addr} {fd : FuncData} {n : Nat}
/-! ### the law's draws -/
structure Stt (a : Addr) (H : Hp) (c : Addr) (ns : List Int) (i v m : Int) (b : Bool) : Prop where
  at_ : H a = some (.lst [.ref c, .int i, .int v, .int m, .bl b, .int 500])
  cells : H c = some (.lst (ns.map V.int))
  len : ns.length ≤ 63
  i0 : 0 ≤ i
  v0 : 0 ≤ v
  vb : b = false → v < 1000000000000000000
  m0 : 0 ≤ m
  m1 : m ≤ 60
def St (a c : Addr) (H : Hp) : Prop := ∃ ns i v m b, Stt a H c ns i v m b
theorem Stt.ne {a : Addr} {H : Hp} {c : Addr} {ns : List Int} {i v m : Int} {b : Bool} (h : Stt a H c ns i v m b) : c ≠ a := ne_of h.cells h.at_ (by intro e; injection e with e; cases ns <;> simp at e)
theorem St.lst {a c : Addr} {H : Hp} (h : St a c H) : ∃ xs, H a = some (.lst xs) := by
  obtain ⟨ns, i, v, m, b, h⟩ := h; exact ⟨_, h.at_⟩
theorem St.cel {a c : Addr} {H : Hp} (h : St a c H) : ∃ xs, H c = some (.lst xs) := by
  obtain ⟨ns, i, v, m, b, h⟩ := h; exact ⟨_, h.cells⟩
theorem St.upd {a c p : Addr} {H : Hp} {o : HO} (h : St a c H) (h1 : p ≠ a) (h2 : p ≠ c) : St a c (L2.upd H p o) := by
  obtain ⟨ns, i, v, m, b, h⟩ := h; exact ⟨ns, i, v, m, b, (upd_ne h1.symm).trans h.at_, (upd_ne h2.symm).trans h.cells, h.len, h.i0, h.v0, h.vb, h.m0, h.m1⟩
theorem St.new {a c p : Addr} {H : Hp} (h : St a c H) (n : H p = none) : p ≠ a ∧ p ≠ c := by
  obtain ⟨xs, hx⟩ := h.lst; obtain ⟨ys, hy⟩ := h.cel; exact ⟨(ne_of_none hx n).symm, (ne_of_none hy n).symm⟩
theorem St.ex {a c : Addr} {H H' : Hp} (h : St a c H) (e : Ex H H') : St a c H' := by
  obtain ⟨ns, i, v, m, b, h⟩ := h; exact ⟨ns, i, v, m, b, e _ _ h.at_, e _ _ h.cells, h.len, h.i0, h.v0, h.vb, h.m0, h.m1⟩
def sp_state (K : PySem.W.Frag) : Sp := fun vs H Q _ => ∃ (a : Addr) (ns : List Int), vs = [.ref a] ∧ SqL K H a (ns.map V.int) ∧ ns.length ≤ 63 ∧ ∀ p c H', Ex H H' → H p = none → St p c H' → Q (.ref p) H'
theorem ok__law_state (D : Def K mg "_law_state" s__law_state ["_law_script"] f fd) (B : Blt mg) :
    FnOk P w K mg base CX0 (n + 1) f fd ["_law_script"] (sp_state K) := by
  refine D.F.ok sc__law_state (fun vs H Q E h => ?_) (fun cdv A outer s H vs Q E hr h => ?_)
  · obtain ⟨a, ns, rfl, _⟩ := h; rfl
  obtain ⟨a, ns, rfl, hs, hn, q⟩ := h
  refine ⟨_, (pss_one (ps_ret (pe_lst (pa_cons (pe_callTy (c_list (K := K)) (by rfl) B.list (by decide +kernel) (pa_cons (pv 0) pa_nil)) (pa_cons pe_int (pa_cons pe_int (pa_cons pe_int (pa_cons pe_bl (pa_cons pe_int pa_nil))))))))), ?_⟩
  walk_at "go"
  refine ⟨a, _, rfl, .inl hs, fun l nl => ?_⟩
  walk_at "go"
  refine ⟨by walk_at "sz", fun p np => ?_⟩
  have hl : (upd H l (.lst (ns.map V.int))) l = some (.lst (ns.map V.int)) := upd_same
  have e1 := Ex.new (o := HO.lst (ns.map V.int)) nl
  have e2 := e1.trans (Ex.new (o := .lst [.ref l, .int 0, .int 0, .int 0, .bl false, .int 500]) np)
  refine q p l _ e2 (Evl.fresh_back e1 np) ⟨ns, 0, 0, 0, false, upd_same, Ex.new np _ _ hl, hn, by omega, by omega, by intro _; omega, by omega, by omega⟩
def sp_draw : Sp := fun vs H Q _ => ∃ (a c : Addr) (lim : Int), vs = [.ref a, .int lim] ∧ St a c H ∧ 0 < lim ∧ lim < 1073741824 ∧ ∀ (r : Int) H', 0 ≤ r → r < lim → St a c H' → Fr a H H' → Q (.int r) H'
theorem fmod_lt {x y : Int} (h : 0 < y) : 0 ≤ x.fmod y ∧ x.fmod y < y := by
  rw [Int.fmod_eq_emod_of_nonneg _ (by omega)]
  exact ⟨Int.emod_nonneg _ (by omega), Int.emod_lt_of_pos _ h⟩
theorem ok__law_draw (D : Def K mg "_law_draw" s__law_draw ["_law_state_here", "_law_limit"] f fd) (B : Blt mg) :
    FnOk P w K mg base CX0 (n + 1) f fd ["_law_state_here", "_law_limit"] sp_draw := by
  refine D.F.ok sc__law_draw (fun vs H Q E h => ?_) (fun cdv A outer s H vs Q E hr h => ?_)
  · obtain ⟨a, c, lim, rfl, _⟩ := h; rfl
  obtain ⟨a, c, lim, rfl, ⟨ns, i, v, m, b, S⟩, hl0, hl1, q⟩ := h
  refine ⟨_, (pss_cut (ps_if (pt_cmpR (op_eqU (K := K) (u64 hr)) (pe_ix (ix_u (K := K)) (pv 0) pe_int (fun _ _ => rfl)) pe_int (nomark _)) (pss_cut (ps_if (pt_cmpR (op_geU) (pe_ix (ix_u (K := K)) (pv 0) pe_int (fun _ _ => rfl)) (pe_callB (c_len (K := K)) (by rfl) B.len PySem.boot_len (pa_cons (pe_ix (ix_u (K := K)) (pv 0) pe_int (fun _ _ => rfl)) pa_nil)) (nomark _)) (pss_one (ps_ret pe_int)) pss_nil)
      (pss_cons (ps_set (i := 2) sc__law_draw.nd rfl (.inl rfl) (pe_ix (ix_u (K := K)) (pe_ix (ix_u (K := K)) (pv 0) pe_int (fun _ _ => rfl)) (pe_ix (ix_u (K := K)) (pv 0) pe_int (fun _ _ => rfl)) (fun _ _ => rfl)))
      (pss_cut (ps_if (pt_cmpR (op_ltU) (pv 2) pe_int (nomark _)) (pss_one (ps_set (i := 2) sc__law_draw.nd rfl (.inl rfl) (pe_op op_sub (pe_un un_neg pe_int) (pv 2)))) pss_nil)
      (pss_cons (ps_asg (pe_op (op_addU (K := K)) (pe_ix (ix_u (K := K)) (pv 0) pe_int (fun _ _ => rfl)) pe_int) (pg_sub (pv 0) pe_int set_list))
      (pss_cons (ps_asg (pv 2) (pg_sub (pv 0) pe_int set_list))
      (pss_cons (ps_asg (pe_cmpR (op_geU) (pv 2) (pe_op op_pow pe_int pe_int) (nomark _)) (pg_sub (pv 0) pe_int set_list))
      (pss_cons (ps_asg pe_int (pg_sub (pv 0) pe_int set_list))
      (pss_one (ps_if (pt_truthU (K := K) (pe_ix (ix_u (K := K)) (pv 0) pe_int (fun _ _ => rfl)) (by intro _; rfl)) (pss_one (ps_asg pe_int (pg_sub (pv 0) pe_int set_list))) pss_nil))))))))) pss_nil)
      (pss_cons (ps_asg (pe_op op_sub (pe_ix (ix_u (K := K)) (pv 0) pe_int (fun _ _ => rfl)) pe_int) (pg_sub (pv 0) pe_int set_list))
      (pss_cut (ps_if (pt_truthU (K := K) (pe_ix (ix_u (K := K)) (pv 0) pe_int (fun _ _ => rfl)) (by intro _; rfl)) (pss_cons (ps_set (i := 3) sc__law_draw.nd rfl (.inl rfl) (pe_op op_modN (pe_callTy c_int (by rfl) B.int (by decide +kernel) (pa_cons (pe_ix (ix_u (K := K)) (pv 0) pe_int (fun _ _ => rfl)) pa_nil)) (pv 1)))
      (pss_cons (ps_asg (pe_op op_fdivN (pe_ix (ix_u (K := K)) (pv 0) pe_int (fun _ _ => rfl)) (pv 1)) (pg_sub (pv 0) pe_int set_list))
      (pss_cut (ps_if (pt_cmpR (op_eqU (K := K) (u64 hr)) (pe_ix (ix_u (K := K)) (pv 0) pe_int (fun _ _ => rfl)) pe_int (nomark _)) (pss_one (ps_asg pe_int (pg_sub (pv 0) pe_int set_list))) pss_nil)
      (pss_one (ps_ret (pv 3)))))) pss_nil)
      (pss_cons (ps_set (i := 4) sc__law_draw.nd rfl (.inl rfl) (pe_op op_modN (pe_callTy c_int (by rfl) B.int (by decide +kernel) (pa_cons (pe_op (op_addU (K := K)) (pe_op (op_addU (K := K)) (pe_op op_mulU (pe_ix (ix_u (K := K)) (pv 0) pe_int (fun _ _ => rfl)) pe_int) (pe_op op_mulU (pe_ix (ix_u (K := K)) (pv 0) pe_int (fun _ _ => rfl)) pe_int)) pe_int) pa_nil)) pe_int))
      (pss_cons (ps_set (i := 4) sc__law_draw.nd rfl (.inl rfl) (pe_op op_modN (pe_callTy c_int (by rfl) B.int (by decide +kernel) (pa_cons (pe_op (op_addU (K := K)) (pe_op (op_addU (K := K)) (pe_op op_mulU (pv 4) (pv 4)) (pe_op op_mulU (pe_ix (ix_u (K := K)) (pv 0) pe_int (fun _ _ => rfl)) pe_int)) (pe_ix (ix_u (K := K)) (pv 0) pe_int (fun _ _ => rfl))) pa_nil)) pe_int))
      (pss_one (ps_ret (pe_op op_modN (pe_callTy c_int (by rfl) B.int (by decide +kernel) (pa_cons (pv 4) pa_nil)) (pv 1))))))))), ?_⟩
  have hat := S.at_
  have hcl := S.cells
  have hca := S.ne
  refine r_cut (fun σ' H' => ∃ x2 i v m b, σ' = [some (.ref a), some (.int lim), x2, none, none] ∧ Stt a H' c ns i v m b ∧ 0 < m ∧ Fr a H H') ?_ ?_
  · walk_at "go"
    refine ite_d (fun hm0 => ?_) (fun hm0 => ?_)
    · refine r_nocut ?_
      walk_at "go"
      rw [List.length_map]
      refine ite_d (fun hi => ?_) (fun hi => ?_)
      · walk_at "go"
        exact q 0 H (Int.le_refl _) hl0 ⟨ns, i, v, m, b, S⟩ (.refl _ _)
      · have hi0 := S.i0
        obtain ⟨j, rfl⟩ := Int.eq_ofNat_of_zero_le hi0
        have hj : j < ns.length := by omega
        have g : (ns.map V.int)[j]? = some (.int ns[j]) := by rw [List.getElem?_map, List.getElem?_eq_getElem hj]; rfl
        generalize ns[j] = cell at g
        walk_at "go"
        refine r_cut (fun σ' H' => ∃ cell', 0 ≤ cell' ∧ σ' = [some (.ref a), some (.int lim), some (.int cell'), none, none] ∧ H' = H) ?_ ?_
        · walk_at "go"
          refine ite_d (fun hc => ?_) (fun hc => ?_)
          · walk_at "go"
            exact ⟨-1 - cell, by omega, rfl, rfl⟩
          · walk_at "go"
            exact ⟨cell, by omega, rfl, rfl⟩
        · rintro σ' H' ⟨cell', hc', rfl, rfl⟩
          walk_at "go"
          have e18 : (10 : Int) ^ Int.toNat 18 = 1000000000000000000 := by decide
          rw [e18]
          refine ite_d (fun hb => ?_) (fun hb => ?_)
          · walk_at "go"
            exact ⟨_, _, _, _, _, rfl, ⟨upd_same, by walk_at "at", S.len, by omega, hc', by rw [decide_eq_true hb]; exact (fun e => nomatch e), by omega, by omega⟩, by omega, by walk_at "fr"⟩
          · walk_at "go"
            exact ⟨_, _, _, _, _, rfl, ⟨upd_same, by walk_at "at", S.len, by omega, hc', fun _ => by omega, by omega, by omega⟩, by omega, by walk_at "fr"⟩
    · walk_at "go"
      exact ⟨_, i, v, m, b, rfl, S, by have := S.m0; omega, .refl _ _⟩
  · rintro σ' H' ⟨x2, i, v, m, b, rfl, S, hm, fr⟩
    have hat := S.at_
    have hcl := S.cells
    have hv0 := S.v0
    have hm1 := S.m1
    walk_at "go"
    refine r_nocut ?_
    walk_at "go"
    cases hb : b with
    | true =>
      walk_at "go"
      have hr := fmod_lt (x := v) hl0
      refine r_cut (fun σ' H'' => σ' = [some (.ref a), some (.int lim), x2, some (.int (v.fmod lim)), none] ∧ St a c H'' ∧ PL.Fr a H H'') ?_ ?_
      · have hd : 0 ≤ v.fdiv lim := Int.fdiv_nonneg hv0 (by omega)
        walk_at "go"
        refine ite_d (fun h0 => ?_) (fun h0 => ?_)
        · walk_at "go"
          exact ⟨rfl, ⟨ns, _, _, _, _, upd_same, by walk_at "at", S.len, S.i0, hd, (fun e => nomatch e), by omega, by omega⟩, by walk_at "fr"⟩
        · walk_at "go"
          exact ⟨rfl, ⟨ns, _, _, _, _, upd_same, by walk_at "at", S.len, S.i0, hd, (fun e => nomatch e), by omega, by omega⟩, by walk_at "fr"⟩
      · rintro σ' H'' ⟨rfl, s2, f2⟩
        walk_at "go"
        exact q _ H'' hr.1 hr.2 s2 f2
    | false =>
      have hv := S.vb hb
      walk_at "go"
      have hx := fmod_lt (x := v * 48271 + (m - 1) * 69621 + 7) (y := 2147483647) (by decide)
      generalize (v * 48271 + (m - 1) * 69621 + 7).fmod 2147483647 = mx at *
      walk_at "go"
      have hr := fmod_lt (x := (mx * mx + v * 31 + (m - 1)).fmod 1000003) hl0
      exact q _ _ hr.1 hr.2 ⟨ns, _, _, _, _, upd_same, by walk_at "at", S.len, S.i0, hv0, fun _ => hv, by omega, by omega⟩ (by walk_at "fr")
end

set_option maxHeartbeats 8000000
/-! ### names -/
abbrev sm (c : Nat) : Prop := 97 ≤ c ∧ c ≤ 122
abbrev al (c : Nat) : Prop := sm c ∨ (48 ≤ c ∧ c ≤ 57)
def wordsS : List Str := ["pact", "end", "choice", "both", "loop", "use"]
structure IsNm (l : List Nat) : Prop where
  pos : 1 ≤ l.length
  le : l.length ≤ 12
  hd : ∀ c, l.head? = some c → sm c
  all : ∀ c ∈ l, al c
  nw : mk l ∉ wordsS
theorem at_in {l : List Nat} {i : Int} (h0 : 0 ≤ i) (h1 : i < l.length) : ∃ c, atI l i = some c ∧ c ∈ l := by
  obtain ⟨j, rfl⟩ := Int.eq_ofNat_of_zero_le h0
  have hj : j < l.length := by omega
  exact ⟨l[j], atI_nat (List.getElem?_eq_getElem hj), List.getElem_mem hj⟩
theorem small_sm : ∀ c ∈ tl (Str.ofString "abcdefghijklmnopqrstuvwxyz"), sm c := by rw [tl_ofString]; decide +kernel
theorem other_al : ∀ c ∈ tl (Str.ofString "abcdefghijklmnopqrstuvwxyz" ++ Str.ofString "0123456789"), al c := by rw [tl_append, tl_ofString, tl_ofString]; decide +kernel
theorem mulOk4 (a b c : Nat) : MulOk (mk [a, b, c]) 4 := ⟨by decide, fun _ _ => (by show ¬ (3 : Int) > _; decide), fun _ _ => (by show Builtin.Str.tooLong (3 * 4) = false; decide)⟩
theorem mul4 (a b c : Nat) : Txt.mul (mk [a, b, c]) 4 = mk [a, b, c, a, b, c, a, b, c, a, b, c] := rfl
theorem nm_plus {l : List Nat} (h : mk l ∈ wordsS) : IsNm (l ++ [49]) := by
  have key : ∀ x ∈ wordsS, IsNm (tl x ++ [49]) := by
    intro x hx
    have : 1 ≤ (tl x ++ [49]).length ∧ (tl x ++ [49]).length ≤ 12 ∧ ((tl x ++ [49]).headD 0 ≥ 97 ∧ (tl x ++ [49]).headD 0 ≤ 122) ∧ (∀ c ∈ tl x ++ [49], (97 ≤ c ∧ c ≤ 122) ∨ (48 ≤ c ∧ c ≤ 57)) ∧ tl x ++ [49] ∉ wordsS.map tl := by
      revert x; decide +kernel
    obtain ⟨h1, h2, h3, h4, h5⟩ := this
    refine ⟨h1, h2, fun c hc => ?_, h4, fun hm => h5 (List.mem_map.mpr ⟨_, hm, rfl⟩)⟩
    have : (tl x ++ [49]).headD 0 = c := by rw [List.headD_eq_head?_getD, hc]; rfl
    rw [this] at h3; exact h3
  exact key _ h
section
variable {P : Program} {w : World} {K : PySem.W.Frag} {mg : Str → Option Value} {base : Heap} {f : Addr} {fd : FuncData} {n : Nat}
def sp_name : Sp := fun vs H Q _ => ∃ (a c : Addr), vs = [.ref a] ∧ St a c H ∧ ∀ (l : List Nat) H', IsNm l → St a c H' → PL.Fr a H H' → Q (.str (mk l)) H'
theorem ok__law_name {gd : Addr} {gdd : FuncData} (D : Def K mg "_law_name" s__law_name ["_law_state_here"] f fd) (B : Blt mg)
    (D__law_draw : Def K mg "_law_draw" s__law_draw ["_law_state_here", "_law_limit"] gd gdd) (G__law_draw : FnOk P w K mg base CX0 n gd gdd ["_law_state_here", "_law_limit"] sp_draw) :
    FnOk P w K mg base CX0 (n + 1) f fd ["_law_state_here"] sp_name := by
  refine D.F.ok sc__law_name (fun vs H Q E h => ?_) (fun cdv A outer s H vs Q E hr h => ?_)
  · obtain ⟨a, c, rfl, _⟩ := h; rfl
  obtain ⟨a, c, rfl, S, q⟩ := h
  refine ⟨_, (pss_cons (ps_set (i := 1) sc__law_name.nd rfl (.inl rfl) pe_str)
      (pss_cons (ps_set (i := 2) sc__law_name.nd rfl (.inl rfl) (pe_op (op_addU (K := K)) (pv 1) pe_str))
      (pss_cons (ps_set (i := 3) sc__law_name.nd rfl (.inl rfl) (pe_call G__law_draw hr (by rfl) D__law_draw.m D__law_draw.F.kp D__law_draw.b .nil pass0 (pa_cons (pv 0) (pa_cons pe_int pa_nil))))
      (pss_cons (ps_set (i := 4) sc__law_name.nd rfl (.inl rfl) (pe_ix (ix_u (K := K)) (pv 1) (pe_op op_modN (pe_callTy c_int (by rfl) B.int (by decide +kernel) (pa_cons (pe_op op_fdivN (pv 3) pe_int) pa_nil)) pe_int) (fun _ _ => rfl)))
      (pss_cons (ps_set (i := 5) sc__law_name.nd rfl (.inl rfl) (pe_op (op_addU (K := K)) (pe_op (op_addU (K := K)) (pe_ix (ix_u (K := K)) (pv 2) (pe_op op_modN (pe_callTy c_int (by rfl) B.int (by decide +kernel) (pa_cons (pe_op op_fdivN (pv 3) pe_int) pa_nil)) pe_int) (fun _ _ => rfl)) (pe_ix (ix_u (K := K)) (pv 2) (pe_op op_modN (pe_callTy c_int (by rfl) B.int (by decide +kernel) (pa_cons (pe_op op_fdivN (pv 3) pe_int) pa_nil)) pe_int) (fun _ _ => rfl))) (pe_ix (ix_u (K := K)) (pv 2) (pe_op op_modN (pe_callTy c_int (by rfl) B.int (by decide +kernel) (pa_cons (pv 3) pa_nil)) pe_int) (fun _ _ => rfl))))
      (pss_cut (ps_if (pt_cmpR (op_eqU (K := K) (u64 hr)) (pe_call G__law_draw hr (by rfl) D__law_draw.m D__law_draw.F.kp D__law_draw.b .nil pass0 (pa_cons (pv 0) (pa_cons pe_int pa_nil))) pe_int (nomark _)) (pss_one (ps_set (i := 4) sc__law_name.nd rfl (.inl rfl) (pe_slice (sl_u (K := K)) (pe_op (op_addU (K := K)) (pv 4) (pe_op op_mulU (pv 5) pe_int)) po_none (po_some (pe_op (op_addU (K := K)) pe_int (pe_call G__law_draw hr (by rfl) D__law_draw.m D__law_draw.F.kp D__law_draw.b .nil pass0 (pa_cons (pv 0) (pa_cons pe_int pa_nil)))))))) (pss_one (ps_set (i := 4) sc__law_name.nd rfl (.inl rfl) (pe_op (op_addU (K := K)) (pv 4) (pe_slice (sl_u (K := K)) (pv 5) po_none (po_some (pe_op op_modN (pe_callTy c_int (by rfl) B.int (by decide +kernel) (pa_cons (pv 3) pa_nil)) pe_int)))))))
      (pss_cut (ps_if (pt_cmpR (op_inU (K := K) (u65 hr)) (pv 4) (pe_lst (pa_cons pe_str (pa_cons pe_str (pa_cons pe_str (pa_cons pe_str (pa_cons pe_str (pa_cons pe_str pa_nil))))))) (by rfl)) (pss_one (ps_ret (pe_op (op_addU (K := K)) (pv 4) pe_str))) pss_nil)
      (pss_one (ps_ret (pv 4)))))))))), ?_⟩
  have l26 : (Str.ofString "abcdefghijklmnopqrstuvwxyz").length = 26 := by decide +kernel
  have l10 : (Str.ofString "0123456789").length = 10 := by decide +kernel
  walk_at "go"
  have l36 : (Str.ofString "abcdefghijklmnopqrstuvwxyz" ++ Str.ofString "0123456789").length = 36 := by rw [slen, l26, l10]
  walk_at "go"
  refine ⟨a, c, 134784, rfl, S, by omega, by omega, fun r H1 r0 r1 S1 f1 => ?_⟩
  walk_at "go"
  obtain ⟨c0, g0, m0⟩ := at_in (l := tl (Str.ofString "abcdefghijklmnopqrstuvwxyz")) (i := (r.fdiv 4).fmod 26) (fmod_lt (by omega)).1 (by rw [← len_tl, l26]; exact (fmod_lt (by omega)).2)
  refine r_ixS ?_ g0 ?_
  · rw [l26, sizeLine_eq]; omega
  walk_at "go"
  obtain ⟨c1, g1, m1⟩ := at_in (l := tl (Str.ofString "abcdefghijklmnopqrstuvwxyz" ++ Str.ofString "0123456789")) (i := (r.fdiv 104).fmod 36) (fmod_lt (by omega)).1 (by rw [← len_tl, l36]; exact (fmod_lt (by omega)).2)
  refine r_ixS ?_ g1 ?_
  · rw [l36, sizeLine_eq]; omega
  walk_at "go"
  obtain ⟨c2, g2, m2⟩ := at_in (l := tl (Str.ofString "abcdefghijklmnopqrstuvwxyz" ++ Str.ofString "0123456789")) (i := (r.fdiv 3744).fmod 36) (fmod_lt (by omega)).1 (by rw [← len_tl, l36]; exact (fmod_lt (by omega)).2)
  refine r_ixS ?_ g2 ?_
  · rw [l36, sizeLine_eq]; omega
  walk_at "go"
  obtain ⟨c3, g3, m3⟩ := at_in (l := tl (Str.ofString "abcdefghijklmnopqrstuvwxyz" ++ Str.ofString "0123456789")) (i := r.fmod 35) (fmod_lt (by omega)).1 (by rw [← len_tl, l36]; have := (fmod_lt (x := r) (y := 35) (by omega)).2; omega)
  refine r_ixS ?_ g3 ?_
  · rw [l36, sizeLine_eq]; omega
  walk_at "go"
  have a0 := small_sm _ m0
  have a1 := other_al _ m1
  have a2 := other_al _ m2
  have a3 := other_al _ m3
  have etail : (({ cps := #[c1] } : Str) ++ { cps := #[c2] } ++ { cps := #[c3] }) = mk [c1, c2, c3] := rfl
  rw [etail]
  refine r_cut (fun σ' H' => ∃ l t : List Nat, σ' = [some (.ref a), some (.str "abcdefghijklmnopqrstuvwxyz"), some (.str ("abcdefghijklmnopqrstuvwxyz" ++ "0123456789")), some (.int r), some (.str (mk (c0 :: t))), some (.str (mk [c1, c2, c3]))] ∧ t.length ≤ 11 ∧ (∀ c ∈ t, al c) ∧ St a c H' ∧ PL.Fr a H H') ?_ ?_
  · walk_at "go"
    refine ⟨a, c, 9, rfl, S1, by omega, by omega, fun r2 H2 r20 r21 S2 f2 => ?_⟩
    walk_at "go"
    refine ite_d (fun h8 => ?_) (fun h8 => ?_)
    · walk_at "go"
      refine ⟨4, rfl, mulOk4 _ _ _, ?_⟩
      rw [mul4]
      walk_at "go"
      refine ⟨a, c, 9, rfl, S2, by omega, by omega, fun r3 H3 r30 r31 S3 f3 => ?_⟩
      obtain ⟨j, rfl⟩ := Int.eq_ofNat_of_zero_le r30
      walk_at "go"
      have e : (({ cps := #[c0] } : Str) ++ mk [c1, c2, c3, c1, c2, c3, c1, c2, c3, c1, c2, c3]) = mk [c0, c1, c2, c3, c1, c2, c3, c1, c2, c3, c1, c2, c3] := rfl
      rw [e, show (4 + (j : Int)) = ((4 + j : Nat) : Int) by omega, cutS_to (by show 4 + j ≤ 13; omega), tl_mk]
      walk_at "go"
      refine ⟨[], [c1, c2, c3, c1, c2, c3, c1, c2, c3, c1, c2, c3].take (3 + j), ?_, ?_, ?_, S3, (f1.trans f2).trans f3⟩
      · rw [show 4 + j = (3 + j) + 1 by omega]; rfl
      · rw [List.length_take]; omega
      · intro c hc
        have := List.mem_of_mem_take hc
        simp only [List.mem_cons, List.not_mem_nil, or_false] at this
        rcases this with h | h | h | h | h | h | h | h | h | h | h | h <;> (subst h; assumption)
    · walk_at "go"
      obtain ⟨r40, r41⟩ := fmod_lt (x := r) (y := 4) (by omega)
      obtain ⟨j, hj⟩ := Int.eq_ofNat_of_zero_le r40
      rw [hj] at r41 ⊢
      rw [cutS_to (by show j ≤ 3; omega), tl_mk]
      refine r_addS ?_ ?_
      · rw [mk_len [c0], mk_len, List.length_take, sizeLine_eq]; simp only [List.length_cons, List.length_nil]; omega
      walk_at "go"
      refine ⟨[], [c1, c2, c3].take j, ?_, ?_, ?_, S2, f1.trans f2⟩
      · have : (({ cps := #[c0] } : Str) ++ mk ([c1, c2, c3].take j)) = mk (c0 :: [c1, c2, c3].take j) := ext_tl (by rw [tl_append]; rfl)
        rw [this]; rfl
      · rw [List.length_take]; simp only [List.length_cons, List.length_nil]; omega
      · intro c hc
        have := List.mem_of_mem_take hc
        simp only [List.mem_cons, List.not_mem_nil, or_false] at this
        rcases this with h | h | h <;> (subst h; assumption)
  · rintro σ' H' ⟨l, t, rfl, ht, hal, S', f'⟩
    refine r_nocut ?_
    walk_at "go"
    refine ⟨by walk_at "sz", fun p np => ?_⟩
    refine r_inL (xs := wordsS.map V.str) (.inl (SqL.of upd_same)) rfl rfl ?_
    rw [inV_strs]
    have e1 := Ex.new (o := HO.lst (wordsS.map V.str)) np
    walk_at "go"
    refine ite_d (fun hw => ?_) (fun hw => ?_)
    · walk_at "go"
      have e2 : mk (c0 :: t) ++ Str.ofString "1" = mk ((c0 :: t) ++ [49]) := ext_tl (by rw [tl_append]; rfl)
      rw [e2]
      exact q _ _ (nm_plus hw) (S'.ex e1) (f'.trans (.of e1))
    · walk_at "go"
      refine q _ _ ⟨by simp, by simp only [List.length_cons]; omega, fun c hc => ?_, fun c hc => ?_, hw⟩ (S'.ex e1) (f'.trans (.of e1))
      · have : c0 = c := by simpa using hc
        rw [← this]; exact a0
      · rcases List.mem_cons.mp hc with rfl | hc
        · exact .inl a0
        · exact hal c hc
end

set_option maxHeartbeats 8000000
section
variable {P : Program} {w : World} {K : PySem.W.Frag} {mg : Str → Option Value} {base : Heap} {f : Addr} {fd : FuncData} {n : Nat}
/-! ### a record that is drawn -/
structure GoodR (r : M24.Rec) : Prop where
  g : M24.Good r
  lo : r.o.length ≤ 30
  lb : r.b.length ≤ 30
  lk : r.k.length ≤ 30
  aa : M24.Asc r
theorem al_free {c : Nat} (h : al c) : c ≠ 32 ∧ c ≠ 10 ∧ c < 9973 := by rcases h with ⟨h1, h2⟩ | ⟨h1, h2⟩ <;> omega
def sp_lrec (K : PySem.W.Frag) : Sp := fun vs H Q _ => ∃ (a c : Addr), vs = [.ref a] ∧ St a c H ∧ ∀ (r : M24.Rec) v H', GoodR r → Dp K H' v (recV r) → St a c H' → PL.Fr a H H' → Q v H'
theorem kind_at {i : Int} (h0 : 0 ≤ i) (h1 : i < 11) : ∃ c, atI (tl (Str.ofString "pkgtranyxwz")) i = some c ∧ [c] ∈ M24.kinds := by
  have l11 : (tl (Str.ofString "pkgtranyxwz")).length = 11 := by rw [tl_ofString]; decide +kernel
  obtain ⟨c, h, hm⟩ := at_in (l := tl (Str.ofString "pkgtranyxwz")) h0 (by rw [l11]; omega)
  refine ⟨c, h, ?_⟩
  have : ∀ c ∈ tl (Str.ofString "pkgtranyxwz"), [c] ∈ M24.kinds := by rw [tl_ofString]; decide +kernel
  exact this c hm
theorem ok__law_record {gd gn : Addr} {gdd gnd : FuncData} (D : Def K mg "_law_record" s__law_record ["_law_state_here"] f fd) (B : Blt mg)
    (D__law_draw : Def K mg "_law_draw" s__law_draw ["_law_state_here", "_law_limit"] gd gdd) (G__law_draw : FnOk P w K mg base CX0 n gd gdd ["_law_state_here", "_law_limit"] sp_draw)
    (D__law_name : Def K mg "_law_name" s__law_name ["_law_state_here"] gn gnd) (G__law_name : FnOk P w K mg base CX0 n gn gnd ["_law_state_here"] sp_name) :
    FnOk P w K mg base CX0 (n + 1) f fd ["_law_state_here"] (sp_lrec K) := by
  refine D.F.ok sc__law_record (fun vs H Q E h => ?_) (fun cdv A outer s H vs Q E hr h => ?_)
  · obtain ⟨a, c, rfl, _⟩ := h; rfl
  obtain ⟨a, c, rfl, S, q⟩ := h
  refine ⟨_, (pss_cons (ps_set (i := 1) sc__law_record.nd rfl (.inl rfl) (pe_ix (ix_u (K := K)) pe_str (pe_call G__law_draw hr (by rfl) D__law_draw.m D__law_draw.F.kp D__law_draw.b .nil pass0 (pa_cons (pv 0) (pa_cons pe_int pa_nil))) (fun _ _ => rfl)))
      (pss_cons (ps_set (i := 2) sc__law_record.nd rfl (.inl rfl) (pe_call G__law_name hr (by rfl) D__law_name.m D__law_name.F.kp D__law_name.b .nil pass0 (pa_cons (pv 0) pa_nil)))
      (pss_cons (ps_set (i := 3) sc__law_record.nd rfl (.inl rfl) (pe_call G__law_name hr (by rfl) D__law_name.m D__law_name.F.kp D__law_name.b .nil pass0 (pa_cons (pv 0) pa_nil)))
      (pss_cut (ps_if (pt_cmpR (op_eqU (K := K) (u64 hr)) (pe_call G__law_draw hr (by rfl) D__law_draw.m D__law_draw.F.kp D__law_draw.b .nil pass0 (pa_cons (pv 0) (pa_cons pe_int pa_nil))) pe_int (nomark _)) (pss_one (ps_set (i := 3) sc__law_record.nd rfl (.inl rfl) (pe_ix (ix_u (K := K)) (pe_lst (pa_cons pe_str (pa_cons (pe_op (op_addU (K := K)) (pe_op (op_addU (K := K)) (pv 3) pe_str) (pv 2)) pa_nil))) (pe_call G__law_draw hr (by rfl) D__law_draw.m D__law_draw.F.kp D__law_draw.b .nil pass0 (pa_cons (pv 0) (pa_cons pe_int pa_nil))) (fun _ _ => rfl)))) pss_nil)
      (pss_cons (ps_set (i := 4) sc__law_record.nd rfl (.inl rfl) (pe_op (op_addU (K := K)) pe_int (pe_call G__law_draw hr (by rfl) D__law_draw.m D__law_draw.F.kp D__law_draw.b .nil pass0 (pa_cons (pv 0) (pa_cons (pe_ix (ix_u (K := K)) (pe_lst (pa_cons pe_int (pa_cons pe_int pa_nil))) (pe_call G__law_draw hr (by rfl) D__law_draw.m D__law_draw.F.kp D__law_draw.b .nil pass0 (pa_cons (pv 0) (pa_cons pe_int pa_nil))) (fun _ _ => rfl)) pa_nil)))))
      (pss_one (ps_ret (pe_tup (pa_cons (pv 1) (pa_cons (pv 2) (pa_cons (pv 3) (pa_cons (pv 4) pa_nil)))))))))))), ?_⟩
  walk_at "go"
  refine ⟨a, c, 11, rfl, S, by omega, by omega, fun r1 H1 h10 h11 S1 f1 => ?_⟩
  walk_at "go"
  obtain ⟨c0, g0, hk⟩ := kind_at h10 h11
  refine r_ixS ?_ g0 ?_
  · rw [show (Str.ofString "pkgtranyxwz").length = 11 from by decide +kernel, sizeLine_eq]; omega
  walk_at "go"
  refine ⟨a, c, rfl, S1, fun lo H2 no S2 f2 => ?_⟩
  walk_at "go"
  refine ⟨a, c, rfl, S2, fun lb H3 nb S3 f3 => ?_⟩
  walk_at "go"
  have hlo := no.le
  have hlb := nb.le
  have f03 := (f1.trans f2).trans f3
  refine r_cut (fun σ' H' => ∃ l : List Nat, σ' = [some (.ref a), some (.str (mk [c0])), some (.str (mk lo)), some (.str (mk l)), none] ∧ l ≠ [] ∧ l.length ≤ 30 ∧ (∀ c ∈ l, c ≠ 32 ∧ c ≠ 10 ∧ c < 9973) ∧ St a c H' ∧ PL.Fr a H H') ?_ ?_
  · walk_at "go"
    refine ⟨a, c, 3, rfl, S3, by omega, by omega, fun r4 H4 h40 h41 S4 f4 => ?_⟩
    walk_at "go"
    refine ite_d (fun h2 => ?_) (fun h2 => ?_)
    · walk_at "go"
      refine ⟨by walk_at "sz", fun p np => ?_⟩
      walk_at "go"
      have e1 := Ex.new (o := HO.lst [V.str (Str.ofString "."), V.str (mk lb ++ Str.ofString "." ++ mk lo)]) np
      refine ⟨a, c, 2, rfl, S4.ex e1, by omega, by omega, fun r5 H5 h50 h51 S5 f5 => ?_⟩
      have hpa : p ≠ a := by obtain ⟨xs, hx⟩ := S4.lst; exact (ne_of_none hx np).symm
      have hp5 : H5 p = some (.lst [V.str (Str.ofString "."), V.str (mk lb ++ Str.ofString "." ++ mk lo)]) := f5 _ _ hpa upd_same
      have ff : PL.Fr a H H5 := ((f03.trans f4).trans (.of e1)).trans f5
      have e2 : mk lb ++ Str.ofString "." ++ mk lo = mk (lb ++ [46] ++ lo) := ext_tl (by rw [tl_append, tl_append]; rfl)
      have hr5 : r5 = 0 ∨ r5 = 1 := by omega
      rcases hr5 with rfl | rfl
      · walk_at "go"
        exact ⟨[46], rfl, by decide, by decide, by decide, S5, ff⟩
      · walk_at "go"
        rw [e2]
        refine ⟨lb ++ [46] ++ lo, rfl, by simp, by simp only [List.length_append, List.length_singleton]; omega, fun c hc => ?_, S5, ff⟩
        simp only [List.mem_append, List.mem_singleton] at hc
        rcases hc with (hc | rfl) | hc
        · exact al_free (nb.all c hc)
        · omega
        · exact al_free (no.all c hc)
    · walk_at "go"
      exact ⟨lb, rfl, fun e => by have := nb.pos; rw [e] at this; simp at this, by omega, fun c hc => al_free (nb.all c hc), S4, f03.trans f4⟩
  · rintro σ' H4 ⟨l, rfl, hl1, hl2, hl3, S4, f4⟩
    walk_at "go"
    refine ⟨by walk_at "sz", fun p np => ?_⟩
    walk_at "go"
    have e1 := Ex.new (o := HO.lst [V.int 9, V.int 999999999]) np
    refine ⟨a, c, 2, rfl, S4.ex e1, by omega, by omega, fun r5 H5 h50 h51 S5 f5 => ?_⟩
    have hpa : p ≠ a := by obtain ⟨xs, hx⟩ := S4.lst; exact (ne_of_none hx np).symm
    have hp5 : H5 p = some (.lst [V.int 9, V.int 999999999]) := f5 _ _ hpa upd_same
    have ff : PL.Fr a H H5 := (f4.trans (.of e1)).trans f5
    have fin : ∀ (m : Int) H6, 0 ≤ m → m < 999999999 → St a c H6 → PL.Fr a H5 H6 → ∀ p6, H6 p6 = none → Q (.ref p6) (upd H6 p6 (.tup [.str (mk [c0]), .str (mk lo), .str (mk l), .int (1 + m)])) := by
      intro m H6 m0 m1 S6 f6 p6 np6
      obtain ⟨j, rfl⟩ := Int.eq_ofNat_of_zero_le m0
      have e6 := Ex.new (o := HO.tup [V.str (mk [c0]), V.str (mk lo), V.str (mk l), V.int (1 + (j : Int))]) np6
      refine q ⟨[c0], lo, l, 1 + j⟩ _ _ ⟨⟨hk, fun e => by have := no.pos; rw [show lo = [] from e] at this; simp at this, hl1, fun c hc => ?_, fun c hc => ?_, by show 1 ≤ 1 + j; omega, by show 1 + j ≤ 999999999; omega⟩, by show lo.length ≤ 30; omega, hl2, by show 1 ≤ 30; omega, ⟨fun c hc => (al_free (no.all c hc)).2.2, fun c hc => (hl3 c hc).2.2⟩⟩ ?_ (S6.ex e6) ((ff.trans f6).trans (.of e6))
      · have := al_free (no.all c hc); exact ⟨this.1, this.2.1⟩
      · have := hl3 c hc; exact ⟨this.1, this.2.1⟩
      · exact .tup (SqT.of upd_same) (.cons (.str _) (.cons (.str _) (.cons (.str _) (.cons (by rw [show (1 + (j : Int)) = ((1 + j : Nat) : Int) by omega]; exact .int _) .nil))))
    have hr5 : r5 = 0 ∨ r5 = 1 := by omega
    rcases hr5 with rfl | rfl
    · walk_at "go"
      refine ⟨a, c, 9, rfl, S5, by omega, by omega, fun r6 H6 h60 h61 S6 f6 => ?_⟩
      walk_at "go"
      exact ⟨by walk_at "sz", fun p6 np6 => fin r6 H6 h60 (by omega) S6 f6 p6 np6⟩
    · walk_at "go"
      refine ⟨a, c, 999999999, rfl, S5, by omega, by omega, fun r6 H6 h60 h61 S6 f6 => ?_⟩
      walk_at "go"
      exact ⟨by walk_at "sz", fun p6 np6 => fin r6 H6 h60 h61 S6 f6 p6 np6⟩
end

set_option maxHeartbeats 8000000
section
variable {P : Program} {w : World} {K : PySem.W.Frag} {mg : Str → Option Value} {base : Heap} {f : Addr} {fd : FuncData} {n : Nat}
theorem text_len {r : M24.Rec} (h : GoodR r) : (M24.text r).length ≤ 113 := by
  have h1 := numL_len (n := r.n) (k := 9) (by decide) (by have := h.g.n2; omega)
  have h2 := numL_len (n := M24.sumN (M24.body r)) (k := 9) (by decide) (by have := sum_lt (M24.body r); omega)
  have := h.lo; have := h.lb; have := h.lk
  have eb : (M24.body r).length = r.k.length + r.o.length + r.b.length + (numL r.n).length + 4 := by
    unfold M24.body; simp only [List.length_append, List.length_singleton]; omega
  unfold M24.text M24.line
  generalize M24.sumN (M24.body r) = m at *
  simp only [List.length_append, List.length_singleton, eb]; omega
def sp_ltext (K : PySem.W.Frag) : Sp := fun vs H Q _ => ∃ (v : V) (r : M24.Rec), vs = [v] ∧ Dp K H v (recV r) ∧ GoodR r ∧ Q (.str (mk (M24.text r))) H
theorem ok__law_text {gs : Addr} {gsd : FuncData} (D : Def K mg "_law_text" s__law_text ["_law_entry"] f fd) (B : Blt mg)
    (D__law_sum : Def K mg "_law_sum" s__law_sum ["_law_text_here"] gs gsd) (G__law_sum : FnOk P w K mg base CX0 n gs gsd ["_law_text_here"] sp_sum) :
    FnOk P w K mg base CX0 (n + 1) f fd ["_law_entry"] (sp_ltext K) := by
  refine D.F.ok sc__law_text (fun vs H Q E h => ?_) (fun cdv A outer s H vs Q E hr h => ?_)
  · obtain ⟨v, r, rfl, _⟩ := h; rfl
  obtain ⟨v, r, rfl, hd, hg, q⟩ := h
  refine ⟨_, (pss_cons (ps_set (i := 1) sc__law_text.nd rfl (.inl rfl) (pe_op (op_addU (K := K)) (pe_op (op_addU (K := K)) (pe_op (op_addU (K := K)) (pe_op (op_addU (K := K)) (pe_op (op_addU (K := K)) (pe_op (op_addU (K := K)) (pe_op (op_addU (K := K)) (pe_ix (ix_u (K := K)) (pv 0) pe_int (fun _ _ => rfl)) pe_str) (pe_ix (ix_u (K := K)) (pv 0) pe_int (fun _ _ => rfl))) pe_str) (pe_ix (ix_u (K := K)) (pv 0) pe_int (fun _ _ => rfl))) pe_str) (pe_callTy c_str (by rfl) B.str (by decide +kernel) (pa_cons (pe_ix (ix_u (K := K)) (pv 0) pe_int (fun _ _ => rfl)) pa_nil))) pe_str))
      (pss_one (ps_ret (pe_op (op_addU (K := K)) (pe_op (op_addU (K := K)) (pv 1) (pe_callTy c_str (by rfl) B.str (by decide +kernel) (pa_cons (pe_call G__law_sum hr (by rfl) D__law_sum.m D__law_sum.F.kp D__law_sum.b .nil pass0 (pa_cons (pv 1) pa_nil)) pa_nil))) pe_str)))), ?_⟩
  obtain ⟨k, o, b, m⟩ := r
  have := hg.lo; have := hg.lb; have := hg.lk
  have hm : m ≤ 999999999 := hg.g.n2
  cases hd with
  | @tup a xs ds hT hA =>
  cases hA with
  | cons d1 hA => cases hA with
    | cons d2 hA => cases hA with
      | cons d3 hA => cases hA with
        | cons d4 hA =>
  cases hA
  cases d1; cases d2; cases d3; cases d4
  have ln := num_len hm
  have lm := log_small hm
  have lo : (mk o).length ≤ 30 := by rw [mk_len]; exact hg.lo
  have lb : (mk b).length ≤ 30 := by rw [mk_len]; exact hg.lb
  have lk : (mk k).length ≤ 30 := by rw [mk_len]; exact hg.lk
  have e : mkR (mk k) (mk o) (mk b) m = ⟨k, o, b, m⟩ := rfl
  have lm2 := log_small (sum_lt (M24.body ⟨k, o, b, m⟩))
  have ln2 := num_len (sum_lt (M24.body ⟨k, o, b, m⟩))
  have eb := body_eq (mk k) (mk o) (mk b) m
  rw [e] at eb
  generalize hK' : mk k = sk at *
  generalize hO' : mk o = so at *
  generalize hB' : mk b = sb at *
  walk_at "go"
  refine ⟨_, rfl, ?_⟩
  rw [eb]
  walk_at "go"
  have et : ∀ x : Str, tl x = M24.body ⟨k, o, b, m⟩ → x ++ Str.ofString (toString ((M24.sumN (M24.body ⟨k, o, b, m⟩) : Nat) : Int)) ++ ("\n" : Str) = mk (M24.text ⟨k, o, b, m⟩) := fun x hx => text_eq (mk k) (mk o) (mk b) m hx
  have := et _ eb
  rw [this]
  exact q
theorem ok__law_whole (D : Def K mg "_law_whole" s__law_whole ["_law_texts", "_law_length"] f fd) (B : Blt mg) :
    FnOk P w K mg base CX0 (n + 1) f fd ["_law_texts", "_law_length"] (fun vs H Q _ => ∃ (t : Addr) (p : Nat) (ts : List (List Nat)), vs = [.ref t, .int (p : Nat)] ∧ SqL K H t (ts.map fun x => V.str (mk x)) ∧ (∀ x ∈ ts, x.length ≤ 1000) ∧ Q (.int (M24.wholeN p ts : Nat)) H) := by
  refine D.F.ok sc__law_whole (fun vs H Q E h => ?_) (fun cdv A outer s H vs Q E hr h => ?_)
  · obtain ⟨t, p, ts, rfl, _⟩ := h; rfl
  obtain ⟨t, p, ts, rfl, hs, hl, q⟩ := h
  refine ⟨_, (pss_cons (ps_set (i := 2) sc__law_whole.nd rfl (.inl rfl) pe_int)
      (pss_cons (ps_set (i := 3) sc__law_whole.nd rfl (.inl rfl) pe_int)
      (pss_cut (ps_for PassesOwn.never rfl (pi_any (K := K) (pv 0)) (pg_name (i := 4) sc__law_whole.nd rfl (.inl rfl)) (pss_cons (ps_set (i := 3) sc__law_whole.nd rfl (.inl rfl) (pe_op (op_addU (K := K)) (pv 3) (pe_callB (c_len (K := K)) (by rfl) B.len PySem.boot_len (pa_cons (pv 4) pa_nil))))
      (pss_one (ps_if (pt_cmpR (op_leU) (pv 3) (pv 1) (nomark _)) (pss_one (ps_set (i := 2) sc__law_whole.nd rfl (.inl rfl) (pe_op (op_addU (K := K)) (pv 2) pe_int))) pss_nil))))
      (pss_one (ps_ret (pv 2)))))), ?_⟩
  walk_at "go"
  refine r_nocut ?_
  walk_at "go"
  refine r_itL hs ?_
  refine for_list (xs := ts.map fun x => V.str (mk x)) (fun i σ H' => H' = H ∧ ∃ x4 st, σ = [some (.ref t), some (.int (p : Nat)), some (.int (st.2 : Nat)), some (.int (st.1 : Nat)), x4] ∧ st = (ts.take i).foldl (M24.wholeF p) (0, 0)) ⟨rfl, none, (0, 0), rfl, rfl⟩ ?_ ?_ ?_
  · rintro i σ H' _ ⟨rfl, _⟩; exact hs
  · rintro i x σ H' hx ⟨rfl, x4, st, rfl, hst⟩
    rw [List.getElem?_map] at hx
    obtain ⟨x0, hx0, rfl⟩ := Option.map_eq_some_iff.mp hx
    have hm := hl x0 (List.mem_of_getElem? hx0)
    have hm2 : (mk x0).length ≤ 1000 := by rw [mk_len]; exact hm
    have e1 : (ts.take (i + 1)).foldl (M24.wholeF p) (0, 0) = M24.wholeF p st x0 := by
      rw [List.take_add_one, hx0, List.foldl_append, ← hst]; rfl
    walk_at "go"
    rw [mk_len x0]
    refine ite_d (fun h => ?_) (fun h => ?_)
    · walk_at "go"
      refine ⟨rfl, some (.str (mk x0)), M24.wholeF p st x0, ?_, e1.symm⟩
      have : M24.wholeF p st x0 = (st.1 + x0.length, st.2 + 1) := by unfold M24.wholeF; rw [if_pos (by omega)]
      rw [this]; rfl
    · walk_at "go"
      refine ⟨rfl, some (.str (mk x0)), M24.wholeF p st x0, ?_, e1.symm⟩
      have : M24.wholeF p st x0 = (st.1 + x0.length, st.2) := by unfold M24.wholeF; rw [if_neg (by omega)]
      rw [this]; rfl
  · rintro σ H' ⟨rfl, x4, st, rfl, hst⟩
    rw [List.length_map, List.take_length] at hst
    walk_at "go"
    rw [hst]
    exact q
end

set_option maxHeartbeats 8000000
/-! ### the law -/
theorem rec_lay {r : M24.Rec} (h : GoodR r) : (recV r).canLay0 = true := by
  have asc : ∀ l : List Nat, (∀ c ∈ l, c < 9973) → PyData.strOk (mk l) = true := by
    intro l hl
    unfold PyData.strOk
    rw [Array.all_eq_true']
    intro c hc
    have := hl c (by simpa using hc)
    exact decide_eq_true (by omega)
  have hk : ∀ c ∈ r.k, c < 9973 := by
    have kd : ∀ k ∈ M24.kinds, ∀ c ∈ k, c < 9973 := by decide
    exact kd _ h.g.k
  simp only [recV, PyData.canLay0, PyData.canLayAll0, asc _ hk, asc _ h.aa.o, asc _ h.aa.b, Bool.and_self, Bool.true_and]
theorem recs_shaped {rs : List M24.Rec} (h : ∀ r ∈ rs, GoodR r) : SeqAt.shaped (.list (rs.map recV)) = true := by
  have h1 : ∀ rs : List M24.Rec, (∀ r ∈ rs, GoodR r) → PyData.canLayAll0 (rs.map recV) = true := by
    intro rs; induction rs with
    | nil => intro _; rfl
    | cons r rs ih =>
      intro h
      show ((recV r).canLay0 && PyData.canLayAll0 (rs.map recV)) = true
      rw [rec_lay (h r List.mem_cons_self), ih fun x hx => h x (List.mem_cons_of_mem _ hx)]; rfl
  have h2 : ∀ rs : List M24.Rec, PyData.depthAll (rs.map recV) ≤ 2 := by
    intro rs; induction rs with
    | nil => simp [PyData.depthAll]
    | cons r rs ih =>
      have : (recV r).depth ≤ 1 + 1 := by simp [recV, PyData.depth, PyData.depthAll]
      simp only [List.map_cons, PyData.depthAll]; omega
  show ((PyData.list _).canLay0 && decide ((PyData.list _).depth ≤ 64)) = true
  rw [Bool.and_eq_true]
  refine ⟨by simp only [PyData.canLay0]; exact h1 rs h, decide_eq_true ?_⟩
  have := h2 rs
  simp only [PyData.depth]; omega
theorem joinL_nil : ∀ l : List (List Nat), joinL [] l = l.flatten
  | [] => rfl
  | [p] => by show p = _; simp
  | p :: q :: r => by show p ++ ([] ++ joinL [] (q :: r)) = _; rw [joinL_nil (q :: r)]; simp
theorem join_flat (l : List (List Nat)) : Txt.join (Str.ofString "") (l.map mk) = mk l.flatten := by
  refine ext_tl ?_
  rw [join_eq, tl_join, List.map_map]
  have e : (tl ∘ mk) = id := by funext x; rfl
  rw [e, List.map_id]
  show joinL [] l = l.flatten
  exact joinL_nil l
theorem cutV_to (xs : List V) (i : Nat) (h : i ≤ xs.length) : cutV xs none (some (i : Int)) = xs.take i := by
  unfold cutV
  rw [sIx_nat h]
  show (xs.drop 0).take (i - 0) = _
  rw [List.drop_zero, Nat.sub_zero]
def sp_law (K : PySem.W.Frag) : Sp := fun vs H Q _ => ∃ (a : Addr) (ns : List Int), vs = [.ref a] ∧ SqL K H a (ns.map V.int) ∧ ns.length ≤ 63 ∧ ∀ H', Q (.bl true) H'
def othersS : List Str := ["p b x 1 764\n", "p b x 01 763\n", "q b x 1 763\n", "p b x 1\n", "p  x 1 763\n", "\n", "p b x 1 763", "p b x 0 763\n"]
theorem others_none : ∀ x ∈ othersS, M24.readL (tl x) = [] := by decide +kernel
theorem others_small : ∀ x ∈ othersS, x.length ≤ 20 ∧ ∀ c ∈ tl x, c < 9973 := by decide +kernel
def signsS : List Str := ["a", " ", "\n", "7", "0", ".", "p", "-"]
theorem signs_one : ∀ x ∈ signsS, ∃ c, x = mk [c] ∧ c < 9973 := by
  have : ∀ x ∈ signsS, x = mk [(tl x).headD 0] ∧ (tl x).headD 0 < 9973 := by decide +kernel
  exact fun x hx => ⟨_, this x hx⟩
theorem at_map {α β : Type} {g : α → β} {l : List α} {i : Int} (h0 : 0 ≤ i) (h1 : i < l.length) : ∃ x, x ∈ l ∧ atI (l.map g) i = some (g x) := by
  obtain ⟨j, rfl⟩ := Int.eq_ofNat_of_zero_le h0
  have hj : j < l.length := by omega
  exact ⟨l[j], List.getElem_mem hj, atI_nat (by rw [List.getElem?_map, List.getElem?_eq_getElem hj]; rfl)⟩
section
variable {P : Program} {w : World} {K : PySem.W.Frag} {mg : Str → Option Value} {base : Heap} {f : Addr} {fd : FuncData} {n : Nat}
theorem ok_law {g1 g2 g3 g4 g5 g6 g7 : Addr} {d1 d2 d3 d4 d5 d6 d7 : FuncData} (D : Def K mg "law" s_law ["_law_script"] f fd) (B : Blt mg)
    (D__law_state : Def K mg "_law_state" s__law_state ["_law_script"] g1 d1) (G__law_state : FnOk P w K mg base CX0 n g1 d1 ["_law_script"] (sp_state K))
    (D__law_draw : Def K mg "_law_draw" s__law_draw ["_law_state_here", "_law_limit"] g2 d2) (G__law_draw : FnOk P w K mg base CX0 n g2 d2 ["_law_state_here", "_law_limit"] sp_draw)
    (D__law_record : Def K mg "_law_record" s__law_record ["_law_state_here"] g3 d3) (G__law_record : FnOk P w K mg base CX0 n g3 d3 ["_law_state_here"] (sp_lrec K))
    (D__law_text : Def K mg "_law_text" s__law_text ["_law_entry"] g4 d4) (G__law_text : FnOk P w K mg base CX0 n g4 d4 ["_law_entry"] (sp_ltext K))
    (D_record : Def K mg "record" s_record ["kind", "other", "label", "number"] g5 d5) (G_record : FnOk P w K mg base CX0 n g5 d5 ["kind", "other", "label", "number"] sp_record)
    (D_read_records : Def K mg "read_records" s_read_records ["text"] g6 d6) (G_read_records : FnOk P w K mg base CX0 n g6 d6 ["text"] (sp_read K))
    (D__law_whole : Def K mg "_law_whole" s__law_whole ["_law_texts", "_law_length"] g7 d7) (G__law_whole : FnOk P w K mg base CX0 n g7 d7 ["_law_texts", "_law_length"] (fun vs H Q _ => ∃ (t : Addr) (p : Nat) (ts : List (List Nat)), vs = [.ref t, .int (p : Nat)] ∧ SqL K H t (ts.map fun x => V.str (mk x)) ∧ (∀ x ∈ ts, x.length ≤ 1000) ∧ Q (.int (M24.wholeN p ts : Nat)) H)) :
    FnOk P w K mg base CX0 (n + 1) f fd ["_law_script"] (sp_law K) := by
  refine D.F.ok sc_law (fun vs H Q E h => ?_) (fun cdv A outer s H vs Q E hr h => ?_)
  · obtain ⟨a, ns, rfl, _⟩ := h; rfl
  obtain ⟨sa, ns, rfl, hs, hn, q⟩ := h
  refine ⟨_, (pss_cons (ps_set (i := 1) sc_law.nd rfl (.inr rfl) (pe_call G__law_state hr (by rfl) D__law_state.m D__law_state.F.kp D__law_state.b .nil pass0 (pa_cons (pv 0) pa_nil)))
      (pss_cons (ps_setLc (i := 3) (own := [("_law_k", 2)]) (g := gName 2) (tt := tYes) rfl sc_law.nd rfl rfl (sw_true rfl rfl rfl (by decide +kernel)) (pi_range1 (by rfl) B.range (pa_cons (pe_call G__law_draw hr (by rfl) D__law_draw.m D__law_draw.F.kp D__law_draw.b .nil pass0 (pa_cons (pv 1) (pa_cons pe_int pa_nil))) pa_nil)) (blkOk_by (own := [("_law_k", 2)]) (N := ["_law_script", "_law_state_here", "_law_k", "_law_entries", "_law_texts", "_law_text_here", "_law_kind", "_law_place", "_law_others", "_law_sign", "_law_spoiled", "_law_entry"]) (sc := defScope s_law) (by decide +kernel)) (fun _ _ _ _ _ => (pg_name (i := 2) sc_law.nd rfl (.inl rfl))) (fun _ _ _ _ _ => pts_nil) (fun _ _ _ _ _ => (pe_call G__law_record hr (by rfl) D__law_record.m D__law_record.F.kp D__law_record.b .nil pass0 (pa_cons (pv 1) pa_nil))))
      (pss_cons (ps_setLc (i := 4) (own := [("_law_entry", 11)]) (g := gName 11) (tt := tYes) rfl sc_law.nd rfl rfl (sw_true rfl rfl rfl (by decide +kernel)) (pi_any (K := K) (pv 3)) (blkOk_by (own := [("_law_entry", 11)]) (N := ["_law_script", "_law_state_here", "_law_k", "_law_entries", "_law_texts", "_law_text_here", "_law_kind", "_law_place", "_law_others", "_law_sign", "_law_spoiled", "_law_entry"]) (sc := defScope s_law) (by decide +kernel)) (fun _ _ _ _ _ => (pg_name (i := 11) sc_law.nd rfl (.inl rfl))) (fun _ _ _ _ _ => pts_nil) (fun _ _ _ _ _ => (pe_call G__law_text hr (by rfl) D__law_text.m D__law_text.F.kp D__law_text.b .nil pass0 (pa_cons (pv 11) pa_nil))))
      (pss_cut (ps_for PassesOwn.never rfl (pi_range1 (by rfl) B.range (pa_cons (pe_callB (c_len (K := K)) (by rfl) B.len PySem.boot_len (pa_cons (pv 3) pa_nil)) pa_nil)) (pg_name (i := 2) sc_law.nd rfl (.inl rfl)) (pss_one (ps_if (pt_cmpR (op_neU (K := K) (u64 hr)) (pe_call G_record hr (by rfl) D_record.m D_record.F.kp D_record.b .nil pass0 (pa_cons (pe_ix (ix_u (K := K)) (pe_ix (ix_u (K := K)) (pv 3) (pv 2) (fun _ _ => rfl)) pe_int (fun _ _ => rfl)) (pa_cons (pe_ix (ix_u (K := K)) (pe_ix (ix_u (K := K)) (pv 3) (pv 2) (fun _ _ => rfl)) pe_int (fun _ _ => rfl)) (pa_cons (pe_ix (ix_u (K := K)) (pe_ix (ix_u (K := K)) (pv 3) (pv 2) (fun _ _ => rfl)) pe_int (fun _ _ => rfl)) (pa_cons (pe_ix (ix_u (K := K)) (pe_ix (ix_u (K := K)) (pv 3) (pv 2) (fun _ _ => rfl)) pe_int (fun _ _ => rfl)) pa_nil))))) (pe_ix (ix_u (K := K)) (pv 4) (pv 2) (fun _ _ => rfl)) (nomark _)) (pss_one (ps_ret pe_bl)) pss_nil)))
      (pss_cons (ps_set (i := 5) sc_law.nd rfl (.inl rfl) (pe_joinU (K := K) pe_str (pv 4)))
      (pss_cons (ps_set (i := 6) sc_law.nd rfl (.inl rfl) (pe_call G__law_draw hr (by rfl) D__law_draw.m D__law_draw.F.kp D__law_draw.b .nil pass0 (pa_cons (pv 1) (pa_cons pe_int pa_nil))))
      (pss_cons (ps_set (i := 7) sc_law.nd rfl (.inl rfl) (pe_call G__law_draw hr (by rfl) D__law_draw.m D__law_draw.F.kp D__law_draw.b .nil pass0 (pa_cons (pv 1) (pa_cons (pe_op (op_addU (K := K)) (pe_callB (c_len (K := K)) (by rfl) B.len PySem.boot_len (pa_cons (pv 5) pa_nil)) pe_int) pa_nil))))
      (pss_cut (ps_if (pt_cmpR (op_eqU (K := K) (u64 hr)) (pv 6) pe_int (nomark _)) (pss_one (ps_ret (pe_cmpR (op_eqU (K := K) (u64 hr)) (pe_call G_read_records hr (by rfl) D_read_records.m D_read_records.F.kp D_read_records.b .nil pass0 (pa_cons (pv 5) pa_nil)) (pv 3) (nomark _)))) pss_nil)
      (pss_cut (ps_if (pt_cmpR (op_eqU (K := K) (u64 hr)) (pv 6) pe_int (nomark _)) (pss_one (ps_ret (pe_cmpR (op_eqU (K := K) (u64 hr)) (pe_call G_read_records hr (by rfl) D_read_records.m D_read_records.F.kp D_read_records.b .nil pass0 (pa_cons (pe_slice (sl_u (K := K)) (pv 5) po_none (po_some (pv 7))) pa_nil)) (pe_slice (sl_u (K := K)) (pv 3) po_none (po_some (pe_call G__law_whole hr (by rfl) D__law_whole.m D__law_whole.F.kp D__law_whole.b .nil pass0 (pa_cons (pv 4) (pa_cons (pv 7) pa_nil))))) (nomark _)))) pss_nil)
      (pss_cut (ps_if (pt_cmpR (op_eqU (K := K) (u64 hr)) (pv 6) pe_int (nomark _)) (pss_cons (ps_set (i := 8) sc_law.nd rfl (.inl rfl) (pe_lst (pa_cons pe_str (pa_cons pe_str (pa_cons pe_str (pa_cons pe_str (pa_cons pe_str (pa_cons pe_str (pa_cons pe_str (pa_cons pe_str pa_nil))))))))))
      (pss_one (ps_ret (pe_cmpR (op_eqU (K := K) (u64 hr)) (pe_call G_read_records hr (by rfl) D_read_records.m D_read_records.F.kp D_read_records.b .nil pass0 (pa_cons (pe_op (op_addU (K := K)) (pv 5) (pe_ix (ix_u (K := K)) (pv 8) (pe_call G__law_draw hr (by rfl) D__law_draw.m D__law_draw.F.kp D__law_draw.b .nil pass0 (pa_cons (pv 1) (pa_cons pe_int pa_nil))) (fun _ _ => rfl))) pa_nil)) (pv 3) (nomark _))))) pss_nil)
      (pss_cut (ps_if (pt_cmpR (op_eqU (K := K) (u64 hr)) (pv 7) (pe_callB (c_len (K := K)) (by rfl) B.len PySem.boot_len (pa_cons (pv 5) pa_nil)) (nomark _)) (pss_one (ps_ret pe_bl)) pss_nil)
      (pss_cons (ps_set (i := 9) sc_law.nd rfl (.inl rfl) (pe_ix (ix_u (K := K)) (pe_lst (pa_cons pe_str (pa_cons pe_str (pa_cons pe_str (pa_cons pe_str (pa_cons pe_str (pa_cons pe_str (pa_cons pe_str (pa_cons pe_str pa_nil))))))))) (pe_call G__law_draw hr (by rfl) D__law_draw.m D__law_draw.F.kp D__law_draw.b .nil pass0 (pa_cons (pv 1) (pa_cons pe_int pa_nil))) (fun _ _ => rfl)))
      (pss_cut (ps_if (pt_cmpR (op_eqU (K := K) (u64 hr)) (pe_ix (ix_u (K := K)) (pv 5) (pv 7) (fun _ _ => rfl)) (pv 9) (nomark _)) (pss_one (ps_ret pe_bl)) pss_nil)
      (pss_cons (ps_set (i := 10) sc_law.nd rfl (.inl rfl) (pe_op (op_addU (K := K)) (pe_op (op_addU (K := K)) (pe_slice (sl_u (K := K)) (pv 5) po_none (po_some (pv 7))) (pv 9)) (pe_slice (sl_u (K := K)) (pv 5) (po_some (pe_op (op_addU (K := K)) (pv 7) pe_int)) po_none)))
      (pss_one (ps_ret (pe_cmpR (op_eqU (K := K) (u64 hr)) (pe_call G_read_records hr (by rfl) D_read_records.m D_read_records.F.kp D_read_records.b .nil pass0 (pa_cons (pv 10) pa_nil)) (pe_slice (sl_u (K := K)) (pv 3) po_none (po_some (pe_call G__law_whole hr (by rfl) D__law_whole.m D__law_whole.F.kp D__law_whole.b .nil pass0 (pa_cons (pv 4) (pa_cons (pv 7) pa_nil))))) (nomark _)))))))))))))))))), ?_⟩
  walk_at "go"
  refine ⟨sa, ns, rfl, hs, hn, fun a c H1 e1 n1 S1 => ?_⟩
  walk_at "go"
  refine ⟨a, c, 9, rfl, S1, by omega, by omega, fun r2 H2 r20 r21 S2 f2 => ?_⟩
  walk_at "go"
  refine ⟨_, rfl, by omega, by omega, fun D1 nD1 => ?_⟩
  obtain ⟨na1, nc1⟩ := S2.new nD1
  refine lc_range (lo := 0) (n := r2.toNat) (fun i H' => ∃ rs vs, H' D1 = some (.lst vs) ∧ DpAll K H' vs (rs.map recV) ∧ rs.length = i ∧ (∀ r ∈ rs, GoodR r) ∧ St a c H') ⟨[], [], upd_same, .nil, rfl, by simp, S2.upd na1 nc1⟩ ?_ ?_
  · rintro i H3 hi ⟨rs, vs, h1, h2, h3, h4, S3⟩
    have hv := dps_len h2
    rw [List.length_map] at hv
    walk_at "go"
    refine ⟨a, c, rfl, S3, fun r v H4 gr dv S4 f4 => ?_⟩
    have h14 := f4 _ _ na1 h1
    obtain ⟨xs, hx⟩ := S3.lst
    refine ⟨_, h14, by rw [sizeLine_eq]; omega, rs ++ [r], vs ++ [v], upd_same, ?_, by rw [List.length_append, h3]; rfl, fun x hx => ?_, S4.upd na1 nc1⟩
    · rw [List.map_append]
      exact dps_app (dps_keep (TEx.fr h14 .upd) (recs_no rs) (dps_keep (TEx.fr hx f4) (recs_no rs) h2)) (.cons (dp_keep (TEx.fr h14 .upd) rfl dv) .nil)
    · rcases List.mem_append.mp hx with hx | hx
      · exact h4 x hx
      · rw [List.mem_singleton.mp hx]; exact gr
  · rintro H3 ⟨rs, vs, h1, h2, h3, h4, S3⟩
    have hv := dps_len h2
    rw [List.length_map] at hv
    walk_at "go"
    refine r_itL (SqL.of h1) (fun D2 nD2 => ?_)
    obtain ⟨na2, nc2⟩ := S3.new nD2
    have n12 : D1 ≠ D2 := ne_of_none h1 nD2
    refine lc_list (xs := vs) (fun i H' => Ex H3 H' ∧ H' D2 = some (.lst (((rs.take i).map M24.text).map fun x => V.str (mk x)))) ⟨Ex.new nD2, upd_same⟩ (fun i H' _ h => SqL.of (h.1 _ _ h1)) ?_ ?_
    · rintro i v H4 hv4 ⟨e4, hD2⟩
      obtain ⟨d, hd1, hd2⟩ := dps_getV h2 hv4
      rw [List.getElem?_map] at hd1
      obtain ⟨r, hr1, rfl⟩ := Option.map_eq_some_iff.mp hd1
      walk_at "go"
      refine ⟨v, r, rfl, dp_mono e4 hd2, h4 r (List.mem_of_getElem? hr1), ?_⟩
      refine ⟨_, hD2, ?_, Evl.Ex.mut e4 nD2, ?_⟩
      · rw [List.length_map, List.length_map, List.length_take, sizeLine_eq]; omega
      · rw [upd_same, List.take_add_one, hr1]; simp
    · rintro H4 ⟨e4, hD2⟩
      rw [List.take_of_length_le (by omega)] at hD2
      have h14 := e4 _ _ h1
      have d4 := dps_mono e4 h2
      have S4 := S3.ex e4
      clear e4 h1 h2 S3 nD2 nD1 S2 f2 S1 e1 n1
      walk_at "go"
      refine r_cut (fun σ' H' => ∃ x2, σ' = [some (.ref sa), some (.ref a), x2, some (.ref D1), some (.ref D2), none, none, none, none, none, none, none] ∧ H' = H4) ?_ ?_
      · walk_at "go"
        refine ⟨_, rfl, by omega, by omega, ?_⟩
        refine for_range (lo := 0) (n := vs.length) (fun i σ' H' => ∃ x2, σ' = [some (.ref sa), some (.ref a), x2, some (.ref D1), some (.ref D2), none, none, none, none, none, none, none] ∧ H' = H4) ⟨none, rfl, rfl⟩ ?_ ?_
        · rintro i σ' H' hi ⟨x2, rfl, rfl⟩
          have hi2 : i < rs.length := by omega
          have hri : rs[i]? = some rs[i] := List.getElem?_eq_getElem hi2
          generalize rs[i] = r at hri
          obtain ⟨v, hv1, hv2⟩ := dps_get (d := recV r) d4 (by rw [List.getElem?_map, hri]; rfl)
          have gr := h4 r (List.mem_of_getElem? hri)
          have ei : ((0 : Int) + (i : Nat)) = ((i : Nat) : Int) := by omega
          rw [ei]
          have hx2 : (((rs.map M24.text).map fun x => V.str (mk x)))[i]? = some (.str (mk (M24.text r))) := by
            rw [List.getElem?_map, List.getElem?_map, hri]; rfl
          cases hv2 with
          | @tup t xs ds hT hA =>
          cases hA with
          | cons d1 hA => cases hA with
            | cons d2 hA => cases hA with
              | cons d3 hA => cases hA with
                | cons d4' hA =>
          cases hA
          cases d1; cases d2; cases d3; cases d4'
          walk_at "go"
          refine ⟨_, _, _, r.n, rfl, by rw [mk_len]; have := gr.lk; omega, by rw [mk_len]; have := gr.lo; omega, by rw [mk_len]; have := gr.lb; omega, gr.g.n2, ?_⟩
          rw [show mkR (mk r.k) (mk r.o) (mk r.b) r.n = r from rfl]
          walk_at "go"
          refine ite_nF rfl ?_
          walk_at "go"
          exact ⟨_, rfl, rfl⟩
        · rintro σ' H' ⟨x2, rfl, rfl⟩
          exact ⟨x2, rfl, rfl⟩
      · rintro σ' H' ⟨x2, rfl, rfl⟩
        have gs : ∀ r ∈ rs, M24.Good r := fun r hr => (h4 r hr).g
        have qs : ∀ r ∈ rs, M24.Asc r := fun r hr => (h4 r hr).aa
        have lens : ∀ x ∈ rs.map M24.text, x.length ≤ 113 := fun x hx => by obtain ⟨r, hr, rfl⟩ := List.mem_map.mp hx; exact text_len (h4 r hr)
        have tot : (M24.allT rs).length ≤ 2000 := by
          have : ∀ l : List (List Nat), (∀ x ∈ l, x.length ≤ 113) → l.flatten.length ≤ 113 * l.length := by
            intro l; induction l with
            | nil => intro _; simp
            | cons x l ih =>
              intro h
              have h1 := h x List.mem_cons_self
              have h2 := ih fun y hy => h y (List.mem_cons_of_mem _ hy)
              rw [List.flatten_cons, List.length_append, List.length_cons]; omega
          have := this _ lens
          rw [List.length_map] at this
          show (rs.map M24.text).flatten.length ≤ 2000
          omega
        have asc : ∀ c ∈ M24.allT rs, c < 9973 := fun c hc => by
          obtain ⟨t, ht, hc⟩ := List.mem_flatten.mp hc
          obtain ⟨r, hr, rfl⟩ := List.mem_map.mp ht
          exact M24.text_asc r (gs r hr) (qs r hr) c hc
        walk_at "go"
        refine ⟨_, D2, (rs.map M24.text).map mk, rfl, rfl, .inl (SqL.of (by rw [List.map_map]; exact hD2)), ?_, ?_⟩
        · have : ∀ l : List (List Nat), (∀ x ∈ l, x.length ≤ 113) → ((l.map mk).map (·.length)).sum ≤ 113 * l.length := by
            intro l; induction l with
            | nil => intro _; simp
            | cons x l ih =>
              intro h
              have h1 := h x List.mem_cons_self
              have h2 := ih fun y hy => h y (List.mem_cons_of_mem _ hy)
              rw [List.map_cons, List.map_cons, List.sum_cons, List.length_cons, mk_len]; omega
          have := this _ lens
          rw [List.length_map] at this
          rw [show (Str.ofString "").length = 0 from rfl]; omega
        rw [join_flat]
        have fin : ∀ (ds : List M24.Rec) (v : V) (y : Addr) H', (∀ r ∈ ds, GoodR r) → Dp K H' v (.list (ds.map recV)) → Dp K H' (.ref y) (.list (ds.map recV)) → uEq K v (.ref y) H' Q := by
          intro ds v y H' hg hv hy
          obtain ⟨va, rfl⟩ : ∃ a, v = .ref a := by cases hv; exact ⟨_, rfl⟩
          refine r_eqD rfl hv hy (recs_shaped hg) (recs_shaped hg) ?_
          rw [SeqAt.eqv_refl _ (SeqAt.canLay_of_shaped (recs_shaped hg))]
          exact q _
        obtain ⟨xs, hx⟩ := S4.lst
        show _
        walk_at "go"
        refine ⟨a, c, 4, rfl, S4, by omega, by omega, fun r5 H5 h50 h51 S5 f5 => ?_⟩
        obtain ⟨xs5, hx5⟩ := S5.lst
        have tlen : (mk (rs.map M24.text).flatten).length = (M24.allT rs).length := mk_len _
        have tl100 : (mk (rs.map M24.text).flatten).length ≤ 2000 := by rw [tlen]; exact tot
        have tsz : (mk (rs.map M24.text).flatten).length ≤ sizeLine := by rw [sizeLine_eq]; omega
        walk_at "go"
        refine ⟨a, c, _, rfl, S5, by omega, by omega, fun r6 H6 h60 h61 S6 f6 => ?_⟩
        have f46 := f5.trans f6
        have h16 := f46 _ _ na1 h14
        have h26 := f46 _ _ na2 hD2
        have d6 := dps_keep (TEx.fr hx f46) (recs_no rs) d4
        obtain ⟨p, rfl⟩ := Int.eq_ofNat_of_zero_le h60
        have hp : p ≤ (M24.allT rs).length := by rw [tlen] at h61; omega
        have takeG : ∀ m, ∀ r ∈ rs.take m, GoodR r := fun m r hr => h4 r (List.mem_of_mem_take hr)
        have hwl : M24.wholeN p (rs.map M24.text) ≤ vs.length := by
          have := (M24.whole_is p (rs.map M24.text) hp).1
          rw [List.length_map] at this; omega
        refine r_nocut ?_
        walk_at "go"
        refine ite_d (fun hk => ?_) (fun hk => ?_)
        · walk_at "go"
          refine ⟨_, rfl, by omega, fun c hc => by have := asc c hc; omega, fun v H7 e7 hv => ?_⟩
          walk_at "go"
          rw [show tl (mk (rs.map M24.text).flatten) = M24.allT rs from rfl, M24.read_all rs gs] at hv
          exact fin rs v D1 H7 h4 hv (.lst (SqL.of (e7 _ _ h16)) (dps_mono e7 d6))
        refine r_nocut ?_
        walk_at "go"
        refine ite_d (fun hk => ?_) (fun hk => ?_)
        · walk_at "go"
          rw [cutS_to (by omega)]
          refine ⟨_, rfl, by rw [mk_len, List.length_take]; have : (tl (mk (rs.map M24.text).flatten)).length ≤ 2000 := tot; omega, fun c hc => by have := asc c (List.mem_of_mem_take hc); omega, fun v H7 e7 hv => ?_⟩
          rw [tl_mk, show tl (mk (rs.map M24.text).flatten) = M24.allT rs from rfl, M24.read_cut rs gs p hp] at hv
          walk_at "go"
          refine ⟨D2, p, rs.map M24.text, rfl, SqL.of (e7 _ _ h26), fun x hx => by have := lens x hx; omega, ?_⟩
          walk_at "go"
          refine .inl ⟨D1, vs, rfl, SqL.of (e7 _ _ h16), fun y ny => ?_⟩
          rw [cutV_to vs _ hwl]
          have e8 := Ex.new (o := HO.lst (vs.take (M24.wholeN p (rs.map M24.text)))) ny
          refine fin _ v y _ (takeG _) (dp_mono e8 hv) (.lst (SqL.of upd_same) ?_)
          rw [List.map_take]
          exact dps_mono e8 (dps_take _ (dps_mono e7 d6))
        refine r_nocut ?_
        walk_at "go"
        refine ite_d (fun hk => ?_) (fun hk => ?_)
        · walk_at "go"
          refine ⟨by walk_at "sz", fun po npo => ?_⟩
          obtain ⟨nao, nco⟩ := S6.new npo
          have e7 := Ex.new (o := HO.lst (othersS.map V.str)) npo
          walk_at "go"
          refine ⟨a, c, 8, rfl, S6.ex e7, by omega, by omega, fun r8 H8 h80 h81 S8 f8 => ?_⟩
          have ho8 : H8 po = some (.lst (othersS.map V.str)) := f8 _ _ nao upd_same
          obtain ⟨x, hxm, hxa⟩ := at_map (g := V.str) (l := othersS) h80 (by show r8 < 8; omega)
          obtain ⟨hx1, hx2⟩ := others_small x hxm
          refine r_ixL (.inl (SqL.of ho8)) hxa ?_
          walk_at "go"
          have etx : tl (mk (rs.map M24.text).flatten ++ x) = M24.allT rs ++ tl x := tl_append _ _
          refine ⟨_, rfl, by rw [slen]; omega, fun c hc => ?_, fun v H9 e9 hv => ?_⟩
          · rw [etx] at hc
            rcases List.mem_append.mp hc with hc | hc
            · have := asc c hc; omega
            · have := hx2 c hc; omega
          rw [etx, M24.read_more rs gs (others_none x hxm)] at hv
          walk_at "go"
          have h18 := f8 _ _ na1 (e7 _ _ h16)
          obtain ⟨xs6, hx6⟩ := (S6.ex e7).lst
          exact fin rs v D1 H9 h4 hv (.lst (SqL.of (e9 _ _ h18)) (dps_mono e9 (dps_keep (TEx.fr hx6 f8) (recs_no rs) (dps_mono e7 d6))))
        refine r_nocut ?_
        walk_at "go"
        refine ite_d (fun hk => ?_) (fun hk => ?_)
        · walk_at "go"
          exact q _
        have hp2 : p < (M24.allT rs).length := by rw [tlen] at hk; omega
        walk_at "go"
        refine ⟨by walk_at "sz", fun po npo => ?_⟩
        obtain ⟨nao, nco⟩ := S6.new npo
        have e7 := Ex.new (o := HO.lst (signsS.map V.str)) npo
        walk_at "go"
        refine ⟨a, c, 8, rfl, S6.ex e7, by omega, by omega, fun r8 H8 h80 h81 S8 f8 => ?_⟩
        have ho8 : H8 po = some (.lst (signsS.map V.str)) := f8 _ _ nao upd_same
        obtain ⟨x, hxm, hxa⟩ := at_map (g := V.str) (l := signsS) h80 (by show r8 < 8; omega)
        obtain ⟨c', rfl, hc'⟩ := signs_one x hxm
        refine r_ixL (.inl (SqL.of ho8)) hxa ?_
        have h18 := f8 _ _ na1 (e7 _ _ h16)
        have h28 := f8 _ _ na2 (e7 _ _ h26)
        obtain ⟨xs6, hx6⟩ := (S6.ex e7).lst
        have d8 := dps_keep (TEx.fr hx6 f8) (recs_no rs) (dps_mono e7 d6)
        obtain ⟨cc, hcc⟩ : ∃ cc, (M24.allT rs)[p]? = some cc := ⟨_, List.getElem?_eq_getElem hp2⟩
        walk_at "go"
        refine r_nocut ?_
        walk_at "go"
        refine r_ixS tsz (show atI (tl (mk (rs.map M24.text).flatten)) ((p : Nat) : Int) = some cc from atI_nat hcc) ?_
        walk_at "go"
        refine ite_d (fun hs1 => ?_) (fun hs1 => ?_)
        · walk_at "go"
          exact q _
        have hne : c' ≠ cc := fun e => hs1 (by rw [e])
        walk_at "go"
        rw [cutS_to (by omega)]
        generalize hT : tl (mk (rs.map M24.text).flatten) = T
        have hTe : M24.allT rs = T := hT
        rw [hTe] at hp hp2 hcc tot asc
        have k1 : (mk (T.take p)).length ≤ 2000 := by rw [mk_len, List.length_take]; omega
        have k2 : (mk (T.drop (p + 1))).length ≤ 2000 := by rw [mk_len, List.length_drop]; omega
        have k3 : (mk [c']).length = 1 := rfl
        walk_at "go"
        rw [show ((p : Int) + 1) = ((p + 1 : Nat) : Int) by omega, cutS_from (by rw [tlen, hTe]; omega), hT]
        refine r_addS ?_ ?_
        · rw [sizeLine_eq, slen]; omega
        have e3 : mk (T.take p) ++ mk [c'] ++ mk (T.drop (p + 1)) = mk (T.take p ++ c' :: T.drop (p + 1)) := ext_tl (by rw [tl_append, tl_append, List.append_assoc]; rfl)
        rw [e3]
        walk_at "go"
        refine ⟨_, rfl, by rw [mk_len, List.length_append, List.length_cons, List.length_take, List.length_drop]; omega, fun x hx => ?_, fun v H9 e9 hv => ?_⟩
        · rw [tl_mk] at hx
          rcases List.mem_append.mp hx with hx | hx
          · have := asc x (List.mem_of_mem_take hx); omega
          · rcases List.mem_cons.mp hx with rfl | hx
            · omega
            · have := asc x (List.mem_of_mem_drop hx); omega
        have sp := M24.read_spoilt rs gs qs p (by rw [hTe]; exact hp2) (c := cc) (c' := c') (by rw [hTe]; exact hcc) hne hc'
        rw [hTe] at sp
        rw [tl_mk, sp] at hv
        walk_at "go"
        refine ⟨D2, p, rs.map M24.text, rfl, SqL.of (e9 _ _ h28), fun x hx => by have := lens x hx; omega, ?_⟩
        walk_at "go"
        refine .inl ⟨D1, vs, rfl, SqL.of (e9 _ _ h18), fun y ny => ?_⟩
        rw [cutV_to vs _ hwl]
        have e8 := Ex.new (o := HO.lst (vs.take (M24.wholeN p (rs.map M24.text)))) ny
        refine fin _ v y _ (takeG _) (dp_mono e8 hv) (.lst (SqL.of upd_same) ?_)
        rw [List.map_take]
        exact dps_mono e8 (dps_take _ (dps_mono e9 d8))
end

set_option maxHeartbeats 8000000
/-! ### what the top has written -/
theorem all_mk {l : PySem.W.OpenLaw} {w : World} {K : PySem.W.Frag} {h : Heap} {mg : Str → Option Value} {fa f0 f1 f2 f3 f4 f5 f6 f7 f8 f9 f10 f11 f12 : Addr} (X : K.In h) (G : h.Ns mainGlobals mg) (hfa : mg "law" = some (.ref fa))
    {od0 an0 od1 an1 od2 an2 od3 an3 od4 an4 od5 an5 od6 an6 od7 an7 od8 an8 od9 an9 od10 an10 od11 an11 od12 an12 : Option Addr} {sl0 sl1 sl2 sl3 sl4 sl5 sl6 sl7 sl8 sl9 sl10 sl11 sl12 : Array (Option Value)} {oc0 kV0 dc0 pm0 cd0 ct0 oc1 kV1 dc1 pm1 cd1 ct1 oc2 kV2 dc2 pm2 cd2 ct2 oc3 kV3 dc3 pm3 cd3 ct3 oc4 kV4 dc4 pm4 cd4 ct4 oc5 kV5 dc5 pm5 cd5 ct5 oc6 kV6 dc6 pm6 cd6 ct6 oc7 kV7 dc7 pm7 cd7 ct7 oc8 kV8 dc8 pm8 cd8 ct8 oc9 kV9 dc9 pm9 cd9 ct9 oc10 kV10 dc10 pm10 cd10 ct10 oc11 kV11 dc11 pm11 cd11 ct11 oc12 kV12 dc12 pm12 cd12 ct12 : Value}
    (a0 : PySem.W.nsIn K mainGlobals "sum_of" = some (some (.ref f0))) (l0 : K.lookup f0 = some ⟨oc0, od0, .func (PySem.W.fnOf "sum_of" "sum_of" (defArgs s_sum_of) (defBody s_sum_of) (defScope s_sum_of) .none kV0 dc0 pm0 an0 cd0 ct0), sl0⟩) (c0 : PySem.W.codeIn K cd0 "sum_of" = true) (k0 : PySem.W.keepIn K (.ref f0) = true)
    (a1 : PySem.W.nsIn K mainGlobals "is_number" = some (some (.ref f1))) (l1 : K.lookup f1 = some ⟨oc1, od1, .func (PySem.W.fnOf "is_number" "is_number" (defArgs s_is_number) (defBody s_is_number) (defScope s_is_number) .none kV1 dc1 pm1 an1 cd1 ct1), sl1⟩) (c1 : PySem.W.codeIn K cd1 "is_number" = true) (k1 : PySem.W.keepIn K (.ref f1) = true)
    (a2 : PySem.W.nsIn K mainGlobals "record" = some (some (.ref f2))) (l2 : K.lookup f2 = some ⟨oc2, od2, .func (PySem.W.fnOf "record" "record" (defArgs s_record) (defBody s_record) (defScope s_record) .none kV2 dc2 pm2 an2 cd2 ct2), sl2⟩) (c2 : PySem.W.codeIn K cd2 "record" = true) (k2 : PySem.W.keepIn K (.ref f2) = true)
    (a3 : PySem.W.nsIn K mainGlobals "parsed" = some (some (.ref f3))) (l3 : K.lookup f3 = some ⟨oc3, od3, .func (PySem.W.fnOf "parsed" "parsed" (defArgs s_parsed) (defBody s_parsed) (defScope s_parsed) .none kV3 dc3 pm3 an3 cd3 ct3), sl3⟩) (c3 : PySem.W.codeIn K cd3 "parsed" = true) (k3 : PySem.W.keepIn K (.ref f3) = true)
    (a4 : PySem.W.nsIn K mainGlobals "read_records" = some (some (.ref f4))) (l4 : K.lookup f4 = some ⟨oc4, od4, .func (PySem.W.fnOf "read_records" "read_records" (defArgs s_read_records) (defBody s_read_records) (defScope s_read_records) .none kV4 dc4 pm4 an4 cd4 ct4), sl4⟩) (c4 : PySem.W.codeIn K cd4 "read_records" = true) (k4 : PySem.W.keepIn K (.ref f4) = true)
    (a5 : PySem.W.nsIn K mainGlobals "_law_state" = some (some (.ref f5))) (l5 : K.lookup f5 = some ⟨oc5, od5, .func (PySem.W.fnOf "_law_state" "_law_state" (defArgs s__law_state) (defBody s__law_state) (defScope s__law_state) .none kV5 dc5 pm5 an5 cd5 ct5), sl5⟩) (c5 : PySem.W.codeIn K cd5 "_law_state" = true) (k5 : PySem.W.keepIn K (.ref f5) = true)
    (a6 : PySem.W.nsIn K mainGlobals "_law_draw" = some (some (.ref f6))) (l6 : K.lookup f6 = some ⟨oc6, od6, .func (PySem.W.fnOf "_law_draw" "_law_draw" (defArgs s__law_draw) (defBody s__law_draw) (defScope s__law_draw) .none kV6 dc6 pm6 an6 cd6 ct6), sl6⟩) (c6 : PySem.W.codeIn K cd6 "_law_draw" = true) (k6 : PySem.W.keepIn K (.ref f6) = true)
    (a7 : PySem.W.nsIn K mainGlobals "_law_name" = some (some (.ref f7))) (l7 : K.lookup f7 = some ⟨oc7, od7, .func (PySem.W.fnOf "_law_name" "_law_name" (defArgs s__law_name) (defBody s__law_name) (defScope s__law_name) .none kV7 dc7 pm7 an7 cd7 ct7), sl7⟩) (c7 : PySem.W.codeIn K cd7 "_law_name" = true) (k7 : PySem.W.keepIn K (.ref f7) = true)
    (a8 : PySem.W.nsIn K mainGlobals "_law_sum" = some (some (.ref f8))) (l8 : K.lookup f8 = some ⟨oc8, od8, .func (PySem.W.fnOf "_law_sum" "_law_sum" (defArgs s__law_sum) (defBody s__law_sum) (defScope s__law_sum) .none kV8 dc8 pm8 an8 cd8 ct8), sl8⟩) (c8 : PySem.W.codeIn K cd8 "_law_sum" = true) (k8 : PySem.W.keepIn K (.ref f8) = true)
    (a9 : PySem.W.nsIn K mainGlobals "_law_record" = some (some (.ref f9))) (l9 : K.lookup f9 = some ⟨oc9, od9, .func (PySem.W.fnOf "_law_record" "_law_record" (defArgs s__law_record) (defBody s__law_record) (defScope s__law_record) .none kV9 dc9 pm9 an9 cd9 ct9), sl9⟩) (c9 : PySem.W.codeIn K cd9 "_law_record" = true) (k9 : PySem.W.keepIn K (.ref f9) = true)
    (a10 : PySem.W.nsIn K mainGlobals "_law_text" = some (some (.ref f10))) (l10 : K.lookup f10 = some ⟨oc10, od10, .func (PySem.W.fnOf "_law_text" "_law_text" (defArgs s__law_text) (defBody s__law_text) (defScope s__law_text) .none kV10 dc10 pm10 an10 cd10 ct10), sl10⟩) (c10 : PySem.W.codeIn K cd10 "_law_text" = true) (k10 : PySem.W.keepIn K (.ref f10) = true)
    (a11 : PySem.W.nsIn K mainGlobals "_law_whole" = some (some (.ref f11))) (l11 : K.lookup f11 = some ⟨oc11, od11, .func (PySem.W.fnOf "_law_whole" "_law_whole" (defArgs s__law_whole) (defBody s__law_whole) (defScope s__law_whole) .none kV11 dc11 pm11 an11 cd11 ct11), sl11⟩) (c11 : PySem.W.codeIn K cd11 "_law_whole" = true) (k11 : PySem.W.keepIn K (.ref f11) = true)
    (a12 : PySem.W.nsIn K mainGlobals "law" = some (some (.ref f12))) (l12 : K.lookup f12 = some ⟨oc12, od12, .func (PySem.W.fnOf "law" "law" (defArgs s_law) (defBody s_law) (defScope s_law) .none kV12 dc12 pm12 an12 cd12 ct12), sl12⟩) (c12 : PySem.W.codeIn K cd12 "law" = true) (k12 : PySem.W.keepIn K (.ref f12) = true)
    (z_len : PySem.W.nsIn K mainGlobals "len" = some none)
    (z_ord : PySem.W.nsIn K mainGlobals "ord" = some none)
    (z_str : PySem.W.nsIn K mainGlobals "str" = some none)
    (z_int : PySem.W.nsIn K mainGlobals "int" = some none)
    (z_list : PySem.W.nsIn K mainGlobals "list" = some none)
    (z_range : PySem.W.nsIn K mainGlobals "range" = some none)
    {t_START : Tok} (q_START : PySem.W.nsIn K mainGlobals "START" = some (some (.int 7 t_START)))
    {t_FACTOR : Tok} (q_FACTOR : PySem.W.nsIn K mainGlobals "FACTOR" = some (some (.int 31 t_FACTOR)))
    {t_MODULUS : Tok} (q_MODULUS : PySem.W.nsIn K mainGlobals "MODULUS" = some (some (.int 9973 t_MODULUS)))
    {t_MOST_DIGITS : Tok} (q_MOST_DIGITS : PySem.W.nsIn K mainGlobals "MOST_DIGITS" = some (some (.int 9 t_MOST_DIGITS)))
    {t_DIGITS : Tok} (q_DIGITS : PySem.W.nsIn K mainGlobals "DIGITS" = some (some (.str "0123456789" t_DIGITS)))
    {p_KINDS : Addr} {oc_KINDS : Value} {od_KINDS : Option Addr} {its_KINDS : Array Value} {n_KINDS : Nat} {sl_KINDS : Array (Option Value)} (q_KINDS : PySem.W.nsIn K mainGlobals "KINDS" = some (some (.ref p_KINDS))) (r_KINDS : K.lookup p_KINDS = some ⟨oc_KINDS, od_KINDS, .seq its_KINDS n_KINDS, sl_KINDS⟩) (s_KINDS : oc_KINDS = .type "tuple" ∧ its_KINDS.size ≤ 1000 ∧ Vals (kindsS.map V.str) its_KINDS.toList)
    : ∃ fd : FuncData, (∀ (s : Shared) (v : Value), BindsTo s fd ⟨[v], []⟩ [("_law_script", v)]) ∧ ∀ base : Heap, K.In base → base.Ns mainGlobals mg → FnOk l.prog w K mg base CX0 4 fa fd ["_law_script"] (sp_law K) := by
  have e := hfa.symm.trans (PySem.W.mg_of X G a12)
  cases e
  have B : Blt mg := ⟨PySem.W.mg_none_of X G z_len, PySem.W.mg_none_of X G z_ord, PySem.W.mg_none_of X G z_str, PySem.W.mg_none_of X G z_int, PySem.W.mg_none_of X G z_list, PySem.W.mg_none_of X G z_range⟩
  have F0 := fun_mk (st := s_sum_of) l0 c0 k0
  have D_sum_of : Def K mg "sum_of" s_sum_of ["text"] _ _ := ⟨F0, PySem.W.mg_of X G a0, F0.binds (ps := ["text"]) fun _ _ _ _ _ _ us hl => match us, hl with | [_], _ => rfl⟩
  have F1 := fun_mk (st := s_is_number) l1 c1 k1
  have D_is_number : Def K mg "is_number" s_is_number ["text"] _ _ := ⟨F1, PySem.W.mg_of X G a1, F1.binds (ps := ["text"]) fun _ _ _ _ _ _ us hl => match us, hl with | [_], _ => rfl⟩
  have F2 := fun_mk (st := s_record) l2 c2 k2
  have D_record : Def K mg "record" s_record ["kind", "other", "label", "number"] _ _ := ⟨F2, PySem.W.mg_of X G a2, F2.binds (ps := ["kind", "other", "label", "number"]) fun _ _ _ _ _ _ us hl => match us, hl with | [_, _, _, _], _ => rfl⟩
  have F3 := fun_mk (st := s_parsed) l3 c3 k3
  have D_parsed : Def K mg "parsed" s_parsed ["line"] _ _ := ⟨F3, PySem.W.mg_of X G a3, F3.binds (ps := ["line"]) fun _ _ _ _ _ _ us hl => match us, hl with | [_], _ => rfl⟩
  have F4 := fun_mk (st := s_read_records) l4 c4 k4
  have D_read_records : Def K mg "read_records" s_read_records ["text"] _ _ := ⟨F4, PySem.W.mg_of X G a4, F4.binds (ps := ["text"]) fun _ _ _ _ _ _ us hl => match us, hl with | [_], _ => rfl⟩
  have F5 := fun_mk (st := s__law_state) l5 c5 k5
  have D__law_state : Def K mg "_law_state" s__law_state ["_law_script"] _ _ := ⟨F5, PySem.W.mg_of X G a5, F5.binds (ps := ["_law_script"]) fun _ _ _ _ _ _ us hl => match us, hl with | [_], _ => rfl⟩
  have F6 := fun_mk (st := s__law_draw) l6 c6 k6
  have D__law_draw : Def K mg "_law_draw" s__law_draw ["_law_state_here", "_law_limit"] _ _ := ⟨F6, PySem.W.mg_of X G a6, F6.binds (ps := ["_law_state_here", "_law_limit"]) fun _ _ _ _ _ _ us hl => match us, hl with | [_, _], _ => rfl⟩
  have F7 := fun_mk (st := s__law_name) l7 c7 k7
  have D__law_name : Def K mg "_law_name" s__law_name ["_law_state_here"] _ _ := ⟨F7, PySem.W.mg_of X G a7, F7.binds (ps := ["_law_state_here"]) fun _ _ _ _ _ _ us hl => match us, hl with | [_], _ => rfl⟩
  have F8 := fun_mk (st := s__law_sum) l8 c8 k8
  have D__law_sum : Def K mg "_law_sum" s__law_sum ["_law_text_here"] _ _ := ⟨F8, PySem.W.mg_of X G a8, F8.binds (ps := ["_law_text_here"]) fun _ _ _ _ _ _ us hl => match us, hl with | [_], _ => rfl⟩
  have F9 := fun_mk (st := s__law_record) l9 c9 k9
  have D__law_record : Def K mg "_law_record" s__law_record ["_law_state_here"] _ _ := ⟨F9, PySem.W.mg_of X G a9, F9.binds (ps := ["_law_state_here"]) fun _ _ _ _ _ _ us hl => match us, hl with | [_], _ => rfl⟩
  have F10 := fun_mk (st := s__law_text) l10 c10 k10
  have D__law_text : Def K mg "_law_text" s__law_text ["_law_entry"] _ _ := ⟨F10, PySem.W.mg_of X G a10, F10.binds (ps := ["_law_entry"]) fun _ _ _ _ _ _ us hl => match us, hl with | [_], _ => rfl⟩
  have F11 := fun_mk (st := s__law_whole) l11 c11 k11
  have D__law_whole : Def K mg "_law_whole" s__law_whole ["_law_texts", "_law_length"] _ _ := ⟨F11, PySem.W.mg_of X G a11, F11.binds (ps := ["_law_texts", "_law_length"]) fun _ _ _ _ _ _ us hl => match us, hl with | [_, _], _ => rfl⟩
  have F12 := fun_mk (st := s_law) l12 c12 k12
  have D_law : Def K mg "law" s_law ["_law_script"] _ _ := ⟨F12, PySem.W.mg_of X G a12, F12.binds (ps := ["_law_script"]) fun _ _ _ _ _ _ us hl => match us, hl with | [_], _ => rfl⟩
  have C_START : Cst mg "START" (.int 7) := ⟨_, PySem.W.mg_of X G q_START, ⟨_, rfl⟩⟩
  have C_FACTOR : Cst mg "FACTOR" (.int 31) := ⟨_, PySem.W.mg_of X G q_FACTOR, ⟨_, rfl⟩⟩
  have C_MODULUS : Cst mg "MODULUS" (.int 9973) := ⟨_, PySem.W.mg_of X G q_MODULUS, ⟨_, rfl⟩⟩
  have C_MOST_DIGITS : Cst mg "MOST_DIGITS" (.int 9) := ⟨_, PySem.W.mg_of X G q_MOST_DIGITS, ⟨_, rfl⟩⟩
  have C_DIGITS : Cst mg "DIGITS" (.str "0123456789") := ⟨_, PySem.W.mg_of X G q_DIGITS, ⟨_, rfl⟩⟩
  have C_KINDS : Cst mg "KINDS" (.ref p_KINDS) := ⟨_, PySem.W.mg_of X G q_KINDS, rfl⟩
  have T_KINDS : ∀ H, SqT K H p_KINDS (kindsS.map V.str) := fun H => .inr ⟨_, its_KINDS, n_KINDS, r_KINDS, s_KINDS.1, rfl, Nat.le_of_lt (small1000 s_KINDS.2.1), s_KINDS.2.2⟩
  refine ⟨PySem.W.fnOf "law" "law" (defArgs s_law) (defBody s_law) (defScope s_law) .none kV12 dc12 pm12 an12 cd12 ct12, fun s v => .of_eq rfl, fun base _ _ => ?_⟩
  have G_sum_of := ok_sum_of (P := l.prog) (w := w) (base := base) (n := 0) D_sum_of B C_START C_FACTOR C_MODULUS
  have G_is_number := ok_is_number (P := l.prog) (w := w) (base := base) (n := 0) D_is_number B C_MOST_DIGITS C_DIGITS
  have G_record := ok_record (P := l.prog) (w := w) (base := base) (n := 1) D_record B D_sum_of (G_sum_of.mono (by decide))
  have G_parsed := ok_parsed (P := l.prog) (w := w) (base := base) (n := 1) D_parsed B C_KINDS T_KINDS D_sum_of (G_sum_of.mono (by decide)) D_is_number (G_is_number.mono (by decide))
  have G_read_records := ok_read_records (P := l.prog) (w := w) (base := base) (n := 2) D_read_records B D_parsed (G_parsed.mono (by decide))
  have G__law_state := ok__law_state (P := l.prog) (w := w) (base := base) (n := 0) D__law_state B
  have G__law_draw := ok__law_draw (P := l.prog) (w := w) (base := base) (n := 0) D__law_draw B
  have G__law_name := ok__law_name (P := l.prog) (w := w) (base := base) (n := 1) D__law_name B D__law_draw (G__law_draw.mono (by decide))
  have G__law_sum := ok__law_sum (P := l.prog) (w := w) (base := base) (n := 0) D__law_sum B
  have G__law_record := ok__law_record (P := l.prog) (w := w) (base := base) (n := 2) D__law_record B D__law_draw (G__law_draw.mono (by decide)) D__law_name (G__law_name.mono (by decide))
  have G__law_text := ok__law_text (P := l.prog) (w := w) (base := base) (n := 1) D__law_text B D__law_sum (G__law_sum.mono (by decide))
  have G__law_whole := ok__law_whole (P := l.prog) (w := w) (base := base) (n := 0) D__law_whole B
  exact ok_law (P := l.prog) (w := w) (base := base) (n := 3) D_law B D__law_state (G__law_state.mono (by decide)) D__law_draw (G__law_draw.mono (by decide)) D__law_record (G__law_record.mono (by decide)) D__law_text (G__law_text.mono (by decide)) D_record (G_record.mono (by decide)) D_read_records (G_read_records.mono (by decide)) D__law_whole (G__law_whole.mono (by decide))
theorem walk {l : PySem.W.OpenLaw} {q : Program} {loose : List Str} {XP : (Str → Option Value) → Heap → Prop} {YP : World → Heap → Prop} {d : DefRec} {K : Params → PySem.W.Frag} (hn : l.most = some 63) (hdf : d.params.defaults = [])
    (hY : ∀ (w : World) (h : Heap), YP w h → (K w.params).In h)
    (F : ∀ (w : World) (mg : Str → Option Value) (fa : Addr) (h : Heap), (K w.params).In h → h.Ns mainGlobals mg → mg d.name = some (.ref fa) →
      ∃ fd : FuncData, (∀ (s : Shared) (u : Value), BindsTo s fd ⟨[u], []⟩ [("_law_script", u)]) ∧ ∀ base : Heap, (K w.params).In base → base.Ns mainGlobals mg → FnOk l.prog w (K w.params) mg base CX0 4 fa fd ["_law_script"] (sp_law (K w.params))) :
    PySem.W.WalkO q loose XP YP l.row.toRowW d [] (fun f vs => PySem.call f vs) :=
  L2.walk_of (n := 63) (k := 4) (x := "_law_script") (CX := fun _ => CX0) (sp := fun w => sp_law (K w.params)) hn (by decide) hdf ⟨rfl, by decide, by decide⟩ hY F (fun _ _ a ns hl _ hS => ⟨a, ns, rfl, hS, hl, fun _ => rfl⟩) fun _ _ _ _ _ z => z
end K24
open PySem PySem.W PyProof.Rows
set_option maxRecDepth 100000 in
set_option maxHeartbeats 0 in
theorem PySem.Challenge.cw_pactloom_k24_records_of_journals_holds : PySem.Challenge.rw_pactloom_k24_records_of_journals.Holds := by
  w_on; o_law; k_head; (case hw => w_witness2)
  k_fill
  refine K24.walk (l := PySem.Challenge.rw_pactloom_k24_records_of_journals) rfl rfl (fun w h Y => PySem.W.kIn_of Y) ?F
  case F =>
    intro w mg fa h KX G hmg
    refine' K24.all_mk KX G hmg ?a0 ?l0 ?c0 ?k0 ?a1 ?l1 ?c1 ?k1 ?a2 ?l2 ?c2 ?k2 ?a3 ?l3 ?c3 ?k3 ?a4 ?l4 ?c4 ?k4 ?a5 ?l5 ?c5 ?k5 ?a6 ?l6 ?c6 ?k6 ?a7 ?l7 ?c7 ?k7 ?a8 ?l8 ?c8 ?k8 ?a9 ?l9 ?c9 ?k9 ?a10 ?l10 ?c10 ?k10 ?a11 ?l11 ?c11 ?k11 ?a12 ?l12 ?c12 ?k12 ?z_len ?z_ord ?z_str ?z_int ?z_list ?z_range ?q_START ?q_FACTOR ?q_MODULUS ?q_MOST_DIGITS ?q_DIGITS ?q_KINDS ?r_KINDS ?s_KINDS
    (case a0 => k_is)
    (case l0 => k_is)
    (case c0 => k_is)
    (case k0 => k_is)
    (case a1 => k_is)
    (case l1 => k_is)
    (case c1 => k_is)
    (case k1 => k_is)
    (case a2 => k_is)
    (case l2 => k_is)
    (case c2 => k_is)
    (case k2 => k_is)
    (case a3 => k_is)
    (case l3 => k_is)
    (case c3 => k_is)
    (case k3 => k_is)
    (case a4 => k_is)
    (case l4 => k_is)
    (case c4 => k_is)
    (case k4 => k_is)
    (case a5 => k_is)
    (case l5 => k_is)
    (case c5 => k_is)
    (case k5 => k_is)
    (case a6 => k_is)
    (case l6 => k_is)
    (case c6 => k_is)
    (case k6 => k_is)
    (case a7 => k_is)
    (case l7 => k_is)
    (case c7 => k_is)
    (case k7 => k_is)
    (case a8 => k_is)
    (case l8 => k_is)
    (case c8 => k_is)
    (case k8 => k_is)
    (case a9 => k_is)
    (case l9 => k_is)
    (case c9 => k_is)
    (case k9 => k_is)
    (case a10 => k_is)
    (case l10 => k_is)
    (case c10 => k_is)
    (case k10 => k_is)
    (case a11 => k_is)
    (case l11 => k_is)
    (case c11 => k_is)
    (case k11 => k_is)
    (case a12 => k_is)
    (case l12 => k_is)
    (case c12 => k_is)
    (case k12 => k_is)
    (case z_len => k_is)
    (case z_ord => k_is)
    (case z_str => k_is)
    (case z_int => k_is)
    (case z_list => k_is)
    (case z_range => k_is)
    (case q_START => k_is)
    (case q_FACTOR => k_is)
    (case q_MODULUS => k_is)
    (case q_MOST_DIGITS => k_is)
    (case q_DIGITS => k_is)
    (case q_KINDS => k_is)
    (case r_KINDS => k_is)
    (case s_KINDS => exact ⟨rfl, by decide, by repeat (first | exact .nil | refine .cons ⟨_, rfl⟩ ?_ | refine .cons rfl ?_)⟩)

