import PyProof.Rows.All
import Wide.All
import OpenK.AllK
import Wide.FinOn
import KE.KExcIs
import HandS.ForMost
import HandS.ForExc
import HandS.IsInst
import HandS.ExcInit
import HandS.TupAny
import HandS.TupLe
import HandS.Walk
import HandS.Evl
import PySem.Challenge.RW_listasks_k01_kinds_and_values_let_by_or
set_option Elab.async false
set_option linter.all false
set_option maxRecDepth 100000
set_option maxHeartbeats 4000000
/-! The common ground: operators by any of their kinds, heaps that keep what stood, data as trees. -/
namespace LK
open PySem PySem.Spec PyProof.Rows L2

/-! ### operators whose kind the values tell -/
section
variable {X : Cx} {K : PySem.W.Frag} {k : Nat}
def rAddS : R2 := fun x y H Q => ∃ i j, x = .str i ∧ y = .str j ∧ i.length + j.length ≤ sizeLine ∧ Q (.str (i ++ j)) H
def rAddA (K : PySem.W.Frag) : R2 := fun x y H Q => (rI0 fun i j => .int (i + j)) x y H Q ∨ (rAddS x y H Q ∨ (rCat x y H Q ∨ rCatA K x y H Q))
theorem opAdd (hK : X.K = K := by rfl) : OpR X (binaryOp .Add) (rAddA K) := by
  subst hK
  exact OpR.or op_add (OpR.or op_add_str (OpR.or op_cat op_catA))
def rEqA (K : PySem.W.Frag) : R2 := fun x y H Q => rEq x y H Q ∨ rEqD K x y H Q
theorem opEq (hr : Room k X.A) (hK : X.K = K := by rfl) : OpR X (compareOp .Eq) (rEqA K) := by
  subst hK
  exact OpR.or op_eq (op_eqD hr.units)
def rNeA (K : PySem.W.Frag) : R2 := fun x y H Q => rNe x y H Q ∨ rNeD K x y H Q
theorem opNe (hr : Room k X.A) (hK : X.K = K := by rfl) : OpR X (compareOp .NotEq) (rNeA K) := by
  subst hK
  exact OpR.or op_ne (op_neD hr.units)
def rInC : R2 := fun x y H Q => ∃ (c : Nat) (z : Str), x = .str ⟨#[c]⟩ ∧ y = .str z ∧ Q (.bl (decide (c ∈ z.cps.toList))) H
def rNiC : R2 := fun x y H Q => ∃ (c : Nat) (z : Str), x = .str ⟨#[c]⟩ ∧ y = .str z ∧ Q (.bl (!decide (c ∈ z.cps.toList))) H
def rInA (K : PySem.W.Frag) : R2 := fun x y H Q => rInC x y H Q ∨ rIn K false x y H Q
theorem opIn (hK : X.K = K := by rfl) : OpR X (compareOp .In) (rInA K) := by
  subst hK
  exact OpR.or op_in_sign op_in_seq
def rNiA (K : PySem.W.Frag) : R2 := fun x y H Q => rNiC x y H Q ∨ rIn K true x y H Q
theorem opNotIn (hK : X.K = K := by rfl) : OpR X (compareOp .NotIn) (rNiA K) := by
  subst hK
  exact OpR.or op_notIn_sign op_notIn_seq
/-- two texts, by their code points -/
def rTT (g : List Nat → List Nat → Bool) : R2 := fun x y H Q => ∃ i j, x = .str i ∧ y = .str j ∧ Q (.bl (g i.cps.toList j.cps.toList)) H
def rLtA : R2 := fun x y H Q => (rI0 fun i j => .bl (decide (i < j))) x y H Q ∨ rTT (fun a b => decide (a < b)) x y H Q
theorem opLt : OpR X (compareOp .Lt) rLtA := OpR.or op_lt op_lt_str
def rLeA : R2 := fun x y H Q => (rI0 fun i j => .bl (decide (i ≤ j))) x y H Q ∨ rTT (fun a b => !decide (b < a)) x y H Q
theorem opLe : OpR X (compareOp .LtE) rLeA := OpR.or op_le op_le_str
def rGtA : R2 := fun x y H Q => (rI0 fun i j => .bl (decide (j < i))) x y H Q ∨ rTT (fun a b => decide (b < a)) x y H Q
theorem opGt : OpR X (compareOp .Gt) rGtA := OpR.or op_gt op_gt_str
def rGeA : R2 := fun x y H Q => (rI0 fun i j => .bl (decide (j ≤ i))) x y H Q ∨ rTT (fun a b => !decide (a < b)) x y H Q
theorem opGe : OpR X (compareOp .GtE) rGeA := OpR.or op_ge op_ge_str
theorem slAny (hK : X.K = K := by rfl) : SlR X (fun x lo hi H Q => rSlL K x lo hi H Q ∨ (rSlS x lo hi H Q ∨ rSlT K x lo hi H Q)) := by
  subst hK
  exact SlR.or sl_list (SlR.or sl_str sl_tup)
theorem ixAny (hK : X.K = K := by rfl) : IxR X (rIx K) := by
  subst hK
  exact ix_seq
def rLen (K : PySem.W.Frag) : List V → Hp → VK → Prop := fun xs H Q => ∃ x n, xs = [x] ∧ LenV K x H n ∧ Q (.int (n : Nat)) H
theorem lenAny (hK : X.K = K := by rfl) : CallR X (.builtin "len") (rLen K) := by
  subst hK
  exact call_len
theorem isiOne (hK : X.K = K := by rfl) : CallR X (.builtin "isinstance") (rIsi K) := by
  subst hK
  exact call_isi
theorem isiTup (hK : X.K = K := by rfl) : CallR X (.builtin "isinstance") (rIsiT K) := by
  subst hK
  exact call_isiT
theorem allOf (hc : X.calm = true) (hK : X.K = K := by rfl) : CallR X (.builtin "all") (rAll K) := by
  subst hK
  exact cr_all hc
theorem anyOf (hc : X.calm = true) (hK : X.K = K := by rfl) : CallR X (.builtin "any") (rAny K) := by
  subst hK
  exact cr_any hc
def rTupOf (K : PySem.W.Frag) : List V → Hp → VK → Prop := fun xs H Q => ∃ p ys, xs = [V.ref p] ∧ ((SqL K H p ys ∧ ∀ l, H l = none → Q (.ref l) (upd H l (.tup ys))) ∨ (SqT K H p ys ∧ Q (.ref p) H))
theorem tupOf (hK : X.K = K := by rfl) : CallR X (.type "tuple") (rTupOf K) := by
  subst hK
  exact call_tuple_of
def rInt : List V → Hp → VK → Prop := fun xs H Q => (∃ i, xs = [V.int i] ∧ Q (.int i) H) ∨ ∃ k, xs = [V.bl k] ∧ Q (.int (if k then 1 else 0)) H
theorem intOf : CallR X (.type "int") rInt := call_int1
def rOrd : List V → Hp → VK → Prop := fun xs H Q => ∃ x, xs = [V.str x] ∧ x.length = 1 ∧ Q (.int (x.cps.getD 0 0 : Nat)) H
theorem ordOf : CallR X (.builtin "ord") rOrd := call_ord
def rJoin (K : PySem.W.Frag) : V → List V → Hp → VK → Prop := fun x xs H Q => ∃ a p, ∃ ys : List Str, x = .str a ∧ xs = [.ref p] ∧ (SqL K H p (ys.map V.str) ∨ SqT K H p (ys.map V.str)) ∧
  (ys.map (·.length)).sum + ys.length * a.length ≤ 16777216 ∧ Q (.str (Txt.join a ys)) H
theorem peJoin {o e : Expr} {to te : TE} {apos pos : Pos} (ho : PE X o to) (he : PE X e te) (hK : X.K = K := by rfl) (hs : starEach [e] X.env = [(false, eval e X.env)] := by rfl)
    (hb : attributeBase o "join" X.env (eval o X.env) = eval o X.env := by rfl) (hline : (apos.endLine == pos.line) = true := by rfl) : PE X (.Call (.Attribute o "join" apos) [e] [] pos) (tM1 (rJoin K) to te) := by
  subst hK
  exact pe_join ho he hs hb hline
/-- a value's truth as a test -/
def tTr (K : PySem.W.Frag) (ta : TE) : TT := fun σ H Q => ta σ H fun x H' => ∃ k, TruV K x H' k ∧ Q k H'
theorem ptTr {a : Expr} {ta : TE} (ha : PE X a ta) (hK : X.K = K := by rfl) (he : ∀ whole, isTrue a X.env whole = (do let v ← whole; standAt a.pos; holding [v] (truthy v)) := by intro _; rfl) : PT X a (tTr K ta) := by
  subst hK
  exact pt_truth ha he
end

/-! ### heaps that keep what stood; M: the addresses that may change -/
def Keep (M : Addr → Prop) (H H' : Hp) : Prop := ∀ a o, ¬ M a → H a = some o → H' a = some o
theorem Keep.refl (M : Addr → Prop) (H : Hp) : Keep M H H := fun _ _ _ h => h
theorem Keep.trans {M : Addr → Prop} {H H1 H2 : Hp} (a : Keep M H H1) (b : Keep M H1 H2) : Keep M H H2 := fun x o n h => b x o n (a x o n h)
theorem Keep.of {M : Addr → Prop} {H H1 : Hp} (a : Same H H1) : Keep M H H1 := fun x o _ h => a x o h
theorem Keep.mono {M M' : Addr → Prop} {H H1 : Hp} (a : Keep M H H1) (h : ∀ x, M x → M' x) : Keep M' H H1 := fun x o n e => a x o (fun z => n (h x z)) e
theorem Keep.new {M : Addr → Prop} {H H1 : Hp} {p : Addr} {o : HO} (a : Keep M H H1) (h : H1 p = none) : Keep M H (upd H1 p o) := fun x u n e => by
  have e1 := a x u n e
  rw [upd_ne (ne_of_none e1 h)]
  exact e1
/-- an object that may change is changed -/
theorem Keep.put {M : Addr → Prop} {H H1 : Hp} {p : Addr} {o : HO} (a : Keep M H H1) (h : M p) : Keep M H (upd H1 p o) := fun x u n e => by
  have e1 := a x u n e
  rw [upd_ne (fun z => n (by rw [z]; exact h))]
  exact e1
/-- an object that was not there is changed -/
theorem Keep.own {M : Addr → Prop} {H H1 : Hp} {p : Addr} {o : HO} (a : Keep M H H1) (h : H p = none) : Keep M H (upd H1 p o) := fun x u n e => by
  have e1 := a x u n e
  rw [upd_ne (ne_of_none e h)]
  exact e1
theorem sm_new {H H1 : Hp} {p : Addr} {o : HO} (a : Same H H1) (h : H1 p = none) : Same H (upd H1 p o) := fun x u e => by
  have e1 := a x u e
  rw [upd_ne (ne_of_none e1 h)]
  exact e1
theorem sm_own {H H1 : Hp} {p : Addr} {o : HO} (a : Same H H1) (h : H p = none) : Same H (upd H1 p o) := fun x u e => by
  have e1 := a x u e
  rw [upd_ne (ne_of_none e h)]
  exact e1
theorem fr_back {H H1 : Hp} {p : Addr} (a : Same H H1) (h : H1 p = none) : H p = none := Same.free a h
def Trk (M : Addr → Prop) (H : Hp) : Prop := ∀ a, M a → ∃ o, H a = some o
theorem Trk.fresh {M : Addr → Prop} {H : Hp} {p : Addr} (t : Trk M H) (h : H p = none) : ¬ M p := fun m => by
  obtain ⟨o, e⟩ := t p m
  rw [h] at e
  cases e
theorem Trk.same {M : Addr → Prop} {H H1 : Hp} (t : Trk M H) (a : Same H H1) : Trk M H1 := fun x m => let ⟨o, e⟩ := t x m; ⟨o, a x o e⟩

/-! ### data as trees -/
mutual
inductive At (M : Addr → Prop) (H : Hp) : V → PyData → Prop
  | non : At M H .non .none
  | bl (b : Bool) : At M H (.bl b) (.bool b)
  | int (i : Int) : At M H (.int i) (.int i)
  | str (x : Str) (h : x.length ≤ 100000) : At M H (.str x) (.str x)
  | lst {a : Addr} {xs : List V} {ds : List PyData} (n : ¬ M a) (h : H a = some (.lst xs)) (r : Ats M H xs ds) : At M H (.ref a) (.list ds)
  | tup {a : Addr} {xs : List V} {ds : List PyData} (n : ¬ M a) (h : H a = some (.tup xs)) (r : Ats M H xs ds) : At M H (.ref a) (.tuple ds)
inductive Ats (M : Addr → Prop) (H : Hp) : List V → List PyData → Prop
  | nil : Ats M H [] []
  | cons {x : V} {xs : List V} {d : PyData} {ds : List PyData} (h : At M H x d) (r : Ats M H xs ds) : Ats M H (x :: xs) (d :: ds)
end
mutual
theorem At.keep {M : Addr → Prop} {H H' : Hp} (k : Keep M H H') : ∀ {v : V} {d : PyData}, At M H v d → At M H' v d
  | _, _, .non => .non
  | _, _, .bl b => .bl b
  | _, _, .int i => .int i
  | _, _, .str x h => .str x h
  | _, _, .lst n h r => .lst n (k _ _ n h) (Ats.keep k r)
  | _, _, .tup n h r => .tup n (k _ _ n h) (Ats.keep k r)
theorem Ats.keep {M : Addr → Prop} {H H' : Hp} (k : Keep M H H') : ∀ {vs : List V} {ds : List PyData}, Ats M H vs ds → Ats M H' vs ds
  | _, _, .nil => .nil
  | _, _, .cons h r => .cons (At.keep k h) (Ats.keep k r)
end
mutual
theorem At.weak {M M' : Addr → Prop} {H : Hp} (k : ∀ a, M' a → M a) : ∀ {v : V} {d : PyData}, At M H v d → At M' H v d
  | _, _, .non => .non
  | _, _, .bl b => .bl b
  | _, _, .int i => .int i
  | _, _, .str x h => .str x h
  | _, _, .lst n h r => .lst (fun z => n (k _ z)) h (Ats.weak k r)
  | _, _, .tup n h r => .tup (fun z => n (k _ z)) h (Ats.weak k r)
theorem Ats.weak {M M' : Addr → Prop} {H : Hp} (k : ∀ a, M' a → M a) : ∀ {vs : List V} {ds : List PyData}, Ats M H vs ds → Ats M' H vs ds
  | _, _, .nil => .nil
  | _, _, .cons h r => .cons (At.weak k h) (Ats.weak k r)
end
abbrev M0 : Addr → Prop := fun _ => False
theorem At.zero {M : Addr → Prop} {H : Hp} {v : V} {d : PyData} (h : At M H v d) : At M0 H v d := h.weak fun _ z => z.elim
theorem At.same {M : Addr → Prop} {H H' : Hp} (k : Same H H') {v : V} {d : PyData} (h : At M H v d) : At M H' v d := h.keep (.of k)
theorem Ats.same {M : Addr → Prop} {H H' : Hp} (k : Same H H') {v : List V} {d : List PyData} (h : Ats M H v d) : Ats M H' v d := h.keep (.of k)
theorem Ats.len {M : Addr → Prop} {H : Hp} : ∀ {vs : List V} {ds : List PyData}, Ats M H vs ds → vs.length = ds.length
  | _, _, .nil => rfl
  | _, _, .cons _ r => congrArg (· + 1) (Ats.len r)
theorem Ats.get {M : Addr → Prop} {H : Hp} : ∀ {vs : List V} {ds : List PyData} {i : Nat} {x : V}, Ats M H vs ds → vs[i]? = some x → ∃ d, ds[i]? = some d ∧ At M H x d
  | _, _, i, _, .nil, e => by simp at e
  | _, _, 0, _, .cons h _, e => by
    simp at e
    subst e
    exact ⟨_, rfl, h⟩
  | _, _, i + 1, _, .cons _ r, e => by
    obtain ⟨d, h1, h2⟩ := Ats.get (i := i) r (by simpa using e)
    exact ⟨d, by simpa using h1, h2⟩
theorem Ats.get' {M : Addr → Prop} {H : Hp} : ∀ {vs : List V} {ds : List PyData} {i : Nat} {d : PyData}, Ats M H vs ds → ds[i]? = some d → ∃ x, vs[i]? = some x ∧ At M H x d
  | _, _, i, _, .nil, e => by simp at e
  | _, _, 0, _, .cons h _, e => by
    simp at e
    subst e
    exact ⟨_, rfl, h⟩
  | _, _, i + 1, _, .cons _ r, e => by
    obtain ⟨d, h1, h2⟩ := Ats.get' (i := i) r (by simpa using e)
    exact ⟨d, by simpa using h1, h2⟩
theorem Ats.append {M : Addr → Prop} {H : Hp} : ∀ {vs ws : List V} {ds es : List PyData}, Ats M H vs ds → Ats M H ws es → Ats M H (vs ++ ws) (ds ++ es)
  | _, _, _, _, .nil, s => s
  | _, _, _, _, .cons h r, s => .cons h (Ats.append r s)
theorem Ats.one {M : Addr → Prop} {H : Hp} {v : V} {d : PyData} (h : At M H v d) : Ats M H [v] [d] := .cons h .nil
/-- the type of a datum, as isinstance sees it -/
def tyD : PyData → String
  | .none => "NoneType"
  | .bool _ => "bool"
  | .int _ => "int"
  | .str _ => "str"
  | .list _ => "list"
  | .tuple _ => "tuple"
  | .dict _ => "dict"
theorem At.ty {M : Addr → Prop} {K : PySem.W.Frag} {H : Hp} {v : V} {d : PyData} (h : At M H v d) : TyX K H v (.type (tyD d)) := by
  cases h with
  | non => exact .base .non
  | bl b => exact .base (.bl b)
  | int i => exact .base (.int i)
  | str x h => exact .base (.str x)
  | lst n h r => exact .base (.lst h)
  | tup n h r => exact .base (.tup h)
/-! ### what isinstance says of a datum -/
def isLst : PyData → Bool
  | .list _ => true
  | _ => false
def isTup : PyData → Bool
  | .tuple _ => true
  | _ => false
def isStr : PyData → Bool
  | .str _ => true
  | _ => false
def isBool : PyData → Bool
  | .bool _ => true
  | _ => false
def isInt : PyData → Bool
  | .bool _ => true
  | .int _ => true
  | _ => false
def isSeq : PyData → Bool
  | .list _ => true
  | .tuple _ => true
  | _ => false
theorem kit_lst (d : PyData) : kitB (tyD d) "list" = some (isLst d) := by cases d <;> (simp only [tyD, isLst]; decide +kernel)
theorem kit_tup (d : PyData) : kitB (tyD d) "tuple" = some (isTup d) := by cases d <;> (simp only [tyD, isTup]; decide +kernel)
theorem kit_str (d : PyData) : kitB (tyD d) "str" = some (isStr d) := by cases d <;> (simp only [tyD, isStr]; decide +kernel)
theorem kit_bool (d : PyData) : kitB (tyD d) "bool" = some (isBool d) := by cases d <;> (simp only [tyD, isBool]; decide +kernel)
theorem kit_int (d : PyData) : kitB (tyD d) "int" = some (isInt d) := by cases d <;> (simp only [tyD, isInt]; decide +kernel)
theorem seq_or (d : PyData) : (isLst d || isTup d) = isSeq d := by cases d <;> rfl
end LK
set_option Elab.async false
set_option linter.all false
set_option maxRecDepth 100000
set_option maxHeartbeats 4000000
/-! The law's pool of numbers, as functions. -/
namespace LK
open PySem PySem.Spec PyProof.Rows L2
/-- a pool: what is left of a great number, the last number, the count -/
structure Pool where
  big : Int
  last : Int
  cnt : Int
def cellAt_ (ns : List Int) (at_ : Nat) : Int := if at_ < ns.length then ns.getD at_ 0 else 0
def sizeOf_ (c : Int) : Int := if 0 ≤ c then c * 2 else 1 - c * 2
def poolOf (ns : List Int) (at_ : Nat) : Pool :=
  ⟨if 10 ^ 18 ≤ sizeOf_ (cellAt_ ns at_) then sizeOf_ (cellAt_ ns at_) else 0,
   (sizeOf_ (cellAt_ ns at_) * 48271 + (at_ : Int) * 69621 + (ns.length : Int) * 7919 + 104729) % 2147483647, 0⟩
def Pool.next (p : Pool) : Int := (p.last * 16807 + (p.cnt + 1) * 7919 + 12345) % 2147483647
def Pool.draw (p : Pool) (m : Int) : Int := if 0 < p.big then p.big % m else (p.next / 5 + p.next * 31 / 65537) % m
def Pool.step (p : Pool) (m : Int) : Pool := if 0 < p.big then ⟨p.big / m, p.last, p.cnt⟩ else ⟨p.big, p.next, p.cnt + 1⟩
theorem Pool.draw_lo (p : Pool) {m : Int} (h : 0 < m) : 0 ≤ p.draw m := by
  unfold Pool.draw
  split
  · exact Int.emod_nonneg _ (by omega)
  · exact Int.emod_nonneg _ (by omega)
theorem Pool.draw_hi (p : Pool) {m : Int} (h : 0 < m) : p.draw m < m := by
  unfold Pool.draw
  split
  · exact Int.emod_lt_of_pos _ h
  · exact Int.emod_lt_of_pos _ h
abbrev Pool.its (p : Pool) : List V := [.int p.big, .int p.last, .int p.cnt]
/-- the pool stands at p -/
def PlAt (H : Hp) (p : Addr) (P : Pool) : Prop := H p = some (.lst P.its)
abbrev plO (P : Pool) : HO := .lst P.its
def spPool (K : PySem.W.Frag) : Sp := fun vs H Q _ => ∃ (a : Addr) (ns : List Int) (i : Nat), vs = [.ref a, .int (i : Int)] ∧ SqL K H a (ns.map V.int) ∧ ns.length ≤ 63 ∧ i ≤ 63 ∧
  ∀ p H', H p = none → Same H H' → PlAt H' p (poolOf ns i) → Q (.ref p) H'
def spDraw : Sp := fun vs H Q _ => ∃ (p : Addr) (P : Pool) (m : Int), vs = [.ref p, .int m] ∧ PlAt H p P ∧ 0 < m ∧ m < 1073741824 ∧ ∀ H', Keep (fun a => a = p) H H' → PlAt H' p (P.step m) → Q (.int (P.draw m)) H'
end LK
set_option Elab.async false
set_option linter.all false
set_option maxRecDepth 100000
set_option maxHeartbeats 4000000
/-! What the operators of KA evaluate to, in Evl's words. -/
namespace LK
open PySem PySem.Spec PyProof.Rows L2 Evl
section
variable {K : PySem.W.Frag} {σ : L2.St} {H : Hp} {ta tb te : TE} {x y z v : V} {M : Addr → Prop}
theorem rv_now {r : R2} (h : ∀ H1, Ex H H1 → ∀ Q : VK, Q z H1 → r x y H1 Q) : RV r x y H z := fun H1 e Q q => h H1 e Q (q H1 (Ex.refl H1))
theorem rv_l {r r' : R2} (h : RV r x y H z) : RV (fun x y H Q => r x y H Q ∨ r' x y H Q) x y H z := fun H1 e Q q => .inl (h H1 e Q q)
theorem rv_r {r r' : R2} (h : RV r' x y H z) : RV (fun x y H Q => r x y H Q ∨ r' x y H Q) x y H z := fun H1 e Q q => .inr (h H1 e Q q)
theorem rv_addI {i j : Int} : RV (rAddA K) (.int i) (.int j) H (.int (i + j)) := rv_l rv_I0
theorem rv_addS {i j : Str} (h : i.length + j.length ≤ 100000) : RV (rAddA K) (.str i) (.str j) H (.str (i ++ j)) := rv_r (rv_l (rv_now fun _ _ _ q => ⟨i, j, rfl, rfl, sz_of h, q⟩))
theorem rv_eqS (h : scal x y = true) : RV (rEqA K) x y H (.bl (decide (x = y))) := rv_l (rv_eq h)
theorem rv_neS (h : scal x y = true) : RV (rNeA K) x y H (.bl (!decide (x = y))) := rv_l (rv_ne h)
theorem rv_ltI {i j : Int} : RV rLtA (.int i) (.int j) H (.bl (decide (i < j))) := rv_l rv_I0
theorem rv_leI {i j : Int} : RV rLeA (.int i) (.int j) H (.bl (decide (i ≤ j))) := rv_l rv_I0
theorem rv_gtI {i j : Int} : RV rGtA (.int i) (.int j) H (.bl (decide (j < i))) := rv_l rv_I0
theorem rv_geI {i j : Int} : RV rGeA (.int i) (.int j) H (.bl (decide (j ≤ i))) := rv_l rv_I0
theorem rv_tt {g : List Nat → List Nat → Bool} {i j : Str} : RV (rTT g) (.str i) (.str j) H (.bl (g i.cps.toList j.cps.toList)) := rv_now fun _ _ _ q => ⟨i, j, rfl, rfl, q⟩
theorem rv_ltS {i j : Str} : RV rLtA (.str i) (.str j) H (.bl (decide (i.cps.toList < j.cps.toList))) := rv_r rv_tt
theorem rv_leS {i j : Str} : RV rLeA (.str i) (.str j) H (.bl (!decide (j.cps.toList < i.cps.toList))) := rv_r rv_tt
theorem rv_inC {c : Nat} {t : Str} : RV (rInA K) (.str ⟨#[c]⟩) (.str t) H (.bl (decide (c ∈ t.cps.toList))) := rv_l (rv_now fun _ _ _ q => ⟨c, t, rfl, rfl, q⟩)
theorem rv_niC {c : Nat} {t : Str} : RV (rNiA K) (.str ⟨#[c]⟩) (.str t) H (.bl (!decide (c ∈ t.cps.toList))) := rv_l (rv_now fun _ _ _ q => ⟨c, t, rfl, rfl, q⟩)
theorem rv_inA {p : Addr} {xs : List V} (h : SqT K H p xs) (hx : flatV x = true) (ha : xs.all flatV = true) : RV (rInA K) x (.ref p) H (.bl (inV x xs)) := rv_r (rv_isT h hx ha)
theorem rv_xL {p : Addr} {xs : List V} {i : Int} (h : SqL K H p xs) (ha : atI xs i = some v) : RV (rIx K) (.ref p) (.int i) H v := rv_l (rv_ixL h ha)
theorem rv_xT {p : Addr} {xs : List V} {i : Int} (h : SqT K H p xs) (ha : atI xs i = some v) : RV (rIx K) (.ref p) (.int i) H v := rv_r (rv_l (rv_ixT h ha))
theorem rv_xS {w : Str} {i : Int} {c : Nat} (h : w.length ≤ 100000) (ha : atI w.cps.toList i = some c) : RV (rIx K) (.str w) (.int i) H (.str ⟨#[c]⟩) := rv_r (rv_r (rv_ixS h ha))
theorem rv_isBl {a b : Bool} : RV (fun x y H Q => ∃ a b, x = V.bl a ∧ y = V.bl b ∧ Q (.bl (decide (a = b))) H) (.bl a) (.bl b) H (.bl (decide (a = b))) := rv_now fun _ _ _ q => ⟨a, b, rfl, rfl, q⟩
theorem rv_isntBl {a b : Bool} : RV (fun x y H Q => ∃ a b, x = V.bl a ∧ y = V.bl b ∧ Q (.bl (!decide (a = b))) H) (.bl a) (.bl b) H (.bl (!decide (a = b))) := rv_now fun _ _ _ q => ⟨a, b, rfl, rfl, q⟩
theorem rv_isN : RV (fun x y H Q => y = V.non ∧ Q (.bl (decide (x = .non))) H) x .non H (.bl (decide (x = .non))) := rv_now fun _ _ _ q => ⟨rfl, q⟩
theorem rv_isntN : RV (fun x y H Q => y = V.non ∧ Q (.bl (!decide (x = .non))) H) x .non H (.bl (!decide (x = .non))) := rv_now fun _ _ _ q => ⟨rfl, q⟩

/-- a value's truth where it is not read off the heap -/
def truV : V → Bool
  | .bl b => b
  | .int i => i != 0
  | .str y => (y.length : Int) != 0
  | _ => false
theorem et_tru {k : Bool} (h : Ev ta σ H x) (ht : ∀ H1, Ex H H1 → TruV K x H1 k) : EvT (tTr K ta) σ H k := fun H1 e Q q =>
  h H1 e _ fun H2 e2 => ⟨k, ht H2 (e.trans e2), q H2 e2⟩
theorem tr_bl {b : Bool} : ∀ H1, Ex H H1 → TruV K (.bl b) H1 b := fun _ _ => rfl
theorem tr_L {p : Addr} {xs : List V} (h : SqL K H p xs) : ∀ H1, Ex H H1 → TruV K (.ref p) H1 (!xs.isEmpty) := fun _ e => .inl ⟨xs, ex_l e h, rfl⟩
theorem tr_T {p : Addr} {xs : List V} (h : SqT K H p xs) : ∀ H1, Ex H H1 → TruV K (.ref p) H1 (!xs.isEmpty) := fun _ e => .inr (.inl ⟨xs, ex_t e h, rfl⟩)

/-! ### data-valued, and what may raise: none where it raises as is wished -/
def EvO (M : Addr → Prop) (te : TE) (σ : L2.St) (H : Hp) (o : Option PyData) : Prop := ∀ H1, Ex H H1 → ∀ Q : VK, (∀ d v H2, o = some d → Ex H1 H2 → At M H2 v d → Q v H2) → te σ H1 Q
def EvOs (M : Addr → Prop) (ta : TA) (σ : L2.St) (H : Hp) (o : Option (List PyData)) : Prop := ∀ H1, Ex H H1 → ∀ Q : List V → Hp → Prop, (∀ ds vs H2, o = some ds → Ex H1 H2 → Ats M H2 vs ds → Q vs H2) → ta σ H1 Q
theorem At.ex {H1 : Hp} {d : PyData} (e : Ex H H1) (h : At M H v d) : At M H1 v d := h.same e
theorem Ats.ex {H1 : Hp} {vs : List V} {ds : List PyData} (e : Ex H H1) (h : Ats M H vs ds) : Ats M H1 vs ds := h.same e
theorem EvO.mono {H' : Hp} {o : Option PyData} (e : Ex H H') (h : EvO M ta σ H o) : EvO M ta σ H' o := fun H1 a Q q => h H1 (e.trans a) Q q
theorem eo_of {d : PyData} (h : Ev ta σ H v) (hd : At M H v d) : EvO M ta σ H (some d) := fun H1 e Q q => h H1 e Q fun H2 e2 => q d v H2 rfl e2 (hd.ex (e.trans e2))
theorem es_nil : EvOs M tNil σ H (some []) := fun H1 _ Q q => q [] [] H1 rfl (Ex.refl H1) .nil
theorem es_cons {tr : TA} {o : Option PyData} {os : Option (List PyData)} (h : EvO M ta σ H o) (hr : EvOs M tr σ H os) : EvOs M (tCons ta tr) σ H (o.bind fun d => os.map (d :: ·)) := fun H1 e Q q =>
  h H1 e _ fun d v H2 hd e2 a2 => hr H2 (e.trans e2) _ fun ds vs H3 hds e3 a3 => q (d :: ds) (v :: vs) H3 (by rw [hd, hds] <;> rfl) (e2.trans e3) (.cons (a2.ex e3) a3)
theorem eo_tup {ta : TA} {os : Option (List PyData)} (h : EvOs M ta σ H os) (hM : Trk M H) (hz : ∀ ds, os = some ds → ds.length ≤ 100000) : EvO M (tTup ta) σ H (os.map .tuple) := fun H1 e Q q =>
  h H1 e _ fun ds vs H2 hds e2 a2 => ⟨sz_of (by rw [a2.len]; exact hz ds hds), fun p hp => q (.tuple ds) (.ref p) _ (by rw [hds] <;> rfl) (e2.trans (Ex.new hp)) (.tup (Trk.fresh (hM.same (e.trans e2)) hp) upd_same (a2.ex (Ex.new hp)))⟩
theorem eo_lst {ta : TA} {os : Option (List PyData)} (h : EvOs M ta σ H os) (hM : Trk M H) (hz : ∀ ds, os = some ds → ds.length ≤ 100000) : EvO M (tLst ta) σ H (os.map .list) := fun H1 e Q q =>
  h H1 e _ fun ds vs H2 hds e2 a2 => ⟨sz_of (by rw [a2.len]; exact hz ds hds), fun p hp => q (.list ds) (.ref p) _ (by rw [hds] <;> rfl) (e2.trans (Ex.new hp)) (.lst (Trk.fresh (hM.same (e.trans e2)) hp) upd_same (a2.ex (Ex.new hp)))⟩
variable {D : Ends} {tz : TS}
theorem o_ret {o : Option PyData} (h : EvO M ta σ H o) (k : ∀ d v H1, o = some d → Ex H H1 → At M H1 v d → D.rt v H1) : tRet ta D σ H := h H (Ex.refl H) _ k
theorem o_asg {o : Option PyData} {i : Nat} (h : EvO M ta σ H o) (k : ∀ d v H1, o = some d → Ex H H1 → At M H1 v d → tz D (σ.set i (some v)) H1) : tSeq (tAsg ta (gName i)) tz D σ H := h H (Ex.refl H) _ k

/-! ### calls of built-ins -/
theorem rc_now {r : List V → Hp → VK → Prop} {vs : List V} (h : ∀ H1, Ex H H1 → ∀ Q : VK, Q z H1 → r vs H1 Q) : RC r vs H z := fun H1 e Q q => h H1 e Q (q H1 (Ex.refl H1))
theorem rc_int {i : Int} : RC rInt [.int i] H (.int i) := rc_now fun _ _ _ q => .inl ⟨i, rfl, q⟩
theorem rc_ord {c : Nat} : RC rOrd [.str ⟨#[c]⟩] H (.int (c : Nat)) := rc_now fun _ _ _ q => ⟨⟨#[c]⟩, rfl, rfl, q⟩
theorem rc_lenS {t : Str} (h : t.length ≤ 100000) : RC (rLen K) [.str t] H (.int (t.length : Nat)) := rc_now fun _ _ _ q => ⟨_, _, rfl, ⟨sz_of h, rfl⟩, q⟩
theorem rc_lenL {p : Addr} {xs : List V} (h : SqL K H p xs) : RC (rLen K) [.ref p] H (.int (xs.length : Nat)) := rc_now fun _ e _ q => ⟨_, _, rfl, .inl ⟨xs, ex_l e h, rfl⟩, q⟩
theorem rc_lenT {p : Addr} {xs : List V} (h : SqT K H p xs) : RC (rLen K) [.ref p] H (.int (xs.length : Nat)) := rc_now fun _ e _ q => ⟨_, _, rfl, .inr ⟨xs, ex_t e h, rfl⟩, q⟩
theorem rc_isi {d : PyData} {t : String} {b : Bool} (h : At M H v d) (ht : kitB (tyD d) t = some b) : RC (rIsi K) [v, .ty t] H (.bl b) :=
  rc_now fun _ e _ q => ⟨v, .ty t, _, _, _, rfl, .ty t, (h.ex e).ty, kit_ty ht, q⟩
theorem rc_isiS {d : PyData} (h : At M H v d) : RC (rIsi K) [v, .ty "str"] H (.bl (isStr d)) := rc_isi h (kit_str d)
theorem rc_isiI {d : PyData} (h : At M H v d) : RC (rIsi K) [v, .ty "int"] H (.bl (isInt d)) := rc_isi h (kit_int d)
theorem rc_isiB {d : PyData} (h : At M H v d) : RC (rIsi K) [v, .ty "bool"] H (.bl (isBool d)) := rc_isi h (kit_bool d)
theorem rc_isiL {d : PyData} (h : At M H v d) : RC (rIsi K) [v, .ty "list"] H (.bl (isLst d)) := rc_isi h (kit_lst d)
theorem rc_isiT {d : PyData} (h : At M H v d) : RC (rIsi K) [v, .ty "tuple"] H (.bl (isTup d)) := rc_isi h (kit_tup d)
theorem kit_LT {d : PyData} : PySem.W.kitAny K (.type (tyD d)) [.type "list", .type "tuple"] = some (isSeq d) := by
  rw [← seq_or]
  exact kitAny_cons (kit_ty (kit_lst d)) (fun e => by
    rw [e, Bool.false_or]
    exact kitAny_cons (kit_ty (kit_tup d)) (fun e2 => by
      rw [e2]
      exact kitAny_nil) fun e2 => e2) fun e => by
    rw [e]
    rfl
/-- isinstance(x, (list, tuple)) -/
theorem ev_isiLT {d : PyData} (ha : Ev ta σ H v) (h : At M H v d) : Ev (tCB (rIsiT K) (tCons ta (tCons (tTup (tCons (tC (.ty "list")) (tCons (tC (.ty "tuple")) tNil))) tNil))) σ H (.bl (isSeq d)) := fun H1 e Q q =>
  ha H1 e _ fun H2 e2 => ⟨by show 2 ≤ sizeLine; decide, fun p hp => ⟨v, p, [.ty "list", .ty "tuple"], _, [.type "list", .type "tuple"], _, rfl, upd_same, .cons (.ty _) (.cons (.ty _) .nil), (h.ex ((e.trans e2).trans (Ex.new hp))).ty, kit_LT, q _ (e2.trans (Ex.new hp))⟩⟩
/-- and, or that end early -/
theorem ev_and0 (h1 : Ev ta σ H (.bl false)) : Ev (tAndV ta tb) σ H (.bl false) := ev_andV (b := false) h1 fun e => by cases e
theorem ev_or1 (h1 : Ev ta σ H (.bl true)) : Ev (tOrV ta tb) σ H (.bl true) := ev_orV (b := true) h1 fun e => by cases e
theorem ev_and1 {b : Bool} (h1 : Ev ta σ H (.bl true)) (h2 : Ev tb σ H (.bl b)) : Ev (tAndV ta tb) σ H (.bl b) := ev_andV (b := b) h1 fun _ => h2
theorem ev_or0 {b : Bool} (h1 : Ev ta σ H (.bl false)) (h2 : Ev tb σ H (.bl b)) : Ev (tOrV ta tb) σ H (.bl b) := ev_orV (b := b) h1 fun _ => h2
variable {t u : TT}
theorem et_and0 (h1 : EvT t σ H false) : EvT (tAnd t u) σ H false := et_and (b := false) h1 fun e => by cases e
theorem et_and1 {b : Bool} (h1 : EvT t σ H true) (h2 : EvT u σ H b) : EvT (tAnd t u) σ H b := et_and h1 fun _ => h2
theorem et_or1 (h1 : EvT t σ H true) : EvT (tOr t u) σ H true := et_or (b := true) h1 fun e => by cases e
theorem et_or0 {b : Bool} (h1 : EvT t σ H false) (h2 : EvT u σ H b) : EvT (tOr t u) σ H b := et_or h1 fun _ => h2
theorem et_no (h : EvT t σ H true) : EvT (tNot t) σ H false := et_not h
theorem et_ya (h : EvT t σ H false) : EvT (tNot t) σ H true := et_not h
end
end LK
set_option Elab.async false
set_option linter.all false
set_option maxRecDepth 100000
/-! What the kinds' own functions say of data, in plain Lean. -/
namespace LK
open PySem
def lettersL : List Nat := (Str.ofString "abcdefghijklmnopqrstuvwxyz").cps.toList
def signsL : List Nat := (Str.ofString "abcdefghijklmnopqrstuvwxyz0123456789").cps.toList
/-- is_name of a text -/
def nameL (s : List Nat) : Bool := decide (1 ≤ s.length ∧ s.length ≤ 8) && (decide (s.headD 0 ∈ lettersL) && s.all fun c => decide (c ∈ signsL))
def nameD : PyData → Bool
  | .str s => nameL s.cps.toList
  | _ => false
def lenD : PyData → Nat
  | .list ds => ds.length
  | .tuple ds => ds.length
  | .str s => s.length
  | _ => 0
def rowD (d : PyData) (n : Int) : Bool := isSeq d && decide ((lenD d : Int) = n)
def wholeD (d : PyData) : Bool := isInt d && !isBool d
def largest : Int := 10 ^ 30
def signOk (c : Nat) : Bool := !decide ([c] < [32]) && !decide ([126] < [c]) && (!decide (c ∈ ([34, 92] : List Nat)) && !decide ((c : Int) = 37))
def intOkD : PyData → Bool
  | .int i => decide (-largest < i) && decide (i < largest)
  | _ => false
def textOk (s : Str) : Bool := decide (s.length ≤ 12) && s.cps.toList.all signOk
def textOkD : PyData → Bool
  | .str s => textOk s
  | _ => false
/-- fits_base of a datum -/
def fitsD (d : PyData) (kind : Str) : Bool := if kind = "truth" then isBool d else if kind = "int" then intOkD d else textOkD d
/-! ### kinds -/
def itemsD : PyData → List PyData
  | .list ds => ds
  | .tuple ds => ds
  | _ => []
def isBaseS (s : Str) : Bool := decide (s = "int") || (decide (s = "text") || decide (s = "truth"))
def lastOk (acc : List PyData) (s : Str) : Bool :=
  match acc.getLast? with
  | none => true
  | some (.tuple (.str p :: _)) => decide (p.cps.toList < s.cps.toList)
  | some _ => false
/-- one couple of a record, behind those of acc; f: the kinds within -/
def cplPair (f : PyData → Option PyData) (acc : List PyData) : List PyData → Option (List PyData)
  | [.str s, k] => if nameL s.cps.toList && lastOk acc s then (f k).map fun k' => acc ++ [.tuple [.str s, k']] else none
  | _ => none
def cplStep (f : PyData → Option PyData) (acc : List PyData) (c : PyData) : Option (List PyData) := if isSeq c then cplPair f acc (itemsD c) else none
def cplAll (f : PyData → Option PyData) (acc : List PyData) : List PyData → Option (List PyData)
  | [] => some acc
  | c :: cs => (cplStep f acc c).bind fun acc' => cplAll f acc' cs
def cplD (f : PyData → Option PyData) (x : PyData) : Option (List PyData) := if isSeq x && decide ((itemsD x).length ≤ 5) then cplAll f [] (itemsD x) else none
def geD : PyData → Bool
  | .int i => decide (0 ≤ i)
  | _ => false
def anyD (d : PyData) : Option PyData := if wholeD d && geD d then some (.tuple [.str "any", d]) else none
def chk2 (f : PyData → Option PyData) (w : Str) (x : PyData) : Option PyData :=
  if w = "list" then (f x).map fun y => .tuple [.str "list", y] else if w = "record" then (cplD f x).map fun ys => .tuple [.str "record", .tuple ys] else if w = "any" then anyD x else none
def chk3 (f : PyData → Option PyData) (w : Str) (x y : PyData) : Option PyData := if w = "function" then (f x).bind fun a => (f y).map fun b => .tuple [.str "function", a, b] else none
def chkSeq (f : PyData → Option PyData) : List PyData → Option PyData
  | [.str w, x] => chk2 f w x
  | [.str w, x, y] => chk3 f w x y
  | _ => none
def chkStep (f : PyData → Option PyData) : PyData → Option PyData
  | .str s => if isBaseS s then some (.str s) else none
  | .list ds => chkSeq f ds
  | .tuple ds => chkSeq f ds
  | _ => none
/-- checked_kind where n levels are left -/
def chk : Nat → PyData → Option PyData
  | 0 => fun _ => none
  | n + 1 => chkStep (chk n)
end LK
set_option Elab.async false
set_option linter.all false
set_option maxRecDepth 100000
set_option maxHeartbeats 4000000
/-! An own exception whose __init__ takes nothing but self; isinstance of it where it was caught. -/
namespace LK
open PySem PySem.Spec PyProof.Rows L2
/-- C(), C's own __init__ keeping sp -/
def tMk0 (C : Addr) (sp : Sp) : L2.St → Hp → XK → Prop := fun _ H Q => ∀ a, H a = none → sp [.ref a] (upd H a (exo a C none))
  (fun v H2 => v = .non ∧ ∃ (d : Addr) (fs : List (Str × V)), H2 a = some (exo a C (some d)) ∧ H2 d = some (exd d fs) ∧ H d = none ∧ Q (.ref C) (some d) (upd (del H2 a) d (.xd fs))) (fun _ _ _ => False)
theorem pmk0 {X : Cx} {cx : CXT} {x : Str} {C fi : Addr} {k : Nat} {fd : FuncData} {ps : List Str} {sp : Sp} {p pos : Pos}
    (T : OexC X.K C) (ic : PySem.W.findIn X.K (.ref C) "__init__" = some (some (.ref fi))) (ti : PySem.W.typeIn X.K (.ref fi) = some (.type "function"))
    (F1 : FnOk X.prog X.w X.K X.mg X.base cx k fi fd ps sp) (room : Room (k + 1) X.A) (bd : Binds X.K fd ps []) (pass : Passes cx X (fun _ _ _ => False))
    (gl : Gl X x) (mgx : X.mg x = some (.ref C)) (dbg : (x == ("__debug__" : Str)) = false := by decide) : PMk X (.Call (.Name x p) [] [] pos) (tMk0 C sp) := by
  intro pn s st H Q I want
  obtain ⟨c1, c2, c3, c4, bm, c6, c7, c8, c9, c10, d0, d1, d2, d3, d5, hC, hbm⟩ := T.cls
  refine wpAny_Call_Name_kw (ld_glob I gl mgx ?_ dbg)
  refine PySem.W.callWith_K0 I.kIn T.kC ?_
  obtain ⟨hp, g, dr, tk, os⟩ := s
  have old : ∀ b o, hp.get? b = some o → ((hp.push (PySem.W.kdv_tup [])).push (PySem.HandSPX.excO C hp.objs.size)).get? b = some o := fun b o e =>
    Heap.get?_push_of_some _ (Heap.get?_push_of_some _ e)
  have new : ((hp.push (PySem.W.kdv_tup [])).push (PySem.HandSPX.excO C hp.objs.size)).get? (hp.objs.size + 1) = some (PySem.HandSPX.excO C hp.objs.size) := by
    heap_get
  have le : hp.objs.size ≤ hp.objs.size + 1 := Nat.le_succ _
  have fr : H (hp.objs.size + 1) = none := I.hok.fresh le
  have hq := want (hp.objs.size + 1) fr
  have J : Inv X pn st (upd H (hp.objs.size + 1) (exo (hp.objs.size + 1) C none))
      ⟨(hp.push (PySem.W.kdv_tup [])).push (PySem.HandSPX.excO C hp.objs.size), g, dr, tk, os⟩ :=
    I.laid (t' := tk) (a := hp.objs.size + 1) (o := exo (hp.objs.size + 1) C none) (h' := (hp.push (PySem.W.kdv_tup [])).push (PySem.HandSPX.excO C hp.objs.size)) old le (exo_ok new)
  have rv : Vals [V.ref (hp.objs.size + 1)] [Value.ref (hp.objs.size + 1)] := .cons rfl .nil
  have hl : ([Value.ref (hp.objs.size + 1)] ++ ([] : List Value)).length = ps.length := (F1.len _ _ _ _ hq).symm ▸ rfl
  refine wpAny_call (PySem.HandSPX.call_own F.excBase_ValueError (fun Y => PySem.HandSPX.refsVE_contains Y bm hbm) (I.kIn _ _ hC)
    (PySem.W.looks_findIn I.kIn ic) (fun self => PySem.W.bind_fn I.kIn self ti) (Nat.zero_le _) ?_)
  have bb := bd _ [Value.ref (hp.objs.size + 1)] J.kIn hl
  rw [List.append_nil] at bb
  refine codeAny_mono (F1.run _ X.stack _ _ ⟨[Value.ref (hp.objs.size + 1)], []⟩ [Value.ref (hp.objs.size + 1)] _ _ (fun _ _ _ => False)
    (room.make C [] []) (J.env0.make C [] []) bb rv hq) fun r s' z => ?_
  cases r with
  | error er => exact pass pn st _ _ er s' J z
  | ok fl =>
    cases fl with
    | ret u =>
      obtain ⟨v, H2, os2, bare, un, hok, r2, ev, d, fs, ea, ed, hd, q⟩ := z
      subst ev
      obtain ⟨h2, g2, dr2, tk2, os'⟩ := s'
      exact ⟨r2, mk_end (raises_own T.exC T.tyC) I le old un hok os2 bare ea ed hd q⟩
    | next => exact False.elim z
    | brk => exact False.elim z
    | cont => exact False.elim z
/-- raise C() -/
theorem psRaise0 {X : Cx} {cx : CXT} {W : WX} {x : Str} {C fi : Addr} {k : Nat} {fd : FuncData} {ps : List Str} {sp : Sp} {p pos pos2 : Pos} (calm : X.calm = true) (tk : Takes X W)
    (T : OexC X.K C) (ic : PySem.W.findIn X.K (.ref C) "__init__" = some (some (.ref fi))) (ti : PySem.W.typeIn X.K (.ref fi) = some (.type "function"))
    (F1 : FnOk X.prog X.w X.K X.mg X.base cx k fi fd ps sp) (room : Room (k + 1) X.A) (bd : Binds X.K fd ps []) (pass : Passes cx X (fun _ _ _ => False))
    (gl : Gl X x) (mgx : X.mg x = some (.ref C)) (dbg : (x == ("__debug__" : Str)) = false := by decide) :
    PS X (.Raise (some (.Call (.Name x p) [] [] pos)) none pos2) (fun _ σ H => tMk0 C sp σ H fun cls d H' => W cls d σ H') :=
  ps_raise calm tk (pmk0 T ic ti F1 room bd pass gl mgx dbg)
/-- what isinstance asks of the class of a caught exception -/
structure ExIs (K : PySem.W.Frag) (D : Addr) : Prop where
  cl : (PySem.W.clsIn K D).isSome = true
  ga : PySem.W.findIn K (.ref D) "__getattribute__" = some (some (.builtin "BaseException.__getattribute__"))
  gg : PySem.W.findIn K (.ref D) "__getattr__" = some none
  sb : PySem.W.subIn K (.ref D) (.type "BaseException") = some true
  ca : PySem.W.findIn K (.ref D) "__class__" = some (some (.builtin "object.__class__"))
  sp : PySem.W.specialIn K (.builtin "object.__class__") "__get__" = some (some (.builtin "getset_descriptor.__get__"))
  tk : PySem.W.takesIn K (.builtin "object.__class__") = some true
  ob : PySem.W.mroIn K D (.type "object") = some true
/-- isinstance(e, c), e the exception in hand (class cls, dict at d) -/
def rIsX (K : PySem.W.Frag) (D a : Addr) (cls : Value) (d : Option Addr) : List V → Hp → VK → Prop := fun xs H Q => cls = .ref D ∧ ∃ (dd : Addr) (c : V) (cv : Value) (b : Bool) (fs : List (Str × V)),
  d = some dd ∧ xs = [.ref a, c] ∧ ClsV c cv ∧ H dd = some (.xd fs) ∧ PySem.W.kitOne K (.ref D) cv = some b ∧ Q (.bl b) H
theorem isiExc {X : Cx} {K : PySem.W.Frag} {a D : Addr} {cls : Value} {d : Option Addr} {oe : Obj} {pn : List (Addr × Obj)} (C : ExIs K D) (hz : Zc cls d oe) (hf : ∃ vs, oe.data = .fields vs) (hK : X.K = K := by rfl) :
    CallR (X.suite a ((a, oe) :: pn)) (.builtin "isinstance") (rIsX K D a cls d) := by
  subst hK
  intro pins s σ H xs us Q I r h
  obtain ⟨rfl, dd, c, cv, b, fs, rfl, rfl, hc, hd, e, q⟩ := h
  obtain ⟨u1, u2, rfl, r1, r2⟩ := vals2 r
  cases (show u1 = Value.ref a from r1)
  have ec := hc.eq r2
  subst ec
  obtain ⟨here, _⟩ := I.pin (a, oe) (List.mem_append.mpr (.inl List.mem_cons_self))
  obtain ⟨vs, hv⟩ := hf
  obtain ⟨mA, hns, _⟩ := (show ObjOk X.prog X.w H s.heap dd (.xd fs) from I.hok dd _ hd)
  obtain ⟨od, ho, _⟩ := lookIn_ns hns
  have J : PySem.W.InstAt s.heap a oe D (some od) := ⟨here, hz.1, by unfold PySem.W.notCls; rw [hv] <;> rfl, by rw [hz.2]; exact ho⟩
  exact PySem.W.kia_one (PySem.W.kitx_exc (od := some od) C.cl C.ga C.gg C.sb C.ca C.sp C.tk C.ob) I.kIn J e (fun z => nomatch z) fun tk => ⟨.bl b, H, I.tok tk, rfl, q⟩
end LK
set_option Elab.async false
set_option linter.all false
set_option maxRecDepth 100000
set_option maxHeartbeats 4000000
/-! Comprehensions that change nothing, told by their lists; all, any, join. -/
namespace LK
open PySem PySem.Spec PyProof.Rows L2 Evl
section
variable {K : PySem.W.Frag} {σ : L2.St} {H : Hp} {tl te : TE} {ta : TA} {M : Addr → Prop} {j : Nat} {vs : List Nat}
theorem at_nat {α : Type} {l : List α} {j : Nat} {x : α} (h : l[j]? = some x) : atI l (j : Int) = some x := by
  have hj : j < l.length := (List.getElem?_eq_some_iff.mp h).1
  unfold atI
  rw [ixN_nat hj]
  exact h
theorem at_head {l : List Nat} (h : 0 < l.length) : atI l 0 = some (l.headD 0) := by
  cases l with
  | nil => exact absurd h (Nat.lt_irrefl 0)
  | cons c r => exact at_nat (j := 0) rfl
theorem At.strOf {H : Hp} {v : V} {d : PyData} (h : At M H v d) (hs : isStr d = true) : ∃ x : Str, x.length ≤ 100000 ∧ v = .str x ∧ d = .str x := by
  cases h with
  | str x hx => exact ⟨x, hx, rfl, rfl⟩
  | _ => cases hs
/-- a list or a tuple, whichever -/
def SqA (K : PySem.W.Frag) (H : Hp) (a : Addr) (xs : List V) : Prop := SqL K H a xs ∨ SqT K H a xs
theorem SqA.ex {H1 : Hp} {a : Addr} {xs : List V} (e : Ex H H1) (h : SqA K H a xs) : SqA K H1 a xs := h.imp (ex_l e) (ex_t e)
theorem rv_xA {p : Addr} {xs : List V} {i : Int} {v : V} (h : SqA K H p xs) (ha : atI xs i = some v) : RV (rIx K) (.ref p) (.int i) H v := h.elim (fun h => rv_xL h ha) fun h => rv_xT h ha
theorem rc_lenA {p : Addr} {xs : List V} (h : SqA K H p xs) : RC (rLen K) [.ref p] H (.int (xs.length : Nat)) := h.elim rc_lenL rc_lenT
theorem tr_A {p : Addr} {xs : List V} (h : SqA K H p xs) : ∀ H1, Ex H H1 → TruV K (.ref p) H1 (!xs.isEmpty) := h.elim tr_L tr_T
theorem At.seqOf {H : Hp} {v : V} {d : PyData} (h : At M H v d) (hs : isSeq d = true) : ∃ (a : Addr) (xs : List V), v = .ref a ∧ SqA K H a xs ∧ Ats M H xs (itemsD d) := by
  cases h with
  | lst n h r => exact ⟨_, _, rfl, .inl (.of h), r⟩
  | tup n h r => exact ⟨_, _, rfl, .inr (.of h), r⟩
  | _ => cases hs
theorem given_all {n : Nat} {v : Nat → V} : Evl.given n (fun _ => true) v = (List.range n).map v := by
  unfold Evl.given
  rw [List.filter_eq_self.mpr (fun _ _ => rfl)]
theorem range_map_get {α : Type} (l : List α) (d : α) (f : α → V) : (List.range l.length).map (fun i => f (l.getD i d)) = l.map f := by
  refine List.ext_getElem (by simp) fun i h1 h2 => ?_
  have hi : i < l.length := by simpa using h1
  simp [List.getD_eq_getElem?_getD, hi]
theorem et_yes : EvT tYes σ H true := fun H1 _ _ q => q H1 (Ex.refl H1)
/-- [e for c in a text] -/
theorem el_lcS {z : Str} (f : Nat → V) (h : Ev tl σ H (.str z)) (hz : z.length ≤ 40000) (hw : ∀ x, wipe ((wipe σ vs).set j (some x)) vs = wipe σ vs)
    (he : ∀ (c : Nat) H1, Ex H H1 → c ∈ z.cps.toList → Ev te ((wipe σ vs).set j (some (.str ⟨#[c]⟩))) H1 (f c)) : EvL (tLc (iStr tl) (gName j) tYes te vs) σ H (z.cps.toList.map f) := fun H0 e Q q => by
  refine h H0 e _ fun H1 e1 => ⟨z, rfl, fun Dl hD => ?_⟩
  refine lc_it walk_str (Cw H1 (fun _ => true) (fun i => f (z.cps.toList.getD i 0)) Dl) ⟨hD, Ex.new hD, upd_same⟩ (fun _ _ _ _ => trivial) (fun i x H2 H3 hi p y => ?_) (fun H' p => ?_)
  · obtain ⟨rfl, c, hc, rfl⟩ := y
    have hc' : z.cps.toList[i]? = some c := by simpa using hc
    have hm : c ∈ z.cps.toList := List.mem_of_getElem? hc'
    have hg : z.cps.toList.getD i 0 = c := by simp [List.getD_eq_getElem?_getD, hc']
    refine ⟨hw _, cw_turn p (by unfold Str.length at hz; omega) et_yes fun _ => ?_⟩
    show Ev te _ H1 (f (z.cps.toList.getD i 0))
    rw [hg]
    exact he c H1 (e.trans e1) hm
  · have p3 := p.2.2
    have hl : z.cps.size = z.cps.toList.length := by simp
    rw [given_all, hl, range_map_get z.cps.toList 0 f] at p3
    exact q Dl H' (fresh_back e1 p.1) (e1.trans p.2.1) p3
/-- [e for x in a list] -/
theorem el_lcM {a : Addr} {xs : List V} (f : V → V) (h : Ev tl σ H (.ref a)) (hx : SqL K H a xs) (hz : xs.length ≤ 40000) (hw : ∀ x, wipe ((wipe σ vs).set j (some x)) vs = wipe σ vs)
    (he : ∀ (x : V) H1, Ex H H1 → x ∈ xs → Ev te ((wipe σ vs).set j (some x)) H1 (f x)) : EvL (tLc (iList K tl) (gName j) tYes te vs) σ H (xs.map f) := by
  have q := el_lcL (K := K) (t := tYes) (te := te) (j := j) (vs := vs) (fun _ => true) (fun i => f (xs.getD i .non)) h hx hz hw (fun _ _ _ _ _ => et_yes) (fun i x H1 e hi _ => by
    have hg : xs.getD i .non = x := by simp [List.getD_eq_getElem?_getD, hi]
    rw [hg]
    exact he x H1 e (List.mem_of_getElem? hi))
  rw [given_all, range_map_get xs .non f] at q
  exact q
theorem ev_all {bs : List Bool} (h : EvL te σ H (bs.map V.bl)) : Ev (tCB (rAll K) (tCons te tNil)) σ H (.bl (bs.all id)) := fun H1 e Q q =>
  h H1 e _ fun p H2 _ e2 hp => ⟨p, bs, rfl, .of hp, q H2 e2⟩
theorem ev_any {bs : List Bool} (h : EvL te σ H (bs.map V.bl)) : Ev (tCB (rAny K) (tCons te tNil)) σ H (.bl (bs.any id)) := fun H1 e Q q =>
  h H1 e _ fun p H2 _ e2 hp => ⟨p, bs, rfl, .of hp, q H2 e2⟩
/-- a op b op' c -/
theorem ev_chain {r r' : R2} {ta tb tc : TE} {x y z : V} {a b : Bool} (ha : Ev ta σ H x) (hb : Ev tb σ H y) (hr : RV r x y H (.bl a)) (hc : Ev tc σ H z) (hr' : RV r' y z H (.bl b)) : Ev (tChain r r' ta tb tc) σ H (.bl (a && b)) := fun H1 e Q q =>
  ha H1 e _ fun H2 e2 => hb H2 (e.trans e2) _ fun H3 e3 => hr H3 ((e.trans e2).trans e3) _ fun H4 e4 => ⟨a, rfl, by
    cases a with
    | true =>
      rw [if_pos rfl]
      exact hc H4 (((e.trans e2).trans e3).trans e4) _ fun H5 e5 => hr' H5 ((((e.trans e2).trans e3).trans e4).trans e5) Q fun H6 e6 => q H6 ((((e2.trans e3).trans e4).trans e5).trans e6)
    | false =>
      rw [if_neg Bool.false_ne_true]
      exact q H4 ((e2.trans e3).trans e4)⟩
theorem ev_allP {α : Type} {l : List α} {p : α → Bool} (h : EvL te σ H (l.map fun c => V.bl (p c))) : Ev (tCB (rAll K) (tCons te tNil)) σ H (.bl (l.all p)) := by
  have q : EvL te σ H ((l.map p).map V.bl) := by
    rw [List.map_map]
    exact h
  have z := ev_all (K := K) q
  rw [List.all_map] at z
  exact z
theorem ev_anyP {α : Type} {l : List α} {p : α → Bool} (h : EvL te σ H (l.map fun c => V.bl (p c))) : Ev (tCB (rAny K) (tCons te tNil)) σ H (.bl (l.any p)) := by
  have q : EvL te σ H ((l.map p).map V.bl) := by
    rw [List.map_map]
    exact h
  have z := ev_any (K := K) q
  rw [List.any_map] at z
  exact z
theorem all_map {α : Type} (l : List α) (p : α → Bool) : (l.map p).all id = l.all p := by simp [List.all_map]
end
end LK
set_option Elab.async false
set_option linter.all false
set_option maxRecDepth 100000
set_option maxHeartbeats 4000000
/-! Loops over a list or a tuple, whichever; appending what may raise. -/
namespace LK
open PySem PySem.Spec PyProof.Rows L2 Evl
def iSeq (K : PySem.W.Frag) (tl : TE) : TI := fun σ H R => tl σ H fun x H1 => ∃ a, x = .ref a ∧ (((∃ xs, SqL K H1 a xs) ∧ R (Itl K a) H1) ∨ ((∃ xs, SqT K H1 a xs) ∧ R (Itt K a) H1))
theorem pi_seq {X : Cx} {K : PySem.W.Frag} {tg l : Expr} {tl : TE} (hl : PE X l tl) (hK : X.K = K := by rfl) : PI X tg l (iSeq K tl) := by
  subst hK
  refine ⟨fun pn st σ H R I want => ?_⟩
  refine thn (hl.run pn st σ H _ I want) fun v s1 ⟨x, H1, I1, r1, a, e, q⟩ => ?_
  subst e
  cases r1
  have fp : ∀ b ∈ [s1.heap.objs.size], FpOk X pn H1 b := fun b hb => by
    obtain rfl : b = s1.heap.objs.size := by simpa using hb
    exact I1.fpOk (Nat.le_refl _) (I1.hok.fresh (Nat.le_refl _))
  rcases q with ⟨⟨xs, hq⟩, q⟩ | ⟨⟨xs, hq⟩, q⟩
  · obtain ⟨its, rv, p, _⟩ := I1.list hq
    exact wpAny_pyIter_list p.isList ⟨_, [_], _, _, H1, rfl, I1.kept (t' := s1.toks) fun b o e => Heap.get?_push_of_some _ e, turn_list a _,
      ⟨_, Heap.get?_push_size _ rfl, rfl, rfl⟩, fp, q⟩
  · obtain ⟨its, rv, p, _⟩ := I1.tuple hq
    exact wpAny_pyIter_tuple (show s1.heap.IsTuple a its.toArray from p) ⟨_, [_], _, _, H1, rfl, I1.kept (t' := s1.toks) fun b o e => Heap.get?_push_of_some _ e, turn_tuple a _,
      ⟨_, Heap.get?_push_size _ rfl, rfl, rfl⟩, fp, q⟩
section
variable {K : PySem.W.Frag} {σ : L2.St} {H Hb : Hp} {tl te ta : TE} {M : Addr → Prop} {tu tz : TS} {D : Ends} {g : TG}
/-- for x in a list or a tuple that stood in Hb and stands -/
theorem s_forA {a : Addr} {xs : List V} (h : Ev tl σ H (.ref a)) (hx : SqA K Hb a xs) (Pv : Nat → L2.St → Hp → Prop) (h0 : ∀ H1, Ex H H1 → Pv 0 σ H1) (hl : ∀ i σ' H', Pv i σ' H' → Ex Hb H')
    (hs : ∀ i x σ' H', xs[i]? = some x → Pv i σ' H' → g x σ' H' fun σ2 H2 => tu { D with nx := Pv (i + 1), ct := Pv (i + 1), bk := D.nx } σ2 H2) (hd : ∀ σ' H', Pv xs.length σ' H' → D.nx σ' H') : tFor (iSeq K tl) g tu D σ H :=
  h H (Ex.refl H) _ fun H1 e => by
    have e1 := hl 0 σ H1 (h0 H1 e)
    rcases hx with hx | hx
    · exact ⟨a, rfl, .inl ⟨⟨xs, ex_l e1 hx⟩, for_list Pv (h0 H1 e) (fun i σ' H' _ p => ex_l (hl i σ' H' p) hx) hs hd⟩⟩
    · exact ⟨a, rfl, .inr ⟨⟨xs, ex_t e1 hx⟩, for_tup Pv (h0 H1 e) (fun i σ' H' _ p => ex_t (hl i σ' H' p) hx) hs hd⟩⟩
theorem q_forA {a : Addr} {xs : List V} (h : Ev tl σ H (.ref a)) (hx : SqA K Hb a xs) (Pv : Nat → L2.St → Hp → Prop) (h0 : ∀ H1, Ex H H1 → Pv 0 σ H1) (hl : ∀ i σ' H', Pv i σ' H' → Ex Hb H')
    (hs : ∀ i x σ' H', xs[i]? = some x → Pv i σ' H' → g x σ' H' fun σ2 H2 => tu { D with nx := Pv (i + 1), ct := Pv (i + 1), bk := tz D } σ2 H2) (hd : ∀ σ' H', Pv xs.length σ' H' → tz D σ' H') : tSeq (tFor (iSeq K tl) g tu) tz D σ H :=
  s_forA (D := { D with nx := tz D }) h hx Pv h0 hl hs hd
/-- xs.append(e), e data or raising -/
theorem o_app {l : Addr} {xs : List V} {o : Option PyData} (hl : H l = some (.lst xs)) (ha : Ev ta σ H (.ref l)) (h : EvO M te σ H o) (hz : xs.length < 100000)
    (k : ∀ d v H1, o = some d → Ex H H1 → At M H1 v d → D.nx σ (upd H1 l (.lst (xs ++ [v])))) : tDrop (tBM K "list" rAppend ta (tCons te tNil)) D σ H := ha H (Ex.refl H) _ fun H1 e1 =>
  ⟨.inl ⟨rfl, xs, .of (e1 l _ hl)⟩, h H1 e1 _ fun d v H2 hd e2 a2 => ⟨l, xs, v, rfl, rfl, e2 l _ (e1 l _ hl), sz_lt hz, k d v H2 hd (e1.trans e2) a2⟩⟩
theorem qo_app {l : Addr} {xs : List V} {o : Option PyData} (hl : H l = some (.lst xs)) (ha : Ev ta σ H (.ref l)) (h : EvO M te σ H o) (hz : xs.length < 100000)
    (k : ∀ d v H1, o = some d → Ex H H1 → At M H1 v d → tz D σ (upd H1 l (.lst (xs ++ [v])))) : tSeq (tDrop (tBM K "list" rAppend ta (tCons te tNil))) tz D σ H := o_app (D := { D with nx := tz D }) hl ha h hz k
/-- tuple(a list) -/
theorem s_tupOf {l : Addr} {xs : List V} (ha : Ev te σ H (.ref l)) (hl : SqL K H l xs) (k : ∀ p H1, H p = none → Ex H H1 → H1 p = some (.tup xs) → D.rt (.ref p) H1) : tRet (tCB (rTupOf K) (tCons te tNil)) D σ H := ha H (Ex.refl H) _ fun H1 e1 =>
  ⟨l, xs, rfl, .inl ⟨ex_l e1 hl, fun p hp => k p _ (fresh_back e1 hp) (e1.trans (Ex.new hp)) upd_same⟩⟩
end
/-- one more address that may change -/
abbrev And1 (M : Addr → Prop) (q : Addr) : Addr → Prop := fun a => M a ∨ a = q
mutual
theorem At.add {M : Addr → Prop} {H : Hp} {q : Addr} (f : H q = none) : ∀ {v : V} {d : PyData}, At M H v d → At (And1 M q) H v d
  | _, _, .non => .non
  | _, _, .bl b => .bl b
  | _, _, .int i => .int i
  | _, _, .str x h => .str x h
  | _, _, .lst n h r => .lst (fun z => z.elim n (ne_of_none h f)) h (Ats.add f r)
  | _, _, .tup n h r => .tup (fun z => z.elim n (ne_of_none h f)) h (Ats.add f r)
theorem Ats.add {M : Addr → Prop} {H : Hp} {q : Addr} (f : H q = none) : ∀ {vs : List V} {ds : List PyData}, Ats M H vs ds → Ats (And1 M q) H vs ds
  | _, _, .nil => .nil
  | _, _, .cons h r => .cons (At.add f h) (Ats.add f r)
end
theorem Ats.concat {M : Addr → Prop} {H : Hp} {d : PyData} : ∀ {ds : List PyData} {vs : List V}, Ats M H vs (ds ++ [d]) → ∃ ws w, vs = ws ++ [w] ∧ Ats M H ws ds ∧ At M H w d
  | [], _, .cons h .nil => ⟨[], _, rfl, .nil, h⟩
  | _ :: _, _, .cons h r => by
    obtain ⟨ws, w, e, r2, h2⟩ := Ats.concat r
    exact ⟨_ :: ws, w, by rw [e]; rfl, .cons h r2, h2⟩
theorem Trk.add {M : Addr → Prop} {H : Hp} {q : Addr} {o : HO} (t : Trk M H) (h : H q = some o) : Trk (And1 M q) H := fun a m => m.elim (t a) fun e => by
  rw [e]
  exact ⟨o, h⟩
end LK
set_option Elab.async false
set_option linter.all false
set_option maxRecDepth 100000
set_option maxHeartbeats 4000000
/-! The law's own «equal, and of the same sorts»: words for it. -/
namespace LK
open PySem PySem.Spec PyProof.Rows L2 Evl
noncomputable def sameD (a b : PyData) : Bool := @decide (a = b) (Classical.propDecidable _)
theorem sameD_iff {a b : PyData} : sameD a b = true ↔ a = b := by
  unfold sameD
  exact @decide_eq_true_iff _ (Classical.propDecidable _)
theorem sameD_of {a b : PyData} {c : Bool} (h : c = true ↔ a = b) : sameD a b = c := by
  cases c with
  | true => exact sameD_iff.mpr (h.mp rfl)
  | false =>
    cases e : sameD a b with
    | false => rfl
    | true => exact absurd (h.mpr (sameD_iff.mp e)) (by simp)
/-- nested at most that deep -/
def DepLe : Nat → PyData → Prop
  | 0, d => isSeq d = false
  | n + 1, d => (itemsD d).length ≤ 10000 ∧ ∀ x ∈ itemsD d, DepLe n x
theorem items_flat {d : PyData} (h : isSeq d = false) : itemsD d = [] := by
  cases d <;> first | rfl | (cases h; done)
theorem DepLe.up : ∀ {n : Nat} {d : PyData}, DepLe n d → DepLe (n + 1) d
  | 0, d, h => by
    have e := items_flat (show isSeq d = false from h)
    refine ⟨by rw [e]; exact Nat.zero_le _, fun x hx => ?_⟩
    rw [e] at hx
    cases hx
  | n + 1, d, h => ⟨h.1, fun x hx => DepLe.up (h.2 x hx)⟩
theorem DepLe.flat {n : Nat} {d : PyData} (h : isSeq d = false) : DepLe n d := by
  induction n with
  | zero => exact h
  | succ n ih => exact ih.up
def spExact (n : Nat) : Sp := fun vs H Q _ => ∃ (v1 v2 : V) (d1 d2 : PyData), vs = [v1, v2] ∧ At M0 H v1 d1 ∧ At M0 H v2 d2 ∧ DepLe n d2 ∧ ∀ H1, Same H H1 → Q (.bl (sameD d1 d2)) H1
theorem seq_ext {a b : PyData} (ha : isSeq a = true) (hb : isSeq b = true) (hl : isLst a = isLst b) (hi : itemsD a = itemsD b) : a = b := by
  cases a with
  | list xs => cases b with
    | list ys => exact congrArg _ hi
    | tuple ys => cases hl
    | _ => cases hb
  | tuple xs => cases b with
    | list ys => cases hl
    | tuple ys => exact congrArg _ hi
    | _ => cases hb
  | _ => cases ha
theorem seq_lt {a b : PyData} (hb : isSeq b = true) (hl : isLst b = isLst a) (ht : isTup b = isTup a) : isSeq a = true := by
  rw [← seq_or, ← hl, ← ht, seq_or]
  exact hb
/-- the places where two sequences differ -/
noncomputable def diffs (l r : List PyData) : List Nat := (List.range r.length).filter fun i => !sameD (l.getD i .none) (r.getD i .none)
theorem diffs_nil {l r : List PyData} (hl : l.length = r.length) : (diffs l r).isEmpty = true ↔ l = r := by
  unfold diffs
  rw [List.isEmpty_iff, List.filter_eq_nil_iff]
  constructor
  · intro h
    refine List.ext_getElem hl fun i h1 h2 => ?_
    have q := h i (List.mem_range.mpr h2)
    have e := sameD_iff.mp (by simpa using q)
    simpa [List.getD_eq_getElem?_getD, h1, h2] using e
  · rintro rfl i _
    simp [sameD_iff]
section
variable {K : PySem.W.Frag} {σ : L2.St} {H : Hp}
theorem sv_exact {n : Nat} {v1 v2 : V} {d1 d2 : PyData} (h1 : At M0 H v1 d1) (h2 : At M0 H v2 d2) (h3 : DepLe n d2) : SpV (spExact n) [v1, v2] H (.bl (sameD d1 d2)) := fun H1 e Q q E =>
  ⟨v1, v2, d1, d2, rfl, h1.ex e, h2.ex e, h3, q⟩
theorem dp_ints : ∀ is : List Int, DpAll K H (is.map V.int) (is.map PyData.int)
  | [] => .nil
  | i :: is => .cons (.int i) (dp_ints is)
theorem lay_ints : ∀ is : List Int, PyData.canLayAll0 (is.map PyData.int) = true
  | [] => rfl
  | i :: is => by
    simp only [List.map_cons, PyData.canLayAll0, PyData.canLay0, lay_ints is, Bool.and_self]
theorem depth_ints : ∀ is : List Int, PyData.depthAll (is.map PyData.int) = 0
  | [] => rfl
  | i :: is => by
    simp only [List.map_cons, PyData.depthAll, PyData.depth, depth_ints is, Nat.max_self]
theorem shaped_ints (is : List Int) : SeqAt.shaped (.list (is.map PyData.int)) = true := by
  unfold SeqAt.shaped
  simp only [PyData.canLay0, lay_ints, PyData.depth, depth_ints]
  decide
theorem eqv_nil (is : List Int) : PyData.eqv (.list (is.map PyData.int)) (.list []) = is.isEmpty := by
  cases is with
  | nil => simp only [List.map_nil, PyData.eqv, PyData.eqvAll, List.isEmpty_nil]
  | cons i is => simp only [List.map_cons, PyData.eqv, PyData.eqvAll, List.isEmpty_cons]
theorem given_ints (n : Nat) (f : Nat → Bool) : Evl.given n f (fun i => .int (i : Int)) = (((List.range n).filter f).map (fun i : Nat => (i : Int))).map V.int := by
  unfold Evl.given
  rw [List.map_map]
  rfl
/-- a list of ints == [] -/
theorem rv_eqNil {is : List Int} {p q : Addr} (hp : H p = some (.lst (is.map V.int))) (hq : H q = some (.lst [])) : RV (rEqA K) (.ref p) (.ref q) H (.bl is.isEmpty) := by
  refine rv_r (rv_now fun H1 e Q k => ⟨_, _, .lst (.of (e p _ hp)) (dp_ints is), .lst (.of (e q _ hq)) .nil, shaped_ints is, ?_, ?_⟩)
  · exact shaped_ints []
  · rw [eqv_nil]
    exact k
end
end LK
set_option Elab.async false
set_option linter.all false
set_option maxRecDepth 100000
set_option maxHeartbeats 4000000
/-! Where a pool at p is drawn from: G holds what stands, without the pool. -/
namespace LK
open PySem PySem.Spec PyProof.Rows L2 Evl TL
/-- the heap without the pool -/
abbrev wo (H : Hp) (p : Addr) : Hp := del H p
theorem wo_none {H : Hp} {p : Addr} : wo H p p = none := del_same
theorem wo_ne {H : Hp} {p b : Addr} (h : b ≠ p) : wo H p b = H b := del_ne h
theorem wo_ex {H : Hp} {p : Addr} : Ex (wo H p) H := fun a o h => by
  by_cases e : a = p
  · rw [e, wo_none] at h
    cases h
  · rw [wo_ne e] at h
    exact h
theorem ex_wo {G H : Hp} {p : Addr} (hG : G p = none) (e : Ex G H) : Ex G (wo H p) := fun a o h => by
  rw [wo_ne (ne_of_none h hG)]
  exact e a o h
abbrev Mp (p : Addr) : Addr → Prop := fun a => a = p
abbrev KeepP (p : Addr) (H H' : Hp) : Prop := Keep (Mp p) H H'
theorem ex_keep {G H H' : Hp} {p : Addr} (hG : G p = none) (e : Ex G H) (k : KeepP p H H') : Ex G H' := fun a o h => k a o (ne_of_none h hG) (e a o h)
mutual
theorem At.wo {p : Addr} {H : Hp} : ∀ {v : V} {d : PyData}, At (Mp p) H v d → At (Mp p) (wo H p) v d
  | _, _, .non => .non
  | _, _, .bl b => .bl b
  | _, _, .int i => .int i
  | _, _, .str x h => .str x h
  | _, _, .lst n h r => .lst n (by rw [wo_ne n]; exact h) (Ats.wo r)
  | _, _, .tup n h r => .tup n (by rw [wo_ne n]; exact h) (Ats.wo r)
theorem Ats.wo {p : Addr} {H : Hp} : ∀ {vs : List V} {ds : List PyData}, Ats (Mp p) H vs ds → Ats (Mp p) (wo H p) vs ds
  | _, _, .nil => .nil
  | _, _, .cons h r => .cons (At.wo h) (Ats.wo r)
end
theorem pl_ex {H H' : Hp} {p : Addr} {L : Pool} (h : PlAt H p L) (e : Ex H H') : PlAt H' p L := e _ _ h
theorem pl_trk {H : Hp} {p : Addr} {L : Pool} (h : PlAt H p L) : Trk (Mp p) H := fun a e => ⟨plO L, by
  have e' : a = p := e
  rw [e']
  exact h⟩
section
variable {K : PySem.W.Frag} {σ : L2.St} {G H : Hp} {p : Addr} {te ta tb : TE} {tt tu : TT} {v : V} {L : Pool}
def EvK (p : Addr) (te : TE) (σ : L2.St) (G : Hp) (P : V → Hp → Prop) : Prop := ∀ H1 L, Ex G H1 → PlAt H1 p L → ∀ Q : VK, (∀ v H2 L', KeepP p H1 H2 → PlAt H2 p L' → P v H2 → Q v H2) → te σ H1 Q
def EtK (p : Addr) (tt : TT) (σ : L2.St) (G : Hp) : Prop := ∀ H1 L, Ex G H1 → PlAt H1 p L → ∀ Q : Bool → Hp → Prop, (∀ b H2 L', KeepP p H1 H2 → PlAt H2 p L' → Q b H2) → tt σ H1 Q
theorem ek_of (h : Ev te σ G v) : EvK p te σ G (fun x _ => x = v) := fun H1 L e hp Q q => h H1 e Q fun H2 e2 => q v H2 L (.of e2) (pl_ex hp e2) rfl
theorem ek_imp {P P' : V → Hp → Prop} (h : EvK p te σ G P) (i : ∀ v H, P v H → P' v H) : EvK p te σ G P' := fun H1 L e hp Q q => h H1 L e hp Q fun v H2 L' k hp2 z => q v H2 L' k hp2 (i v H2 z)
/-- a drawn number -/
abbrev Drawn (m : Int) : V → Hp → Prop := fun v _ => ∃ n : Int, v = .int n ∧ 0 ≤ n ∧ n < m
theorem ek_draw {i : Nat} {m : Int} (hi : σ[i]? = some (some (.ref p))) (hm : Ev te σ G (.int m)) (h0 : 0 < m) (h1 : m < 1073741824) : EvK p (tCall spDraw [] E0 (tCons (tVar i) (tCons te tNil))) σ G (Drawn m) := fun H1 L e hp Q q =>
  ⟨_, hi, hm H1 e _ fun H2 e2 => ⟨p, L, m, rfl, pl_ex hp e2, h0, h1, fun H3 k hp3 => q _ H3 _ ((Keep.of e2).trans k) hp3 ⟨_, rfl, L.draw_lo h0, L.draw_hi h0⟩⟩⟩
/-- an operator on a drawn thing and a plain one -/
theorem ek_opL {r : R2} {P : V → Hp → Prop} {P' : V → Hp → Prop} {y : V} (hG : G p = none) (ha : EvK p ta σ G P) (hb : Ev tb σ G y) (hr : ∀ x H1 L, Ex G H1 → PlAt H1 p L → P x H1 → ∀ H2, Ex H1 H2 → ∃ z, P' z H2 ∧ RV r x y H2 z)
    (hP : ∀ z H1 H2, P' z H1 → Ex H1 H2 → P' z H2) : EvK p (tOp r ta tb) σ G P' := fun H1 L e hp Q q =>
  ha H1 L e hp _ fun x H2 L2 k2 hp2 px => hb H2 (ex_keep hG e k2) _ fun H3 e3 => by
    obtain ⟨z, hz, hv⟩ := hr x H2 L2 (ex_keep hG e k2) hp2 px H3 e3
    exact hv H3 (Ex.refl _) Q fun H4 e4 => q z H4 L2 (k2.trans (.of (e3.trans e4))) (pl_ex hp2 (e3.trans e4)) (hP z H3 H4 hz e4)
/-- draw(..) == c -/
theorem ek_eq {m c : Int} (hG : G p = none) (ha : EvK p ta σ G (Drawn m)) : EvK p (tOp (rEqA K) ta (tC (.int c))) σ G (fun v _ => ∃ b, v = .bl b) :=
  ek_opL hG ha ev_c (fun x H1 L e hp ⟨n, hn, _⟩ H2 e2 => ⟨.bl (decide (V.int n = .int c)), ⟨_, rfl⟩, by rw [hn]; exact rv_eqS rfl⟩) fun _ _ _ h _ => h
theorem tk_test (h : EvK p te σ G (fun v _ => ∃ b, v = .bl b)) : EtK p (tTest te) σ G := fun H1 L e hp Q q => h H1 L e hp _ fun v H2 L' k hp2 ⟨b, hb⟩ => ⟨b, hb, q b H2 L' k hp2⟩
theorem ek_if {P : V → Hp → Prop} (hG : G p = none) (ht : EtK p tt σ G) (ha : EvK p ta σ G P) (hb : EvK p tb σ G P) : EvK p (tIf tt ta tb) σ G P := fun H1 L e hp Q q =>
  ht H1 L e hp _ fun b H2 L2 k2 hp2 => by
    have e2 := ex_keep hG e k2
    cases b with
    | true => exact ha H2 L2 e2 hp2 Q fun v H3 L3 k3 hp3 z => q v H3 L3 (k2.trans k3) hp3 z
    | false => exact hb H2 L2 e2 hp2 Q fun v H3 L3 k3 hp3 z => q v H3 L3 (k2.trans k3) hp3 z
/-- xs[draw(..)] -/
theorem ek_ix {i : Nat} {a : Addr} {xs : List V} {m : Int} (hG : G p = none) (hi : σ[i]? = some (some (.ref a))) (hx : SqL K G a xs) (hm : m = xs.length) (hd : EvK p tb σ G (Drawn m)) :
    EvK p (tOp (rIx K) (tVar i) tb) σ G (fun v _ => v ∈ xs) := fun H1 L e hp Q q =>
  ⟨_, hi, hd H1 L e hp _ fun y H2 L2 k2 hp2 ⟨n, hn, h0, h1⟩ => by
    subst hn
    have hl : n.toNat < xs.length := by omega
    refine rv_xL (v := xs[n.toNat]) (ex_l (ex_keep hG e k2) hx) ?_ H2 (Ex.refl _) Q fun H3 e3 => q _ H3 L2 (k2.trans (.of e3)) (pl_ex hp2 e3) (List.getElem_mem hl)
    have z := at_nat (List.getElem?_eq_getElem hl)
    rw [Int.toNat_of_nonneg h0] at z
    exact z⟩
/-- a text's sign at a drawn place -/
theorem ek_ixS {z : Str} {m : Int} (hG : G p = none) (ha : Ev ta σ G (.str z)) (hz : z.length ≤ 100000) (hm : m = z.length) (hd : EvK p tb σ G (Drawn m)) :
    EvK p (tOp (rIx K) ta tb) σ G (fun v _ => ∃ c ∈ z.cps.toList, v = .str ⟨#[c]⟩) := fun H1 L e hp Q q =>
  ha H1 e _ fun H2 e2 => hd H2 L (e.trans e2) (pl_ex hp e2) _ fun y H3 L3 k3 hp3 ⟨n, hn, h0, h1⟩ => by
    subst hn
    have hl : n.toNat < z.cps.toList.length := by
      have : z.cps.toList.length = z.length := by simp [Str.length]
      omega
    refine rv_xS (c := z.cps.toList[n.toNat]) hz ?_ H3 (Ex.refl _) Q fun H4 e4 => q _ H4 L3 (((Keep.of e2).trans k3).trans (.of e4)) (pl_ex hp3 e4) ⟨_, List.getElem_mem hl, rfl⟩
    have z := at_nat (List.getElem?_eq_getElem hl)
    rw [Int.toNat_of_nonneg h0] at z
    exact z
/-! ### statements -/
variable {D : Ends} {tz tc : TS}
theorem k_asg {P : V → Hp → Prop} {i : Nat} (h : EvK p te σ G P) (e : Ex G H) (hp : PlAt H p L) (k : ∀ v H2 L', KeepP p H H2 → PlAt H2 p L' → P v H2 → tz D (σ.set i (some v)) H2) : tSeq (tAsg te (gName i)) tz D σ H := h H L e hp _ k
theorem k_ret {P : V → Hp → Prop} (h : EvK p te σ G P) (e : Ex G H) (hp : PlAt H p L) (k : ∀ v H2 L', KeepP p H H2 → PlAt H2 p L' → P v H2 → D.rt v H2) : tRet te D σ H := h H L e hp _ k
theorem k_if (h : EtK p tt σ G) (e : Ex G H) (hp : PlAt H p L) (k1 : ∀ H2 L', KeepP p H H2 → PlAt H2 p L' → tc { D with nx := tz D } σ H2) (k2 : ∀ H2 L', KeepP p H H2 → PlAt H2 p L' → tz D σ H2) : tSeq (tIfS tt tc tNext) tz D σ H := h H L e hp _ fun b H2 L' k hp2 => by
  cases b with
  | true => exact k1 H2 L' k hp2
  | false => exact k2 H2 L' k hp2
/-- [e for i in range(n)], e drawn: what is made, by a word of each item -/
theorem ek_lc {j : Nat} {vs : List Nat} {n : Int} {P : V → Prop} (hG : G p = none) (hn : Ev tb σ G (.int n)) (h0 : 0 ≤ n) (h1 : n ≤ 40000) (hw : ∀ x, wipe ((wipe σ vs).set j (some x)) vs = wipe σ vs)
    (he : ∀ i : Nat, EvK p te ((wipe σ vs).set j (some (.int (i : Int)))) G (fun v _ => P v)) :
    EvK p (tLc (iRng1 (tCons tb tNil)) (gName j) tYes te vs) σ G (fun v H2 => ∃ (a : Addr) (xs : List V), v = .ref a ∧ a ≠ p ∧ H2 a = some (.lst xs) ∧ xs.length = n.toNat ∧ ∀ x ∈ xs, P x) := fun H1 L e hp Q q =>
  hn H1 e _ fun H2 e2 => ⟨n, rfl, by omega, by omega, fun Dl hD => by
    have hp2 := pl_ex hp e2
    have e12 := e.trans e2
    have hDp : Dl ≠ p := fun z => by
      rw [z, show H2 p = _ from hp2] at hD
      cases hD
    refine lc_it (w := walk_range (lo := 0) (n := n.toNat)) (fun i H' => ∃ L' xs, KeepP p H2 H' ∧ PlAt H' p L' ∧ H' Dl = some (.lst xs) ∧ xs.length = i ∧ ∀ x ∈ xs, P x)
      ⟨L, [], (Keep.refl _ _).own hD, by unfold PlAt; rw [upd_ne hDp.symm]; exact hp2, upd_same, rfl, by simp⟩ (fun _ _ _ _ => trivial) (fun i x Ha Hb hi pv y => ?_) (fun H' pv => ?_)
    · obtain ⟨L', xs, k, hpa, hl, hlen, hP⟩ := pv
      obtain ⟨rfl, rfl⟩ := y
      refine ⟨hw _, ?_⟩
      show te ((wipe σ vs).set j (some (.int ((0 : Int) + (i : Int))))) Hb _
      rw [show (0 : Int) + (i : Int) = (i : Int) from Int.zero_add _]
      refine he i Hb L' (ex_keep hG e12 k) hpa _ fun v Hc L2 k2 hpc hv => ⟨xs, k2 _ _ hDp hl, sz_lt (by omega), L2, xs ++ [v], (k.trans k2).own hD, ?_, upd_same, by simp [hlen], fun x hx => ?_⟩
      · unfold PlAt
        rw [upd_ne hDp.symm]
        exact hpc
      · rcases List.mem_append.mp hx with hx | hx
        · exact hP x hx
        · rw [List.mem_singleton.mp hx]
          exact hv
    · obtain ⟨L', xs, k, hpa, hl, hlen, hP⟩ := pv
      exact q _ H' L' ((Keep.of e2).trans k) hpa ⟨Dl, xs, rfl, hDp, hl, hlen, hP⟩⟩
theorem joinL_signs : ∀ cs : List Nat, joinL [] (cs.map fun c => [c]) = cs
  | [] => rfl
  | [c] => rfl
  | c :: d :: r => by
    show [c] ++ ([] ++ joinL [] ((d :: r).map fun c => [c])) = c :: d :: r
    rw [joinL_signs (d :: r)]
    rfl
theorem str_ext {a b : Str} (h : a.cps.toList = b.cps.toList) : a = b := by
  obtain ⟨⟨l⟩⟩ := a
  obtain ⟨⟨m⟩⟩ := b
  have h' : l = m := h
  rw [h']
theorem join_signs (cs : List Nat) : Txt.join Str.empty (cs.map fun c => (⟨#[c]⟩ : Str)) = ⟨cs.toArray⟩ := by
  refine str_ext ?_
  rw [join_eq]
  have h := tl_join Str.empty (cs.map fun c => (⟨#[c]⟩ : Str))
  rw [List.map_map] at h
  exact h.trans (joinL_signs cs)
theorem signs_of {S : List Nat} : ∀ {xs : List V}, (∀ x ∈ xs, ∃ c ∈ S, x = V.str ⟨#[c]⟩) → ∃ cs : List Nat, xs = (cs.map fun c => (⟨#[c]⟩ : Str)).map V.str ∧ cs.length = xs.length ∧ ∀ c ∈ cs, c ∈ S
  | [], _ => ⟨[], rfl, rfl, by simp⟩
  | x :: xs, h => by
    obtain ⟨c, hc, rfl⟩ := h x (by simp)
    obtain ⟨cs, e, l, hS⟩ := signs_of (xs := xs) fun y hy => h y (by simp [hy])
    exact ⟨c :: cs, by rw [e]; rfl, by simp [l], fun d hd => (List.mem_cons.mp hd).elim (fun z => z ▸ hc) (hS d)⟩
/-- "".join of a made list of signs -/
theorem ek_join {n : Nat} {S : List Nat} (hz : n ≤ 10000) (h : EvK p te σ G (fun v H2 => ∃ (a : Addr) (xs : List V), v = .ref a ∧ a ≠ p ∧ H2 a = some (.lst xs) ∧ xs.length = n ∧ ∀ x ∈ xs, ∃ c ∈ S, x = V.str ⟨#[c]⟩)) :
    EvK p (tM1 (rJoin K) (tC (.str Str.empty)) te) σ G (fun v _ => ∃ cs : List Nat, v = .str ⟨cs.toArray⟩ ∧ cs.length = n ∧ ∀ c ∈ cs, c ∈ S) := fun H1 L e hp Q q =>
  ⟨⟨_, rfl⟩, h H1 L e hp _ fun v H2 L2 k2 hp2 ⟨a, xs, hv, _, hl, hn, hx⟩ => by
    subst hv
    obtain ⟨cs, rfl, hcl, hS⟩ := signs_of hx
    refine ⟨Str.empty, a, cs.map fun c => (⟨#[c]⟩ : Str), rfl, rfl, .inl (.of hl), ?_, ?_⟩
    · have e1 : ((cs.map fun c => (⟨#[c]⟩ : Str)).map (·.length)).sum = cs.length := by
        rw [List.map_map]
        have : ∀ l : List Nat, (l.map ((fun z : Str => z.length) ∘ fun c => (⟨#[c]⟩ : Str))).sum = l.length := fun l => by
          induction l with
          | nil => rfl
          | cons c l ih =>
            rw [List.map_cons, List.sum_cons, ih, List.length_cons]
            show 1 + l.length = _
            omega
        exact this cs
      rw [e1, List.length_map]
      have e2 : Str.empty.length = 0 := rfl
      rw [e2]
      have := hcl.trans hn
      omega
    · rw [join_signs]
      exact q _ H2 L2 k2 hp2 ⟨cs, rfl, hcl.trans hn, hS⟩⟩
end
end LK
set_option Elab.async false
set_option linter.all false
set_option maxRecDepth 100000
set_option maxHeartbeats 4000000
/-! Data that is made: literals, comprehensions, sums; tests and data where a pool is drawn from. -/
namespace LK
open PySem PySem.Spec PyProof.Rows L2 Evl TL
abbrev EvD (M : Addr → Prop) (te : TE) (σ : L2.St) (H : Hp) (d : PyData) : Prop := LK.EvO M te σ H (some d)
abbrev EvDs (M : Addr → Prop) (ta : TA) (σ : L2.St) (H : Hp) (ds : List PyData) : Prop := LK.EvOs M ta σ H (some ds)
section
variable {K : PySem.W.Frag} {σ : L2.St} {H : Hp} {te ta tb tl : TE} {tr : TA} {M : Addr → Prop} {v : V} {d : PyData} {ds es : List PyData} {D : Ends} {tz : TS}
theorem ed_non : EvD M (tC .non) σ H .none := eo_of ev_c .non
theorem ed_bl {b : Bool} : EvD M (tC (.bl b)) σ H (.bool b) := eo_of ev_c (.bl b)
theorem ed_int {i : Int} : EvD M (tC (.int i)) σ H (.int i) := eo_of ev_c (.int i)
theorem ed_str {s : Str} (h : s.length ≤ 100000 := by decide) : EvD M (tC (.str s)) σ H (.str s) := eo_of ev_c (.str s h)
theorem ed_num {i : Int} (h : Ev te σ H (.int i)) : EvD M te σ H (.int i) := eo_of h (.int i)
theorem ed_var {i : Nat} (h : σ[i]? = some (some v)) (a : At M H v d) : EvD M (tVar i) σ H d := eo_of (ev_var h) a
theorem eds_nil : EvDs M tNil σ H [] := es_nil
theorem eds_cons (h : EvD M te σ H d) (hr : EvDs M tr σ H ds) : EvDs M (tCons te tr) σ H (d :: ds) := es_cons h hr
theorem ed_tup (h : EvDs M tr σ H ds) (hM : Trk M H) (hz : ds.length ≤ 100000 := by decide) : EvD M (tTup tr) σ H (.tuple ds) := eo_tup h hM fun ds' e => by
  cases e
  exact hz
theorem ed_lst (h : EvDs M tr σ H ds) (hM : Trk M H) (hz : ds.length ≤ 100000 := by decide) : EvD M (tLst tr) σ H (.list ds) := eo_lst h hM fun ds' e => by
  cases e
  exact hz
theorem ed_is {e : PyData} (h : EvD M te σ H d) (q : d = e) : EvD M te σ H e := q ▸ h
theorem d_ret (h : EvD M te σ H d) (k : ∀ v H1, Ex H H1 → At M H1 v d → D.rt v H1) : tRet te D σ H := o_ret h fun d' v H1 e e1 a => by
  cases e
  exact k v H1 e1 a
theorem d_asg {i : Nat} (h : EvD M te σ H d) (k : ∀ v H1, Ex H H1 → At M H1 v d → tz D (σ.set i (some v)) H1) : tSeq (tAsg te (gName i)) tz D σ H := o_asg h fun d' v H1 e e1 a => by
  cases e
  exact k v H1 e1 a
theorem d_sasg {i : Nat} (h : EvD M te σ H d) (k : ∀ v H1, Ex H H1 → At M H1 v d → D.nx (σ.set i (some v)) H1) : tAsg te (gName i) D σ H := h H (Ex.refl H) _ fun d' v H1 e e1 a => by
  cases e
  exact k v H1 e1 a
theorem ed_to {P : VK} (h : EvD M te σ H d) (k : ∀ v H1, Ex H H1 → At M H1 v d → P v H1) : te σ H P := h H (Ex.refl H) P fun d' v H1 e e1 a => by
  cases e
  exact k v H1 e1 a
theorem At.lst_inv {a : V} {ds : List PyData} (h : At M H a (.list ds)) : ∃ p xs, a = .ref p ∧ ¬ M p ∧ H p = some (.lst xs) ∧ Ats M H xs ds := by
  cases h with
  | lst n h r => exact ⟨_, _, rfl, n, h, r⟩
theorem At.tup_inv {a : V} {ds : List PyData} (h : At M H a (.tuple ds)) : ∃ p xs, a = .ref p ∧ ¬ M p ∧ H p = some (.tup xs) ∧ Ats M H xs ds := by
  cases h with
  | tup n h r => exact ⟨_, _, rfl, n, h, r⟩
/-- tuple(a list) -/
theorem ed_tupOf (h : EvD M te σ H (.list ds)) (hM : Trk M H) : EvD M (tCB (rTupOf K) (tCons te tNil)) σ H (.tuple ds) := fun H1 e Q q =>
  h H1 e _ fun d' v H2 hd e2 a => by
    cases hd
    obtain ⟨p, xs, rfl, np, hp, r⟩ := a.lst_inv
    exact ⟨p, xs, rfl, .inl ⟨.of hp, fun l hl => q _ (.ref l) _ rfl (e2.trans (Ex.new hl)) (.tup (Trk.fresh (hM.same (e.trans e2)) hl) upd_same (r.ex (Ex.new hl)))⟩⟩
/-- list + list -/
theorem ed_cat (ha : EvD M ta σ H (.list ds)) (hb : EvD M tb σ H (.list es)) (hM : Trk M H) (hz : ds.length + es.length ≤ 100000) : EvD M (tOp (rAddA K) ta tb) σ H (.list (ds ++ es)) := fun H1 e Q q =>
  ha H1 e _ fun d' x H2 hd e2 a => by
    cases hd
    refine hb H2 (e.trans e2) _ fun d' y H3 hd e3 b => ?_
    cases hd
    obtain ⟨p, xs, rfl, np, hp, r⟩ := (a.ex e3).lst_inv
    obtain ⟨p', ys, rfl, np', hp', r'⟩ := b.lst_inv
    exact .inr (.inr (.inl ⟨p, p', xs, ys, rfl, rfl, hp, hp', sz_of (by rw [r.len, r'.len]; exact hz), fun l hl => q _ (.ref l) _ rfl ((e2.trans e3).trans (Ex.new hl))
      (.lst (Trk.fresh (hM.same ((e.trans e2).trans e3)) hl) upd_same ((r.ex (Ex.new hl)).append (r'.ex (Ex.new hl))))⟩))
/-- [e for x in a list of data] -/
theorem ed_lc {j : Nat} {vs : List Nat} (f : PyData → PyData) (h : EvD M tl σ H (.list ds)) (hM : Trk M H) (hz : ds.length ≤ 40000) (hw : ∀ x, wipe ((wipe σ vs).set j (some x)) vs = wipe σ vs)
    (he : ∀ (M' : Addr → Prop) (x : V) (d : PyData) H1, Ex H H1 → d ∈ ds → Trk M' H1 → At M' H1 x d → EvD M' te ((wipe σ vs).set j (some x)) H1 (f d)) : EvD M (tLc (iList K tl) (gName j) tYes te vs) σ H (.list (ds.map f)) := fun H0 e Q q =>
  h H0 e _ fun d' v H1 hd e1 a => by
    cases hd
    obtain ⟨p, xs, rfl, np, hp, r⟩ := a.lst_inv
    refine ⟨p, rfl, ⟨xs, .of hp⟩, fun Dl hD => ?_⟩
    have rD := r.add hD
    refine lc_it walk_list (fun i H' => Ex H1 H' ∧ ∃ ws, H' Dl = some (.lst ws) ∧ Ats (And1 M Dl) H' ws ((ds.take i).map f)) ⟨Ex.new hD, [], upd_same, .nil⟩ (fun i H' _ pv => .of (pv.1 _ _ hp)) (fun i x Ha Hb hi pv y => ?_) (fun H' pv => ?_)
    · obtain ⟨e3, ws, hws, aws⟩ := pv
      obtain ⟨rfl, hx⟩ := y
      obtain ⟨di, hdi, ai⟩ := rD.get hx
      refine ⟨hw _, ?_⟩
      show te _ Hb _
      refine he (And1 M Dl) x di Hb ((e.trans e1).trans e3) (List.mem_of_getElem? hdi) ((hM.same ((e.trans e1).trans e3)).add hws) (ai.ex e3) Hb (Ex.refl _) _ fun d' y H4 hd e4 ay => ⟨ws, e4 _ _ hws, sz_lt ?_, Ex.mut (e3.trans e4) hD, ws ++ [y], upd_same, ?_⟩
      · rw [aws.len, List.length_map, List.length_take]
        omega
      · cases hd
        have kp : Keep (And1 M Dl) H4 (upd H4 Dl (.lst (ws ++ [y]))) := (Keep.refl _ _).put (.inr rfl)
        rw [List.take_add_one, hdi, Option.toList_some, List.map_append]
        exact ((aws.ex e4).keep kp).append (.one (ay.keep kp))
    · obtain ⟨e3, ws, hws, aws⟩ := pv
      rw [r.len, List.take_length] at aws
      exact q _ (.ref Dl) H' rfl (e1.trans e3) (.lst (Trk.fresh (hM.same (e.trans e1)) hD) hws (aws.weak fun _ z => .inl z))
/-! ### where a pool is drawn from -/
variable {G : Hp} {p : Addr} {L : Pool} {tt tu : TT} {tc : TS}
abbrev EvP (p : Addr) (te : TE) (σ : L2.St) (G : Hp) (v : V) : Prop := EvK p te σ G fun x _ => x = v
def EtP (p : Addr) (tt : TT) (σ : L2.St) (G : Hp) (b : Bool) : Prop := ∀ H1 L, Ex G H1 → PlAt H1 p L → ∀ Q : Bool → Hp → Prop, (∀ H2 L', KeepP p H1 H2 → PlAt H2 p L' → Q b H2) → tt σ H1 Q
theorem tp_test {b : Bool} (h : EvP p te σ G (.bl b)) : EtP p (tTest te) σ G b := fun H1 L e hp Q q => h H1 L e hp _ fun v H2 L' k hp2 z => ⟨b, z, q H2 L' k hp2⟩
theorem tp_of {b : Bool} (h : EvT tt σ G b) : EtP p tt σ G b := fun H1 L e hp Q q => h H1 e Q fun H2 e2 => q H2 L (.of e2) (pl_ex hp e2)
theorem tp_tru {b : Bool} (h : EvP p te σ G (.bl b)) : EtP p (tTr K te) σ G b := fun H1 L e hp Q q => h H1 L e hp _ fun v H2 L' k hp2 z => ⟨b, by rw [z]; rfl, q H2 L' k hp2⟩
theorem tp_not {b : Bool} (h : EtP p tt σ G b) : EtP p (tNot tt) σ G (!b) := fun H1 L e hp Q q => h H1 L e hp _ q
theorem tp_or {a b : Bool} (hG : G p = none) (h : EtP p tt σ G a) (h2 : a = false → EtP p tu σ G b) : EtP p (tOr tt tu) σ G (a || b) := fun H1 L e hp Q q => h H1 L e hp _ fun H2 L2 k2 hp2 => by
  cases a with
  | true => exact q H2 L2 k2 hp2
  | false => exact h2 rfl H2 L2 (ex_keep hG e k2) hp2 Q fun H3 L3 k3 hp3 => q H3 L3 (k2.trans k3) hp3
theorem tp_and {a b : Bool} (hG : G p = none) (h : EtP p tt σ G a) (h2 : a = true → EtP p tu σ G b) : EtP p (tAnd tt tu) σ G (a && b) := fun H1 L e hp Q q => h H1 L e hp _ fun H2 L2 k2 hp2 => by
  cases a with
  | false => exact q H2 L2 k2 hp2
  | true => exact h2 rfl H2 L2 (ex_keep hG e k2) hp2 Q fun H3 L3 k3 hp3 => q H3 L3 (k2.trans k3) hp3
/-- a test told beforehand -/
theorem p_when {b : Bool} (h : EtP p tt σ G b) (e : Ex G H) (hp : PlAt H p L) (k1 : b = true → ∀ H2 L', KeepP p H H2 → PlAt H2 p L' → tc { D with nx := tz D } σ H2) (k2 : b = false → ∀ H2 L', KeepP p H H2 → PlAt H2 p L' → tz D σ H2) : tSeq (tIfS tt tc tNext) tz D σ H := h H L e hp _ fun H2 L' k hp2 => by
  cases b with
  | true => exact k1 rfl H2 L' k hp2
  | false => exact k2 rfl H2 L' k hp2
/-- data, the pool drawn from on the way -/
abbrev EvKD (p : Addr) (te : TE) (σ : L2.St) (G : Hp) (P : PyData → Prop) : Prop := EvK p te σ G fun v H2 => ∃ d, P d ∧ At (Mp p) H2 v d
theorem At.keepP {H2 : Hp} (k : KeepP p H H2) (a : At (Mp p) H v d) : At (Mp p) H2 v d := a.keep k
/-- one more call around what was drawn -/
theorem ek_call1 {sp : Sp} {dvs : List V} {E : XK} {P P' : V → Hp → Prop} (hG : G p = none) (h : EvK p te σ G P) (hs : ∀ v H1 L, Ex G H1 → PlAt H1 p L → P v H1 → ∀ Q : VK, (∀ v' H2 L', KeepP p H1 H2 → PlAt H2 p L' → P' v' H2 → Q v' H2) → sp (v :: dvs) H1 Q E) :
    EvK p (tCall sp dvs E (tCons te tNil)) σ G P' := fun H1 L e hp Q q =>
  h H1 L e hp _ fun v H2 L2 k2 hp2 pv => hs v H2 L2 (ex_keep hG e k2) hp2 pv Q fun v' H3 L3 k3 hp3 pv' => q v' H3 L3 (k2.trans k3) hp3 pv'
end
end LK
set_option Elab.async false
set_option linter.all false
set_option maxRecDepth 100000
set_option maxHeartbeats 4000000
/-! More where a pool is drawn from. -/
namespace LK
open PySem PySem.Spec PyProof.Rows L2 Evl TL
section
variable {K : PySem.W.Frag} {σ : L2.St} {G H : Hp} {p : Addr} {te ta tb : TE} {tt tu : TT} {v x : V} {L : Pool} {d : PyData} {M : Addr → Prop} {D : Ends} {tz tc : TS}
theorem Ats.mem {xs : List V} {ds : List PyData} (r : Ats M H xs ds) (h : v ∈ xs) : ∃ d ∈ ds, At M H v d := by
  obtain ⟨i, hi, e⟩ := List.getElem_of_mem h
  obtain ⟨d, hd, a⟩ := r.get (i := i) (x := v) (by rw [← e]; exact List.getElem?_eq_getElem hi)
  exact ⟨d, List.mem_of_getElem? hd, a⟩
theorem ek_ex {P : V → Hp → Prop} (hG : G p = none) (h : EvK p te σ G P) : EvK p te σ G fun v H => P v H ∧ Ex G H := fun H1 L e hp Q q => h H1 L e hp Q fun v H2 L2 k2 hp2 z => q v H2 L2 k2 hp2 ⟨z, ex_keep hG e k2⟩
/-- a plain operand, then a drawn one -/
theorem ek_opR {r : R2} {P P' : V → Hp → Prop} (hG : G p = none) (ha : Ev ta σ G x) (hb : EvK p tb σ G P) (hr : ∀ y H2, Ex G H2 → P y H2 → ∃ z, (∀ H3, Ex H2 H3 → P' z H3) ∧ RV r x y H2 z) : EvK p (tOp r ta tb) σ G P' := fun H1 L e hp Q q =>
  ha H1 e _ fun H2 e2 => hb H2 L (e.trans e2) (pl_ex hp e2) _ fun y H3 L3 k3 hp3 py => by
    obtain ⟨z, hz, rv⟩ := hr y H3 (ex_keep hG (e.trans e2) k3) py
    exact rv H3 (Ex.refl _) Q fun H4 e4 => q z H4 L3 (((Keep.of e2).trans k3).trans (.of e4)) (pl_ex hp3 e4) (hz H4 e4)
theorem ek_add {i m : Int} (hG : G p = none) (ha : Ev ta σ G (.int i)) (hb : EvK p tb σ G (Drawn m)) : EvK p (tOp (rAddA K) ta tb) σ G fun v _ => ∃ n : Int, v = .int (i + n) ∧ 0 ≤ n ∧ n < m :=
  ek_opR hG ha hb fun y H2 e ⟨n, hn, h0, h1⟩ => ⟨.int (i + n), fun _ _ => ⟨n, rfl, h0, h1⟩, by rw [hn]; exact rv_addI⟩
/-- a new list's item at a drawn place -/
theorem ek_ixN {xs : List V} {m : Int} (hG : G p = none) (ha : EvL ta σ G xs) (hm : m = xs.length) (hd : EvK p tb σ G (Drawn m)) : EvK p (tOp (rIx K) ta tb) σ G (fun v _ => v ∈ xs) := fun H1 L e hp Q q =>
  ha H1 e _ fun a H2 na e2 ha2 => hd H2 L (e.trans e2) (pl_ex hp e2) _ fun y H3 L3 k3 hp3 ⟨n, hn, h0, h1⟩ => by
    subst hn
    have hl : n.toNat < xs.length := by omega
    have ne : a ≠ p := fun z => by
      rw [z, show H1 p = _ from hp] at na
      cases na
    refine rv_xL (v := xs[n.toNat]) (.of (k3 a _ ne ha2)) ?_ H3 (Ex.refl _) Q fun H4 e4 => q _ H4 L3 (((Keep.of e2).trans k3).trans (.of e4)) (pl_ex hp3 e4) (List.getElem_mem hl)
    have z := at_nat (List.getElem?_eq_getElem hl)
    rw [Int.toNat_of_nonneg h0] at z
    exact z
/-- [e for i in range(a drawn number)], e drawn -/
theorem ek_lcD {j : Nat} {vs : List Nat} {m : Int} {P : V → Prop} (hG : G p = none) (hn : EvK p tb σ G (Drawn m)) (h1 : m ≤ 40000) (hw : ∀ x, wipe ((wipe σ vs).set j (some x)) vs = wipe σ vs)
    (he : ∀ i : Nat, EvK p te ((wipe σ vs).set j (some (.int (i : Int)))) G (fun v _ => P v)) :
    EvK p (tLc (iRng1 (tCons tb tNil)) (gName j) tYes te vs) σ G (fun v H2 => ∃ (a : Addr) (xs : List V), v = .ref a ∧ a ≠ p ∧ H2 a = some (.lst xs) ∧ (xs.length : Int) < m ∧ ∀ x ∈ xs, P x) := fun H1 L e hp Q q =>
  hn H1 L e hp _ fun y H2 L2 k2 hp2 ⟨n, hn, h0, hm⟩ => ⟨n, by rw [hn], by omega, by omega, fun Dl hD => by
    have e12 := ex_keep hG e k2
    have hDp : Dl ≠ p := fun z => by
      rw [z, show H2 p = _ from hp2] at hD
      cases hD
    refine lc_it (w := walk_range (lo := 0) (n := n.toNat)) (fun i H' => ∃ L' xs, KeepP p H2 H' ∧ PlAt H' p L' ∧ H' Dl = some (.lst xs) ∧ xs.length = i ∧ ∀ x ∈ xs, P x)
      ⟨L2, [], (Keep.refl _ _).own hD, by unfold PlAt; rw [upd_ne hDp.symm]; exact hp2, upd_same, rfl, by simp⟩ (fun _ _ _ _ => trivial) (fun i x Ha Hb hi pv y => ?_) (fun H' pv => ?_)
    · obtain ⟨L', xs, k, hpa, hl, hlen, hP⟩ := pv
      obtain ⟨rfl, rfl⟩ := y
      refine ⟨hw _, ?_⟩
      show te ((wipe σ vs).set j (some (.int ((0 : Int) + (i : Int))))) Hb _
      rw [show (0 : Int) + (i : Int) = (i : Int) from Int.zero_add _]
      refine he i Hb L' (ex_keep hG e12 k) hpa _ fun v Hc L2 k2 hpc hv => ⟨xs, k2 _ _ hDp hl, sz_lt (by omega), L2, xs ++ [v], (k.trans k2).own hD, ?_, upd_same, by simp [hlen], fun x hx => ?_⟩
      · unfold PlAt
        rw [upd_ne hDp.symm]
        exact hpc
      · rcases List.mem_append.mp hx with hx | hx
        · exact hP x hx
        · rw [List.mem_singleton.mp hx]
          exact hv
    · obtain ⟨L', xs, k, hpa, hl, hlen, hP⟩ := pv
      exact q _ H' L' (k2.trans k) hpa ⟨Dl, xs, rfl, hDp, hl, by omega, hP⟩⟩
/-- "".join of a made list of signs -/
theorem ek_joinD {m : Int} {S : List Nat} (hz : m ≤ 10000) (h : EvK p te σ G (fun v H2 => ∃ (a : Addr) (xs : List V), v = .ref a ∧ a ≠ p ∧ H2 a = some (.lst xs) ∧ (xs.length : Int) < m ∧ ∀ x ∈ xs, ∃ c ∈ S, x = V.str ⟨#[c]⟩)) :
    EvK p (tM1 (rJoin K) (tC (.str Str.empty)) te) σ G (fun v _ => ∃ cs : List Nat, v = .str ⟨cs.toArray⟩ ∧ (cs.length : Int) < m ∧ ∀ c ∈ cs, c ∈ S) := fun H1 L e hp Q q =>
  ⟨⟨_, rfl⟩, h H1 L e hp _ fun v H2 L2 k2 hp2 ⟨a, xs, hv, hne, hl, hn, hx⟩ => by
    exact (ek_join (K := K) (p := p) (te := fun _ H Q => Q (.ref a) H) (σ := σ) (G := del H2 p) (n := xs.length) (S := S) (by omega) (fun H3 L3 e3 hp3 Q3 q3 => q3 _ H3 L3 (Keep.refl _ _) hp3 ⟨a, xs, rfl, hne, e3 _ _ (by rw [del_ne hne]; exact hl), rfl, hx⟩) H2 L2 wo_ex hp2 Q
      fun v' H4 L4 k4 hp4 ⟨cs, e1, e2, e3⟩ => q v' H4 L4 (k2.trans k4) hp4 ⟨cs, e1, by omega, e3⟩).2.elim fun a' z => by
        obtain ⟨b, ys, h1, h2, h3⟩ := z
        exact ⟨a', b, ys, h1, by rw [hv]; exact h2, h3⟩⟩
/-- a call whose one argument is made -/
theorem ev_call1 {sp : Sp} {dvs : List V} {E : XK} {z : V} (h : EvD M te σ H d) (hs : ∀ v H1, Ex H H1 → At M H1 v d → SpV sp (v :: dvs) H1 z) : Ev (tCall sp dvs E (tCons te tNil)) σ H z := fun H1 e Q q =>
  h H1 e _ fun d' v H2 hd e2 a => by
    cases hd
    exact hs v H2 (e.trans e2) a H2 (Ex.refl _) Q (fun H3 e3 => q H3 (e2.trans e3)) E
theorem s_forNLn {xs : List V} {tl : TE} {j : Nat} {tu : TS} (h : EvL tl σ H xs) (Pv : Addr → Nat → L2.St → Hp → Prop) (h0 : ∀ p H1, H p = none → Ex H H1 → H1 p = some (.lst xs) → Pv p 0 σ H1) (hl : ∀ p i σ' H', i ≤ xs.length → Pv p i σ' H' → SqL K H' p xs)
    (hs : ∀ p i x σ' H', xs[i]? = some x → Pv p i σ' H' → tu { D with nx := Pv p (i + 1), ct := Pv p (i + 1), bk := D.nx } (σ'.set j (some x)) H') (hd : ∀ p σ' H', Pv p xs.length σ' H' → D.nx σ' H') : tFor (iList K tl) (gName j) tu D σ H := s_forNL h Pv h0 hl hs hd
/-- a text's part -/
theorem ev_slS {tl th : TO} {z : Str} {lo hi : Option Int} (h : Ev te σ H (.str z)) (hz : z.length ≤ 100000) (h1 : Evl.EvO tl σ H lo) (h2 : Evl.EvO th σ H hi) :
    Ev (tSl (fun x lo hi H Q => rSlL K x lo hi H Q ∨ (rSlS x lo hi H Q ∨ rSlT K x lo hi H Q)) te tl th) σ H (.str (cutS z lo hi)) := fun H1 e Q q =>
  h H1 e _ fun H2 e2 => h1 H2 (e.trans e2) _ fun H3 e3 => h2 H3 ((e.trans e2).trans e3) _ fun H4 e4 => .inr (.inl ⟨z, rfl, sz_of hz, q H4 ((e2.trans e3).trans e4)⟩)
end
end LK
set_option Elab.async false
set_option linter.all false
set_option maxRecDepth 100000
set_option maxHeartbeats 4000000
/-! The text by places. -/
namespace K1
open PySem PySem.Spec PyProof.Rows L2 LK
def top (i : Nat) : Stmt := PySem.Challenge.pw_listasks_k01_kinds_and_values_let_by_or.main.body.getD i (.Pass ⟨0, 0, 0, 0⟩)
abbrev s_BadKind___init__ : Stmt := inClass (top 2) 0
def N_BadKind___init__ : List Str := ["self"]
theorem sc_BadKind___init__ : FnScope N_BadKind___init__ ["self"] (defScope s_BadKind___init__) := ⟨rfl, rfl, rfl, by decide +kernel, rfl, by decide +kernel, by decide +kernel⟩
abbrev s_is_name : Stmt := top 8
def N_is_name : List Str := ["thing", "sign"]
theorem sc_is_name : FnScope N_is_name ["thing"] (defScope s_is_name) := ⟨rfl, rfl, rfl, by decide +kernel, rfl, by decide +kernel, by decide +kernel⟩
abbrev s_is_whole : Stmt := top 9
def N_is_whole : List Str := ["thing"]
theorem sc_is_whole : FnScope N_is_whole ["thing"] (defScope s_is_whole) := ⟨rfl, rfl, rfl, by decide +kernel, rfl, by decide +kernel, by decide +kernel⟩
abbrev s_is_row : Stmt := top 10
def N_is_row : List Str := ["thing", "size"]
theorem sc_is_row : FnScope N_is_row ["thing", "size"] (defScope s_is_row) := ⟨rfl, rfl, rfl, by decide +kernel, rfl, by decide +kernel, by decide +kernel⟩
abbrev s_check_couples : Stmt := top 11
def N_check_couples : List Str := ["couples", "deep", "out", "couple"]
theorem sc_check_couples : FnScope N_check_couples ["couples", "deep"] (defScope s_check_couples) := ⟨rfl, rfl, rfl, by decide +kernel, rfl, by decide +kernel, by decide +kernel⟩
abbrev s_checked_kind : Stmt := top 12
def N_checked_kind : List Str := ["kind", "deep", "word"]
theorem sc_checked_kind : FnScope N_checked_kind ["kind", "deep"] (defScope s_checked_kind) := ⟨rfl, rfl, rfl, by decide +kernel, rfl, by decide +kernel, by decide +kernel⟩
abbrev s_check_kind : Stmt := top 13
def N_check_kind : List Str := ["kind"]
theorem sc_check_kind : FnScope N_check_kind ["kind"] (defScope s_check_kind) := ⟨rfl, rfl, rfl, by decide +kernel, rfl, by decide +kernel, by decide +kernel⟩
abbrev s_fits_base : Stmt := top 14
def N_fits_base : List Str := ["value", "kind", "sign"]
theorem sc_fits_base : FnScope N_fits_base ["value", "kind"] (defScope s_fits_base) := ⟨rfl, rfl, rfl, by decide +kernel, rfl, by decide +kernel, by decide +kernel⟩
abbrev s__law_pool : Stmt := top 16
def N__law_pool : List Str := ["_law_script", "_law_at", "_law_cell", "_law_size", "_law_start"]
theorem sc__law_pool : FnScope N__law_pool ["_law_script", "_law_at"] (defScope s__law_pool) := ⟨rfl, rfl, rfl, by decide +kernel, rfl, by decide +kernel, by decide +kernel⟩
abbrev s__law_draw : Stmt := top 17
def N__law_draw : List Str := ["_law_pool_here", "_law_many", "_law_drawn"]
theorem sc__law_draw : FnScope N__law_draw ["_law_pool_here", "_law_many"] (defScope s__law_draw) := ⟨rfl, rfl, rfl, by decide +kernel, rfl, by decide +kernel, by decide +kernel⟩
abbrev s__law_exact : Stmt := top 18
def N__law_exact : List Str := ["_law_told", "_law_due", "_law_k"]
theorem sc__law_exact : FnScope N__law_exact ["_law_told", "_law_due"] (defScope s__law_exact) := ⟨rfl, rfl, rfl, by decide +kernel, rfl, by decide +kernel, by decide +kernel⟩
abbrev s__law_base_value : Stmt := top 19
def N__law_base_value : List Str := ["_law_pool_here", "_law_kind", "_law_drawn", "_law_size", "_law_signs", "_law_k"]
theorem sc__law_base_value : FnScope N__law_base_value ["_law_pool_here", "_law_kind"] (defScope s__law_base_value) := ⟨rfl, rfl, rfl, by decide +kernel, rfl, by decide +kernel, by decide +kernel⟩
abbrev s__law_bad_kinds : Stmt := top 20
def N__law_bad_kinds : List Str := ["_law_six", "_law_label"]
theorem sc__law_bad_kinds : FnScope N__law_bad_kinds [] (defScope s__law_bad_kinds) := ⟨rfl, rfl, rfl, by decide +kernel, rfl, by decide +kernel, by decide +kernel⟩
abbrev s__law_good_kinds : Stmt := top 21
def N__law_good_kinds : List Str := ["_law_five", "_law_flat", "_law_deeper", "_law_label"]
theorem sc__law_good_kinds : FnScope N__law_good_kinds [] (defScope s__law_good_kinds) := ⟨rfl, rfl, rfl, by decide +kernel, rfl, by decide +kernel, by decide +kernel⟩
abbrev s__law_around : Stmt := top 22
def N__law_around : List Str := ["_law_pool_here", "_law_kind", "_law_turns", "_law_out", "_law_k", "_law_way"]
theorem sc__law_around : FnScope N__law_around ["_law_pool_here", "_law_kind", "_law_turns"] (defScope s__law_around) := ⟨rfl, rfl, rfl, by decide +kernel, rfl, by decide +kernel, by decide +kernel⟩
abbrev s__law_let_by : Stmt := top 23
def N__law_let_by : List Str := ["_law_kind", "e"]
theorem sc__law_let_by : FnScope N__law_let_by ["_law_kind"] (defScope s__law_let_by) := ⟨rfl, rfl, rfl, by decide +kernel, rfl, by decide +kernel, by decide +kernel⟩
abbrev s_law : Stmt := top 24
def N_law : List Str := ["_law_script", "_law_pool_here", "_law_flat", "_law_deeper", "_law_turns", "_law_good", "_law_bad", "_law_inner", "_law_name", "_law_due", "_law_kind", "_law_value", "_law_own", "_law_far", "_law_short", "_law_odd", "_law_k"]
theorem sc_law : FnScope N_law ["_law_script"] (defScope s_law) := ⟨rfl, rfl, rfl, by decide +kernel, rfl, by decide +kernel, by decide +kernel⟩
/-- where the defs stand -/
structure Adr where
  a_BadKind___init__ : Addr
  f_BadKind___init__ : FuncData
  a_is_name : Addr
  f_is_name : FuncData
  a_is_whole : Addr
  f_is_whole : FuncData
  a_is_row : Addr
  f_is_row : FuncData
  a_check_couples : Addr
  f_check_couples : FuncData
  a_checked_kind : Addr
  f_checked_kind : FuncData
  a_check_kind : Addr
  f_check_kind : FuncData
  a_fits_base : Addr
  f_fits_base : FuncData
  a__law_pool : Addr
  f__law_pool : FuncData
  a__law_draw : Addr
  f__law_draw : FuncData
  a__law_exact : Addr
  f__law_exact : FuncData
  a__law_base_value : Addr
  f__law_base_value : FuncData
  a__law_bad_kinds : Addr
  f__law_bad_kinds : FuncData
  a__law_good_kinds : Addr
  f__law_good_kinds : FuncData
  a__law_around : Addr
  f__law_around : FuncData
  a__law_let_by : Addr
  f__law_let_by : FuncData
  a_law : Addr
  f_law : FuncData
  c_BadKind : Addr
  t_LETTERS : Tok
  t_SIGNS : Tok
  t_LARGEST : Tok
  a_BASES : Addr
/-- what the top has written -/
structure Txt (K : PySem.W.Frag) (mg : Str → Option Value) (A : Adr) : Prop where
  F_BadKind___init__ : Fun K "__init__" "BadKind.__init__" s_BadKind___init__ A.a_BadKind___init__ A.f_BadKind___init__
  b_BadKind___init__ : Binds K A.f_BadKind___init__ ["self"] []
  F_is_name : Fun K "is_name" "is_name" s_is_name A.a_is_name A.f_is_name
  b_is_name : Binds K A.f_is_name ["thing"] []
  g_is_name : mg "is_name" = some (.ref A.a_is_name)
  F_is_whole : Fun K "is_whole" "is_whole" s_is_whole A.a_is_whole A.f_is_whole
  b_is_whole : Binds K A.f_is_whole ["thing"] []
  g_is_whole : mg "is_whole" = some (.ref A.a_is_whole)
  F_is_row : Fun K "is_row" "is_row" s_is_row A.a_is_row A.f_is_row
  b_is_row : Binds K A.f_is_row ["thing", "size"] []
  g_is_row : mg "is_row" = some (.ref A.a_is_row)
  F_check_couples : Fun K "check_couples" "check_couples" s_check_couples A.a_check_couples A.f_check_couples
  b_check_couples : Binds K A.f_check_couples ["couples", "deep"] []
  g_check_couples : mg "check_couples" = some (.ref A.a_check_couples)
  F_checked_kind : Fun K "checked_kind" "checked_kind" s_checked_kind A.a_checked_kind A.f_checked_kind
  b_checked_kind : Binds K A.f_checked_kind ["kind", "deep"] []
  g_checked_kind : mg "checked_kind" = some (.ref A.a_checked_kind)
  F_check_kind : Fun K "check_kind" "check_kind" s_check_kind A.a_check_kind A.f_check_kind
  b_check_kind : Binds K A.f_check_kind ["kind"] []
  g_check_kind : mg "check_kind" = some (.ref A.a_check_kind)
  F_fits_base : Fun K "fits_base" "fits_base" s_fits_base A.a_fits_base A.f_fits_base
  b_fits_base : Binds K A.f_fits_base ["value", "kind"] []
  g_fits_base : mg "fits_base" = some (.ref A.a_fits_base)
  F__law_pool : Fun K "_law_pool" "_law_pool" s__law_pool A.a__law_pool A.f__law_pool
  b__law_pool : Binds K A.f__law_pool ["_law_script", "_law_at"] []
  g__law_pool : mg "_law_pool" = some (.ref A.a__law_pool)
  F__law_draw : Fun K "_law_draw" "_law_draw" s__law_draw A.a__law_draw A.f__law_draw
  b__law_draw : Binds K A.f__law_draw ["_law_pool_here", "_law_many"] []
  g__law_draw : mg "_law_draw" = some (.ref A.a__law_draw)
  F__law_exact : Fun K "_law_exact" "_law_exact" s__law_exact A.a__law_exact A.f__law_exact
  b__law_exact : Binds K A.f__law_exact ["_law_told", "_law_due"] []
  g__law_exact : mg "_law_exact" = some (.ref A.a__law_exact)
  F__law_base_value : Fun K "_law_base_value" "_law_base_value" s__law_base_value A.a__law_base_value A.f__law_base_value
  b__law_base_value : Binds K A.f__law_base_value ["_law_pool_here", "_law_kind"] []
  g__law_base_value : mg "_law_base_value" = some (.ref A.a__law_base_value)
  F__law_bad_kinds : Fun K "_law_bad_kinds" "_law_bad_kinds" s__law_bad_kinds A.a__law_bad_kinds A.f__law_bad_kinds
  b__law_bad_kinds : Binds K A.f__law_bad_kinds [] []
  g__law_bad_kinds : mg "_law_bad_kinds" = some (.ref A.a__law_bad_kinds)
  F__law_good_kinds : Fun K "_law_good_kinds" "_law_good_kinds" s__law_good_kinds A.a__law_good_kinds A.f__law_good_kinds
  b__law_good_kinds : Binds K A.f__law_good_kinds [] []
  g__law_good_kinds : mg "_law_good_kinds" = some (.ref A.a__law_good_kinds)
  F__law_around : Fun K "_law_around" "_law_around" s__law_around A.a__law_around A.f__law_around
  b__law_around : Binds K A.f__law_around ["_law_pool_here", "_law_kind", "_law_turns"] []
  g__law_around : mg "_law_around" = some (.ref A.a__law_around)
  F__law_let_by : Fun K "_law_let_by" "_law_let_by" s__law_let_by A.a__law_let_by A.f__law_let_by
  b__law_let_by : Binds K A.f__law_let_by ["_law_kind"] []
  g__law_let_by : mg "_law_let_by" = some (.ref A.a__law_let_by)
  F_law : Fun K "law" "law" s_law A.a_law A.f_law
  b_law : Binds K A.f_law ["_law_script"] []
  g_law : mg "law" = some (.ref A.a_law)
  b_len : mg "len" = none
  b_isinstance : mg "isinstance" = none
  b_range : mg "range" = none
  b_tuple : mg "tuple" = none
  b_list : mg "list" = none
  b_str : mg "str" = none
  b_int : mg "int" = none
  b_bool : mg "bool" = none
  b_all : mg "all" = none
  b_ord : mg "ord" = none
  g_LETTERS : mg "LETTERS" = some (.str (Str.ofString "abcdefghijklmnopqrstuvwxyz") A.t_LETTERS)
  g_SIGNS : mg "SIGNS" = some (.str (Str.ofString "abcdefghijklmnopqrstuvwxyz0123456789") A.t_SIGNS)
  g_LARGEST : mg "LARGEST" = some (.int largest A.t_LARGEST)
  g_BASES : mg "BASES" = some (.ref A.a_BASES)
  x_BadKind : OexC K A.c_BadKind
  n_what : PySem.W.findIn K (.ref A.c_BadKind) "what" = some none
  i_BadKind : PySem.W.findIn K (.ref A.c_BadKind) "__init__" = some (some (.ref A.a_BadKind___init__))
  t_BadKind : PySem.W.typeIn K (.ref A.a_BadKind___init__) = some (.type "function")
  g_BadKind : mg "BadKind" = some (.ref A.c_BadKind)
  m_BadKind : PySem.W.exmOne K (.ref A.c_BadKind) (.ref A.c_BadKind) = some true
  s_BadKind : ExIs K A.c_BadKind
  o_BadKind : PySem.W.kitOne K (.ref A.c_BadKind) (.ref A.c_BadKind) = some true
  q_BASES : ∀ H : Hp, SqT K H A.a_BASES [.str "int", .str "text", .str "truth"]
end K1
set_option Elab.async false
set_option linter.all false
set_option maxRecDepth 100000
set_option maxHeartbeats 4000000
namespace K1
open PySem PySem.Spec PyProof.Rows L2 LK Evl
local macro_rules | `(tactic| walk_at "rv") => `(tactic| first
  | exact rv_addI | exact rv_I0 | exact rv_I (by decide) | exact rv_I (Or.inr (by omega)) | exact rv_I (Or.inl (by omega)) | exact rv_I (by omega) | exact rv_I ⟨by omega, by omega⟩ | exact rv_I ⟨by decide, by decide, by decide⟩ | exact rv_ltI | exact rv_leI | exact rv_gtI | exact rv_geI | exact rv_eqS rfl | exact rv_neS rfl | exact rv_leS | exact rv_ltS
  | exact rv_inC | exact rv_niC | exact rv_isBl | exact rv_isntBl | exact rv_isN | exact rv_isntN
  | exact rv_xA (by assumption) (by assumption) | exact rv_xT (by assumption) (by assumption) | exact rv_xL (by assumption) (by assumption) | exact rv_xS (by assumption) (by assumption)
  | exact rv_xT (by assumption) rfl | exact rv_xL (by assumption) rfl | exact rv_inA (by assumption) rfl rfl | exact rv_addS (by assumption))
local macro_rules | `(tactic| walk_at "rc") => `(tactic| first
  | exact rc_int | exact rc_ord | exact rc_lenS (by assumption) | exact rc_lenL (by assumption) | exact rc_lenT (by assumption) | exact rc_lenA (by assumption) | exact rc_isiS (by assumption) | exact rc_isiI (by assumption) | exact rc_isiB (by assumption) | exact rc_isiL (by assumption) | exact rc_isiT (by assumption))
local macro_rules | `(tactic| walk_at "ea") => `(tactic| first | exact ea_nil | (apply ea_cons; walk_at "ev"; walk_at "ea"))
local macro_rules | `(tactic| walk_at "ev") => `(tactic| first
  | assumption
  | exact ev_var rfl
  | exact ev_c
  | (apply ev_op; walk_at "ev"; walk_at "ev"; walk_at "rv")
  | (apply ev_un; walk_at "ev"; exact ru_neg)
  | (apply ev_isiLT; walk_at "ev"; assumption)
  | (apply ev_call; walk_at "ea"; walk_at "sv")
  | (apply ev_cb; walk_at "ea"; walk_at "rc")
  | (apply ev_if; walk_at "et"; (intro _; walk_at "ev"); (intro _; walk_at "ev"))
  | (apply ev_chain; walk_at "ev"; walk_at "ev"; walk_at "rv"; walk_at "ev"; walk_at "rv")
  | (apply ev_notV; walk_at "ev")
  | (apply ev_andV; walk_at "ev"; (intro _; walk_at "ev"))
  | (apply ev_orV; walk_at "ev"; (intro _; walk_at "ev")))
local macro_rules | `(tactic| walk_at "et") => `(tactic| first
  | assumption
  | (apply et_test; walk_at "ev")
  | (apply et_B; walk_at "ev")
  | (apply et_not; walk_at "et")
  | (apply et_and; walk_at "et"; (intro _; walk_at "et"))
  | (apply et_or; walk_at "et"; (intro _; walk_at "et"))
  | (apply et_tru; walk_at "ev"; walk_at "tru"))
local macro_rules | `(tactic| walk_at "tru") => `(tactic| first | exact tr_bl | exact tr_L (by assumption) | exact tr_T (by assumption) | exact tr_A (by assumption))
section
variable {P : Program} {w : World} {K : PySem.W.Frag} {mg : Str → Option Value} {base : Heap} {A : Adr}
theorem ok_draw (T : Txt K mg A) : FnOk P w K mg base CX0 1 A.a__law_draw A.f__law_draw ["_law_pool_here", "_law_many"] spDraw := by
  refine T.F__law_draw.ok sc__law_draw (fun vs H Q E h => ?_) (fun cdv Ar outer s H vs Q E hr h => ?_)
  · obtain ⟨p, P, m, rfl, _⟩ := h
    rfl
  · obtain ⟨p, P, m, rfl, hp, m0, m1, k⟩ := h
    refine ⟨_, (pss_cons (ps_if (pt_cmpR opGt (pe_ix (ixAny (K := K)) (pv 0) pe_int (fun _ _ => rfl)) pe_int (nomark _)) (pss_cons (ps_set (i := 2) sc__law_draw.nd rfl (by first | exact Or.inl rfl | exact Or.inr rfl) (pe_op op_mod (pe_ix (ixAny (K := K)) (pv 0) pe_int (fun _ _ => rfl)) (pv 1)))
      (pss_cons (ps_asg (pe_op op_fdiv (pe_ix (ixAny (K := K)) (pv 0) pe_int (fun _ _ => rfl)) (pv 1)) (pg_sub (pv 0) pe_int set_list))
      (pss_one (ps_ret (pv 2))))) pss_nil)
      (pss_cons (ps_asg (pe_op (opAdd (K := K)) (pe_ix (ixAny (K := K)) (pv 0) pe_int (fun _ _ => rfl)) pe_int) (pg_sub (pv 0) pe_int set_list))
      (pss_cons (ps_asg (pe_op op_mod (pe_callTy intOf (by rfl) T.b_int (by decide +kernel) (pa_cons (pe_op (opAdd (K := K)) (pe_op (opAdd (K := K)) (pe_op op_mul (pe_ix (ixAny (K := K)) (pv 0) pe_int (fun _ _ => rfl)) pe_int) (pe_op op_mul (pe_ix (ixAny (K := K)) (pv 0) pe_int (fun _ _ => rfl)) pe_int)) pe_int) pa_nil)) pe_int) (pg_sub (pv 0) pe_int set_list))
      (pss_one (ps_ret (pe_op op_mod (pe_callTy intOf (by rfl) T.b_int (by decide +kernel) (pa_cons (pe_op (opAdd (K := K)) (pe_op op_fdiv (pe_ix (ixAny (K := K)) (pv 0) pe_int (fun _ _ => rfl)) pe_int) (pe_op op_fdiv (pe_op op_mul (pe_ix (ixAny (K := K)) (pv 0) pe_int (fun _ _ => rfl)) pe_int) pe_int)) pa_nil)) (pv 1))))))), ?_⟩
    have hl : SqL K H p P.its := .of hp
    have keep : ∀ {H' : Hp} {o : HO}, Keep (fun a => a = p) H H' → Keep (fun a => a = p) H (upd H' p o) := fun k => k.put rfl
    refine q_when (b := decide (0 < P.big)) (by walk_at "et") (fun c H1 e1 => ?_) (fun c H1 e1 => ?_)
    · have c' : 0 < P.big := of_decide_eq_true c
      have ed : P.draw m = P.big % m := if_pos c'
      have es : P.step m = ⟨P.big / m, P.last, P.cnt⟩ := if_pos c'
      have h1 := e1 _ _ hp
      have hl1 : SqL K H1 p P.its := .of h1
      refine q_asg (i := 2) (v := .int (P.big % m)) (by walk_at "ev") fun H2 e2 => ?_
      have h2 := e2 _ _ h1
      have hl2 : SqL K H2 p P.its := .of h2
      refine q_setL (j := 0) (v := .int (P.big / m)) h2 (by
        apply ev_op
        walk_at "ev"
        walk_at "ev"
        exact rv_I ⟨m0, m1⟩) (by walk_at "ev") (by walk_at "ev") (by show 0 < 3; decide) fun H3 e3 => ?_
      refine s_ret (v := .int (P.big % m)) (by walk_at "ev") fun H4 e4 => ?_
      show Q (.int (P.big % m)) H4
      rw [← ed]
      refine k H4 ((keep (.of ((e1.trans e2).trans e3))).trans (.of e4)) ?_
      rw [es]
      exact e4 _ _ upd_same
    · have c' : ¬ 0 < P.big := of_decide_eq_false c
      have ed : P.draw m = (P.next / 5 + P.next * 31 / 65537) % m := if_neg c'
      have es : P.step m = ⟨P.big, P.next, P.cnt + 1⟩ := if_neg c'
      have h1 := e1 _ _ hp
      have hl1 : SqL K H1 p P.its := .of h1
      refine q_setL (j := 2) (v := .int (P.cnt + 1)) h1 (by walk_at "ev") (by walk_at "ev") (by walk_at "ev") (by show 2 < 3; decide) fun H2 e2 => ?_
      have h2 : upd H2 p (.lst (P.its.set 2 (.int (P.cnt + 1)))) p = some (.lst [.int P.big, .int P.last, .int (P.cnt + 1)]) := upd_same
      have hl2 : SqL K _ p [.int P.big, .int P.last, .int (P.cnt + 1)] := .of h2
      refine q_setL (j := 1) (v := .int P.next) h2 (by walk_at "ev") (by walk_at "ev") (by walk_at "ev") (by show 1 < 3; decide) fun H3 e3 => ?_
      have h3 : upd H3 p (.lst ([V.int P.big, .int P.last, .int (P.cnt + 1)].set 1 (.int P.next))) p = some (.lst [.int P.big, .int P.next, .int (P.cnt + 1)]) := upd_same
      have hl3 : SqL K _ p [.int P.big, .int P.next, .int (P.cnt + 1)] := .of h3
      refine s_ret (v := .int ((P.next / 5 + P.next * 31 / 65537) % m)) (by walk_at "ev") fun H4 e4 => ?_
      show Q (.int ((P.next / 5 + P.next * 31 / 65537) % m)) H4
      rw [← ed]
      refine k H4 ((keep ((keep (.of (e1.trans e2))).trans (.of e3))).trans (.of e4)) ?_
      rw [es]
      exact e4 _ _ h3
def spWhole : Sp := fun vs H Q _ => ∃ (v : V) (d : PyData), vs = [v] ∧ At M0 H v d ∧ ∀ H1, Same H H1 → Q (.bl (wholeD d)) H1
theorem ok_whole (T : Txt K mg A) : FnOk P w K mg base CX0 1 A.a_is_whole A.f_is_whole ["thing"] spWhole := by
  refine T.F_is_whole.ok sc_is_whole (fun vs H Q E h => ?_) (fun cdv Ar outer s H vs Q E hr h => ?_)
  · obtain ⟨v, d, rfl, _⟩ := h
    rfl
  · obtain ⟨v, d, rfl, hd, k⟩ := h
    refine ⟨_, (pss_one (ps_ret (pe_and (pe_callB (isiOne (K := K)) (by rfl) T.b_isinstance (by decide +kernel) (pa_cons (pv 0) (pa_cons (pe_bltn (v := .ty "int") (u := .type "int") (by rfl) T.b_int (by decide +kernel) rfl) pa_nil))) (pe_one (pe_not (pe_callB (isiOne (K := K)) (by rfl) T.b_isinstance (by decide +kernel) (pa_cons (pv 0) (pa_cons (pe_bltn (v := .ty "bool") (u := .type "bool") (by rfl) T.b_bool (by decide +kernel) rfl) pa_nil)))))))), ?_⟩
    exact s_ret (v := .bl (isInt d && !isBool d)) (by walk_at "ev") k
end
end K1
set_option Elab.async false
set_option linter.all false
set_option maxRecDepth 100000
set_option maxHeartbeats 4000000
namespace K1
open PySem PySem.Spec PyProof.Rows L2 LK Evl
local macro_rules | `(tactic| walk_at "rv") => `(tactic| first
  | exact rv_addI | exact rv_I0 | exact rv_I (by decide) | exact rv_I (Or.inr (by omega)) | exact rv_I (Or.inl (by omega)) | exact rv_I (by omega) | exact rv_I ⟨by omega, by omega⟩ | exact rv_I ⟨by decide, by decide, by decide⟩ | exact rv_ltI | exact rv_leI | exact rv_gtI | exact rv_geI | exact rv_eqS rfl | exact rv_neS rfl | exact rv_leS | exact rv_ltS
  | exact rv_inC | exact rv_niC | exact rv_isBl | exact rv_isntBl | exact rv_isN | exact rv_isntN
  | exact rv_xA (by assumption) (by assumption) | exact rv_xT (by assumption) (by assumption) | exact rv_xL (by assumption) (by assumption) | exact rv_xS (by assumption) (by assumption)
  | exact rv_xT (by assumption) rfl | exact rv_xL (by assumption) rfl | exact rv_inA (by assumption) rfl rfl | exact rv_addS (by assumption))
local macro_rules | `(tactic| walk_at "rc") => `(tactic| first
  | exact rc_int | exact rc_ord | exact rc_lenS (by assumption) | exact rc_lenL (by assumption) | exact rc_lenT (by assumption) | exact rc_lenA (by assumption) | exact rc_isiS (by assumption) | exact rc_isiI (by assumption) | exact rc_isiB (by assumption) | exact rc_isiL (by assumption) | exact rc_isiT (by assumption))
local macro_rules | `(tactic| walk_at "ea") => `(tactic| first | exact ea_nil | (apply ea_cons; walk_at "ev"; walk_at "ea"))
local macro_rules | `(tactic| walk_at "ev") => `(tactic| first
  | assumption
  | exact ev_var rfl
  | exact ev_c
  | (apply ev_op; walk_at "ev"; walk_at "ev"; walk_at "rv")
  | (apply ev_un; walk_at "ev"; exact ru_neg)
  | (apply ev_isiLT; walk_at "ev"; assumption)
  | (apply ev_call; walk_at "ea"; walk_at "sv")
  | (apply ev_cb; walk_at "ea"; walk_at "rc")
  | (apply ev_if; walk_at "et"; (intro _; walk_at "ev"); (intro _; walk_at "ev"))
  | (apply ev_chain; walk_at "ev"; walk_at "ev"; walk_at "rv"; walk_at "ev"; walk_at "rv")
  | (apply ev_notV; walk_at "ev")
  | (apply ev_andV; walk_at "ev"; (intro _; walk_at "ev"))
  | (apply ev_orV; walk_at "ev"; (intro _; walk_at "ev")))
local macro_rules | `(tactic| walk_at "et") => `(tactic| first
  | assumption
  | (apply et_test; walk_at "ev")
  | (apply et_B; walk_at "ev")
  | (apply et_not; walk_at "et")
  | (apply et_and; walk_at "et"; (intro _; walk_at "et"))
  | (apply et_or; walk_at "et"; (intro _; walk_at "et"))
  | (apply et_tru; walk_at "ev"; walk_at "tru"))
local macro_rules | `(tactic| walk_at "tru") => `(tactic| first | exact tr_bl | exact tr_L (by assumption) | exact tr_T (by assumption) | exact tr_A (by assumption))
section
variable {P : Program} {w : World} {K : PySem.W.Frag} {mg : Str → Option Value} {base : Heap} {A : Adr}
def spRow : Sp := fun vs H Q _ => ∃ (v : V) (d : PyData) (n : Int), vs = [v, .int n] ∧ At M0 H v d ∧ ∀ H1, Same H H1 → Q (.bl (rowD d n)) H1
theorem ok_row (T : Txt K mg A) : FnOk P w K mg base CX0 1 A.a_is_row A.f_is_row ["thing", "size"] spRow := by
  refine T.F_is_row.ok sc_is_row (fun vs H Q E h => ?_) (fun cdv Ar outer s H vs Q E hr h => ?_)
  · obtain ⟨v, d, n, rfl, _⟩ := h
    rfl
  · obtain ⟨v, d, n, rfl, hd, k⟩ := h
    refine ⟨_, (pss_one (ps_ret (pe_and (pe_callB (isiTup (K := K)) (by rfl) T.b_isinstance (by decide +kernel) (pa_cons (pv 0) (pa_cons (pe_tup (pa_cons (pe_bltn (v := .ty "list") (u := .type "list") (by rfl) T.b_list (by decide +kernel) rfl) (pa_cons (pe_bltn (v := .ty "tuple") (u := .type "tuple") (by rfl) T.b_tuple (by decide +kernel) rfl) pa_nil))) pa_nil))) (pe_one (pe_cmpR (opEq (K := K) hr) (pe_callB (lenAny (K := K)) (by rfl) T.b_len (by decide +kernel) (pa_cons (pv 0) pa_nil)) (pv 1) (nomark _)))))), ?_⟩
    refine s_ret (v := .bl (rowD d n)) ?_ k
    have h1 := fun (σ : L2.St) (hσ : σ[0]? = some (some v)) => ev_isiLT (K := K) (σ := σ) (ev_var (i := 0) hσ) hd
    cases hd with
    | lst a h r =>
      have hl : SqL K H _ _ := .of h
      refine ev_and1 (b := decide ((lenD _ : Int) = n)) (h1 _ rfl) ?_
      rw [show lenD (.list _) = _ from r.len.symm, show ∀ i : Int, decide (i = n) = decide (V.int i = .int n) from fun i => by simp]
      walk_at "ev"
    | tup a h r =>
      have hl : SqT K H _ _ := .of h
      refine ev_and1 (b := decide ((lenD _ : Int) = n)) (h1 _ rfl) ?_
      rw [show lenD (.tuple _) = _ from r.len.symm, show ∀ i : Int, decide (i = n) = decide (V.int i = .int n) from fun i => by simp]
      walk_at "ev"
    | _ => exact ev_and0 (h1 _ rfl)
def spName : Sp := fun vs H Q _ => ∃ (v : V) (d : PyData), vs = [v] ∧ At M0 H v d ∧ ∀ H1, Same H H1 → Q (.bl (nameD d)) H1
theorem ok_name (T : Txt K mg A) : FnOk P w K mg base CX0 1 A.a_is_name A.f_is_name ["thing"] spName := by
  refine T.F_is_name.ok sc_is_name (fun vs H Q E h => ?_) (fun cdv Ar outer s H vs Q E hr h => ?_)
  · obtain ⟨v, d, rfl, _⟩ := h
    rfl
  · obtain ⟨v, d, rfl, hd, k⟩ := h
    refine ⟨_, (pss_cons (ps_if (PW.pt (pw_or (pt_not (ptTr (K := K) (pe_callB (isiOne (K := K)) (by rfl) T.b_isinstance (by decide +kernel) (pa_cons (pv 0) (pa_cons (pe_bltn (v := .ty "str") (u := .type "str") (by rfl) T.b_str (by decide +kernel) rfl) pa_nil))))) (pw_or1 (pt_not (pt_chain opLe opLe pe_int (pe_callB (lenAny (K := K)) (by rfl) T.b_len (by decide +kernel) (pa_cons (pv 0) pa_nil)) pe_int))))) (pss_one (ps_ret pe_bl)) pss_nil)
      (pss_one (ps_ret (pe_and (pe_cmpR (opIn (K := K)) (pe_ix (ixAny (K := K)) (pv 0) pe_int (fun _ _ => rfl)) (pe_glob (v := .str (Str.ofString "abcdefghijklmnopqrstuvwxyz")) rfl T.g_LETTERS ⟨_, rfl⟩) rfl) (pe_one (pe_callB (allOf (K := K) rfl) (by rfl) T.b_all (by decide +kernel) (pa_cons (pe_lc (own := [("sign", 1)]) (g := gName 1) rfl sc_is_name.nd (pi_str (pv 0)) (blkOk_by (own := [("sign", 1)]) (N := N_is_name) (sc := defScope s_is_name) (by decide +kernel)) (fun _ _ _ _ _ => (pg_name (i := 1) sc_is_name.nd rfl (by first | exact Or.inl rfl | exact Or.inr rfl))) (fun _ _ _ _ _ => pts_nil) (fun _ _ _ _ _ => (pe_cmpR (opIn (K := K)) (pv 1) (pe_glob (v := .str (Str.ofString "abcdefghijklmnopqrstuvwxyz0123456789")) rfl T.g_SIGNS ⟨_, rfl⟩) rfl))) pa_nil))))))), ?_⟩
    by_cases hs : isStr d = true
    · obtain ⟨x, hx, rfl, rfl⟩ := hd.strOf hs
      refine q_when (b := !isStr (.str x) || !(decide (1 ≤ (x.length : Int)) && decide ((x.length : Int) ≤ 8))) (by walk_at "et") (fun c H1 e1 => ?_) (fun c H1 e1 => ?_)
      · refine s_ret (v := .bl (nameD (.str x))) (ev_is ev_c ?_) fun H2 e2 => k H2 (e1.trans e2)
        have hL : x.cps.toList.length = x.length := by simp [Str.length]
        have c' : ¬ (1 ≤ x.cps.toList.length ∧ x.cps.toList.length ≤ 8) := by
          intro ⟨z1, z2⟩
          simp [isStr] at c
          omega
        show V.bl false = .bl (nameL x.cps.toList)
        unfold nameL
        rw [decide_eq_false c', Bool.false_and]
      · have hL : x.cps.toList.length = x.length := by simp [Str.length]
        have c' : 1 ≤ x.cps.toList.length ∧ x.cps.toList.length ≤ 8 := by
          simp [isStr] at c
          omega
        refine s_ret (v := .bl (nameD (.str x))) ?_ fun H2 e2 => k H2 (e1.trans e2)
        show Ev _ _ _ (.bl (nameL x.cps.toList))
        unfold nameL
        rw [decide_eq_true c', Bool.true_and]
        have ha : atI x.cps.toList 0 = some (x.cps.toList.headD 0) := at_head (by omega)
        refine ev_andV (by walk_at "ev") fun _ => ev_allP (el_lcS (fun c => V.bl (decide (c ∈ signsL))) (ev_var rfl) (by omega) (fun _ => rfl) fun c H2 e2 hc => ?_)
        walk_at "ev"
    · have hs' : isStr d = false := by simpa using hs
      have t : EvT (tTr K (tCB (rIsi K) (tCons (tVar 0) (tCons (tC (V.ty "str")) tNil)))) (L2.start N_is_name [v]) H (isStr d) := by walk_at "et"
      rw [hs'] at t
      refine q_when (b := true) (et_or1 (et_ya t)) (fun _ H1 e1 => s_ret (v := .bl (nameD d)) (ev_is ev_c ?_) fun H2 e2 => k H2 (e1.trans e2)) (fun c => by cases c)
      cases d <;> first | rfl | cases hs'
theorem sv_whole {H : Hp} {v : V} {d : PyData} (hd : At M0 H v d) : SpV spWhole [v] H (.bl (wholeD d)) := fun H1 e Q q E => ⟨v, d, rfl, hd.ex e, q⟩
local macro_rules | `(tactic| walk_at "sv") => `(tactic| first | exact sv_whole (by assumption))
def spFits : Sp := fun vs H Q _ => ∃ (v : V) (d : PyData) (kind : Str), vs = [v, .str kind] ∧ At M0 H v d ∧ ∀ H1, Same H H1 → Q (.bl (fitsD d kind)) H1
theorem ok_fits (T : Txt K mg A) : FnOk P w K mg base CX0 2 A.a_fits_base A.f_fits_base ["value", "kind"] spFits := by
  have G_is_whole := ok_whole (P := P) (w := w) (base := base) T
  refine T.F_fits_base.ok sc_fits_base (fun vs H Q E h => ?_) (fun cdv Ar outer s H vs Q E hr h => ?_)
  · obtain ⟨v, d, kind, rfl, _⟩ := h
    rfl
  · obtain ⟨v, d, kind, rfl, hd, k⟩ := h
    refine ⟨_, (pss_cons (ps_if (pt_cmpR (opEq (K := K) hr) (pv 1) pe_str (nomark _)) (pss_one (ps_ret (pe_callB (isiOne (K := K)) (by rfl) T.b_isinstance (by decide +kernel) (pa_cons (pv 0) (pa_cons (pe_bltn (v := .ty "bool") (u := .type "bool") (by rfl) T.b_bool (by decide +kernel) rfl) pa_nil))))) pss_nil)
      (pss_cons (ps_if (pt_cmpR (opEq (K := K) hr) (pv 1) pe_str (nomark _)) (pss_one (ps_ret (pe_and (pe_call G_is_whole (hr.mono (by omega)) rfl T.g_is_whole T.F_is_whole.kp T.b_is_whole .nil pass0 (pa_cons (pv 0) pa_nil)) (pe_one (pe_chain opLt opLt (pe_un un_neg (pe_glob (v := .int largest) rfl T.g_LARGEST ⟨_, rfl⟩)) (pv 0) (pe_glob (v := .int largest) rfl T.g_LARGEST ⟨_, rfl⟩)))))) pss_nil)
      (pss_cons (ps_if (PW.pt (pw_or (pt_not (ptTr (K := K) (pe_callB (isiOne (K := K)) (by rfl) T.b_isinstance (by decide +kernel) (pa_cons (pv 0) (pa_cons (pe_bltn (v := .ty "str") (u := .type "str") (by rfl) T.b_str (by decide +kernel) rfl) pa_nil))))) (pw_or1 (pt_cmpR opGt (pe_callB (lenAny (K := K)) (by rfl) T.b_len (by decide +kernel) (pa_cons (pv 0) pa_nil)) pe_int (nomark _))))) (pss_one (ps_ret pe_bl)) pss_nil)
      (pss_one (ps_ret (pe_callB (allOf (K := K) rfl) (by rfl) T.b_all (by decide +kernel) (pa_cons (pe_lc (own := [("sign", 2)]) (g := gName 2) rfl sc_fits_base.nd (pi_str (pv 0)) (blkOk_by (own := [("sign", 2)]) (N := N_fits_base) (sc := defScope s_fits_base) (by decide +kernel)) (fun _ _ _ _ _ => (pg_name (i := 2) sc_fits_base.nd rfl (by first | exact Or.inl rfl | exact Or.inr rfl))) (fun _ _ _ _ _ => pts_nil) (fun _ _ _ _ _ => (pe_and (pe_chain opLe opLe pe_str (pv 2) pe_str) (pe_and (pe_cmpR (opNotIn (K := K)) (pv 2) pe_str rfl) (pe_one (pe_cmpR (opNe (K := K) hr) (pe_callB ordOf (by rfl) T.b_ord (by decide +kernel) (pa_cons (pv 2) pa_nil)) pe_int (nomark _))))))) pa_nil))))))), ?_⟩
    refine q_when (b := decide (V.str kind = .str "truth")) (by walk_at "et") (fun c H1 e1 => ?_) (fun c H1 e1 => ?_)
    · have c' : kind = "truth" := by simpa using c
      refine s_ret (v := .bl (fitsD d kind)) (.mono e1 (ev_is (v := .bl (isBool d)) (by walk_at "ev") ?_)) fun H2 e2 => k H2 (e1.trans e2)
      unfold fitsD
      rw [if_pos c']
    · have c1 : ¬ kind = "truth" := by simpa using c
      refine q_when (b := decide (V.str kind = .str "int")) (by walk_at "et") (fun c H2 e2 => ?_) (fun c H2 e2 => ?_)
      · have c' : kind = "int" := by simpa using c
        refine s_ret (v := .bl (fitsD d kind)) (.mono (e1.trans e2) ?_) fun H3 e3 => k H3 ((e1.trans e2).trans e3)
        unfold fitsD
        rw [if_neg c1, if_pos c']
        by_cases hw : wholeD d = true
        · have h1 : Ev (tCall spWhole [] E0 (tCons (tVar 0) tNil)) (L2.start N_fits_base [v, .str kind]) H (.bl (wholeD d)) := by walk_at "ev"
          rw [hw] at h1
          cases hd with
          | int i =>
            refine ev_and1 h1 ?_
            walk_at "ev"
          | _ => cases hw
        · have hw' : wholeD d = false := by simpa using hw
          have h1 : Ev (tCall spWhole [] E0 (tCons (tVar 0) tNil)) (L2.start N_fits_base [v, .str kind]) H (.bl (wholeD d)) := by walk_at "ev"
          rw [hw'] at h1
          refine ev_is (ev_and0 h1) ?_
          cases d <;> first | rfl | cases hw'
      · have c2 : ¬ kind = "int" := by simpa using c
        have f0 : fitsD d kind = textOkD d := by
          unfold fitsD
          rw [if_neg c1, if_neg c2]
        by_cases hs : isStr d = true
        · obtain ⟨x, hx, rfl, rfl⟩ := hd.strOf hs
          have hd2 := hd.ex (e1.trans e2)
          refine q_when (b := !isStr (.str x) || decide ((12 : Int) < (x.length : Nat))) (by walk_at "et") (fun c H3 e3 => ?_) (fun c H3 e3 => ?_)
          · refine s_ret (v := .bl (fitsD (.str x) kind)) (ev_is ev_c ?_) fun H4 e4 => k H4 (((e1.trans e2).trans e3).trans e4)
            have c' : ¬ x.length ≤ 12 := by
              simp [isStr] at c
              omega
            rw [f0, textOkD, textOk, decide_eq_false c', Bool.false_and]
          · have c' : x.length ≤ 12 := by
              simp [isStr] at c
              omega
            refine s_ret (v := .bl (fitsD (.str x) kind)) ?_ fun H4 e4 => k H4 (((e1.trans e2).trans e3).trans e4)
            rw [f0, textOkD, textOk, decide_eq_true c', Bool.true_and]
            refine ev_allP (el_lcS (fun c => V.bl (signOk c)) (ev_var rfl) (by omega) (fun _ => rfl) fun c H5 e5 hc => ?_)
            refine ev_is (by walk_at "ev") ?_
            rw [show (Str.ofString " ").cps.toList = [32] by decide +kernel, show (Str.ofString "~").cps.toList = [126] by decide +kernel, show (Str.ofString "\"\\").cps.toList = [34, 92] by decide +kernel,
              show decide (V.int (c : Int) = V.int 37) = decide ((c : Int) = 37) by simp]
            rfl
        · have hs' : isStr d = false := by simpa using hs
          have hd2 := hd.ex (e1.trans e2)
          have t : EvT (tTr K (tCB (rIsi K) (tCons (tVar 0) (tCons (tC (V.ty "str")) tNil)))) (L2.start N_fits_base [v, .str kind]) H2 (isStr d) := by walk_at "et"
          rw [hs'] at t
          refine q_when (b := true) (et_or1 (et_ya t)) (fun _ H3 e3 => s_ret (v := .bl (fitsD d kind)) (ev_is ev_c ?_) fun H4 e4 => k H4 (((e1.trans e2).trans e3).trans e4)) (fun c => by cases c)
          rw [f0]
          cases d <;> first | rfl | cases hs'
theorem ok_pool (T : Txt K mg A) : FnOk P w K mg base CX0 1 A.a__law_pool A.f__law_pool ["_law_script", "_law_at"] (spPool K) := by
  refine T.F__law_pool.ok sc__law_pool (fun vs H Q E h => ?_) (fun cdv Ar outer s H vs Q E hr h => ?_)
  · obtain ⟨a, ns, i, rfl, _⟩ := h
    rfl
  · obtain ⟨a, ns, i, rfl, hS, hl, hi, k⟩ := h
    refine ⟨_, (pss_cons (ps_set (i := 2) sc__law_pool.nd rfl (by first | exact Or.inl rfl | exact Or.inr rfl) (pe_ifExp (pt_cmpR opLt (pv 1) (pe_callB (lenAny (K := K)) (by rfl) T.b_len (by decide +kernel) (pa_cons (pv 0) pa_nil)) (nomark _)) (pe_ix (ixAny (K := K)) (pv 0) (pv 1) (fun _ _ => rfl)) pe_int))
      (pss_cons (ps_set (i := 3) sc__law_pool.nd rfl (by first | exact Or.inl rfl | exact Or.inr rfl) (pe_ifExp (pt_cmpR opGe (pv 2) pe_int (nomark _)) (pe_op op_mul (pv 2) pe_int) (pe_op op_sub pe_int (pe_op op_mul (pv 2) pe_int))))
      (pss_cons (ps_set (i := 4) sc__law_pool.nd rfl (by first | exact Or.inl rfl | exact Or.inr rfl) (pe_op op_mod (pe_callTy intOf (by rfl) T.b_int (by decide +kernel) (pa_cons (pe_op (opAdd (K := K)) (pe_op (opAdd (K := K)) (pe_op (opAdd (K := K)) (pe_op op_mul (pv 3) pe_int) (pe_op op_mul (pv 1) pe_int)) (pe_op op_mul (pe_callB (lenAny (K := K)) (by rfl) T.b_len (by decide +kernel) (pa_cons (pv 0) pa_nil)) pe_int)) pe_int) pa_nil)) pe_int))
      (pss_one (ps_ret (pe_lst (pa_cons (pe_ifExp (pt_cmpR opGe (pv 3) (pe_op op_pow pe_int pe_int) (nomark _)) (pv 3) pe_int) (pa_cons (pv 4) (pa_cons pe_int pa_nil))))))))), ?_⟩
    have hlen : (ns.map V.int).length = ns.length := List.length_map _
    refine q_asg (i := 2) (v := .int (cellAt_ ns i)) (ev_if (b := decide ((i : Int) < ((ns.map V.int).length : Nat))) (by walk_at "et") (fun c => ?_) (fun c => ?_)) fun H1 e1 => ?_
    · have c' : i < ns.length := by
        simp at c
        omega
      have ha : atI (ns.map V.int) (i : Int) = some (.int (ns.getD i 0)) := at_nat (by simp [List.getD_eq_getElem?_getD, c'])
      unfold cellAt_
      rw [if_pos c']
      walk_at "ev"
    · have c' : ¬ i < ns.length := by
        simp at c
        omega
      unfold cellAt_
      rw [if_neg c']
      walk_at "ev"
    · have hS1 := Same.seq e1 hS
      refine q_asg (i := 3) (v := .int (sizeOf_ (cellAt_ ns i))) (ev_if (b := decide ((0 : Int) ≤ cellAt_ ns i)) (by walk_at "et") (fun c => ?_) (fun c => ?_)) fun H2 e2 => ?_
      · unfold sizeOf_
        rw [if_pos (of_decide_eq_true c)]
        walk_at "ev"
      · unfold sizeOf_
        rw [if_neg (of_decide_eq_false c)]
        walk_at "ev"
      · have hS2 := Same.seq e2 hS1
        refine q_asg (i := 4) (v := .int ((sizeOf_ (cellAt_ ns i) * 48271 + (i : Int) * 69621 + ((ns.map V.int).length : Int) * 7919 + 104729) % 2147483647)) (by walk_at "ev") fun H3 e3 => ?_
        refine s_retL (xs := (poolOf ns i).its) (el_lst ?_ (by show 3 ≤ 100000; decide)) fun p H4 hp e4 h4 => ?_
        · refine ea_cons (ev_if (b := decide ((10 : Int) ^ 18 ≤ sizeOf_ (cellAt_ ns i))) (by walk_at "et") (fun c => ?_) (fun c => ?_)) (ea_cons ?_ (by walk_at "ea"))
          · unfold poolOf
            rw [if_pos (of_decide_eq_true c)]
            walk_at "ev"
          · unfold poolOf
            rw [if_neg (of_decide_eq_false c)]
            walk_at "ev"
          · unfold poolOf
            rw [← hlen]
            walk_at "ev"
        · exact k p H4 (fr_back (e1.trans (e2.trans e3)) hp) ((e1.trans (e2.trans e3)).trans e4) h4
theorem sv_row {H : Hp} {v : V} {d : PyData} {n : Int} (hd : At M0 H v d) : SpV spRow [v, .int n] H (.bl (rowD d n)) := fun H1 e Q q E => ⟨v, d, n, rfl, hd.ex e, q⟩
theorem sv_name {H : Hp} {v : V} {d : PyData} (hd : At M0 H v d) : SpV spName [v] H (.bl (nameD d)) := fun H1 e Q q E => ⟨v, d, rfl, hd.ex e, q⟩
theorem sv_fits {H : Hp} {v : V} {d : PyData} {kind : Str} (hd : At M0 H v d) : SpV spFits [v, .str kind] H (.bl (fitsD d kind)) := fun H1 e Q q E => ⟨v, d, kind, rfl, hd.ex e, q⟩
end
end K1
set_option Elab.async false
set_option linter.all false
set_option maxRecDepth 100000
set_option maxHeartbeats 4000000
namespace K1
open PySem PySem.Spec PyProof.Rows L2 LK Evl
local macro_rules | `(tactic| walk_at "rv") => `(tactic| first
  | exact rv_addI | exact rv_I0 | exact rv_I (by decide) | exact rv_I (Or.inr (by omega)) | exact rv_I (Or.inl (by omega)) | exact rv_I (by omega) | exact rv_I ⟨by omega, by omega⟩ | exact rv_I ⟨by decide, by decide, by decide⟩ | exact rv_ltI | exact rv_leI | exact rv_gtI | exact rv_geI | exact rv_eqS rfl | exact rv_neS rfl | exact rv_leS | exact rv_ltS
  | exact rv_inC | exact rv_niC | exact rv_isBl | exact rv_isntBl | exact rv_isN | exact rv_isntN
  | exact rv_xA (by assumption) (by assumption) | exact rv_xT (by assumption) (by assumption) | exact rv_xL (by assumption) (by assumption) | exact rv_xS (by assumption) (by assumption)
  | exact rv_xT (by assumption) rfl | exact rv_xL (by assumption) rfl | exact rv_inA (by assumption) rfl rfl | exact rv_addS (by assumption))
local macro_rules | `(tactic| walk_at "rc") => `(tactic| first
  | exact rc_int | exact rc_ord | exact rc_lenS (by assumption) | exact rc_lenL (by assumption) | exact rc_lenT (by assumption) | exact rc_lenA (by assumption) | exact rc_isiS (by assumption) | exact rc_isiI (by assumption) | exact rc_isiB (by assumption) | exact rc_isiL (by assumption) | exact rc_isiT (by assumption))
local macro_rules | `(tactic| walk_at "ea") => `(tactic| first | exact ea_nil | (apply ea_cons; walk_at "ev"; walk_at "ea"))
local macro_rules | `(tactic| walk_at "ev") => `(tactic| first
  | assumption
  | exact ev_var rfl
  | exact ev_c
  | (apply ev_op; walk_at "ev"; walk_at "ev"; walk_at "rv")
  | (apply ev_un; walk_at "ev"; exact ru_neg)
  | (apply ev_isiLT; walk_at "ev"; assumption)
  | (apply ev_call; walk_at "ea"; walk_at "sv")
  | (apply ev_cb; walk_at "ea"; walk_at "rc")
  | (apply ev_if; walk_at "et"; (intro _; walk_at "ev"); (intro _; walk_at "ev"))
  | (apply ev_chain; walk_at "ev"; walk_at "ev"; walk_at "rv"; walk_at "ev"; walk_at "rv")
  | (apply ev_notV; walk_at "ev")
  | (apply ev_andV; walk_at "ev"; (intro _; walk_at "ev"))
  | (apply ev_orV; walk_at "ev"; (intro _; walk_at "ev")))
local macro_rules | `(tactic| walk_at "et") => `(tactic| first
  | assumption
  | (apply et_test; walk_at "ev")
  | (apply et_B; walk_at "ev")
  | (apply et_not; walk_at "et")
  | (apply et_and; walk_at "et"; (intro _; walk_at "et"))
  | (apply et_or; walk_at "et"; (intro _; walk_at "et"))
  | (apply et_tru; walk_at "ev"; walk_at "tru"))
local macro_rules | `(tactic| walk_at "tru") => `(tactic| first | exact tr_bl | exact tr_L (by assumption) | exact tr_T (by assumption) | exact tr_A (by assumption))
abbrev bkF : List (Str × V) := [("what", .str "kind")]
section
variable {P : Program} {w : World} {K : PySem.W.Frag} {mg : Str → Option Value} {base : Heap} {A : Adr}
def spBK (C : Addr) : Sp := fun vs H Q _ => ∃ a, vs = [.ref a] ∧ H a = some (exo a C none) ∧ ∀ d, H d = none → d ≠ a → Q .non (upd (upd H d (exd d bkF)) a (exo a C (some d)))
theorem ok_bk (T : Txt K mg A) : FnOk P w K mg base CX0 1 A.a_BadKind___init__ A.f_BadKind___init__ ["self"] (spBK A.c_BadKind) := by
  refine T.F_BadKind___init__.ok sc_BadKind___init__ (fun vs H Q E h => ?_) (fun cdv Ar outer s H vs Q E hr h => ?_)
  · obtain ⟨a, rfl, _⟩ := h
    rfl
  · obtain ⟨a, rfl, ha, k⟩ := h
    refine ⟨_, (pss_one (ps_ost (pv 0) pe_str)), ?_⟩
    exact ⟨_, rfl, a, A.c_BadKind, rfl, T.x_BadKind, T.n_what, .inl ⟨ha, fun d hd hne => k d hd hne⟩⟩
/-- what a raised BadKind leaves -/
abbrev Bad (C : Addr) (E : XK) (H : Hp) : Prop := ∀ d H', Same H H' → H' d = some (.xd bkF) → E (.ref C) (some d) H'
theorem Bad.same {C : Addr} {E : XK} {H H' : Hp} (h : Bad C E H) (e : Same H H') : Bad C E H' := fun d H2 e2 hd => h d H2 (e.trans e2) hd
theorem raise_bk {C : Addr} {E : XK} {H : Hp} {σ : L2.St} (h : Bad C E H) : tMk0 C (spBK C) σ H fun cls d H' => E cls d H' := by
  intro a ha
  refine ⟨a, rfl, upd_same, fun d hd hne => ⟨rfl, d, bkF, upd_same, ?_, ?_, ?_⟩⟩
  · rw [upd_ne hne]
    exact upd_same
  · rw [upd_ne hne] at hd
    exact hd
  · rw [upd_ne hne] at hd
    refine h d _ (fun b o e => ?_) upd_same
    have n1 : b ≠ a := ne_of_none e ha
    have n2 : b ≠ d := ne_of_none e hd
    rw [upd_ne n2, del_ne n1, upd_ne n1, upd_ne n2, upd_ne n1]
    exact e
def spCK (C : Addr) (n : Nat) : Sp := fun vs H Q E => ∃ (v : V) (d : PyData) (M : Addr → Prop), vs = [v, .int (13 - (n : Int))] ∧ At M H v d ∧ Trk M H ∧
  (∀ d' v' H', chk n d = some d' → Same H H' → At M H' v' d' → Q v' H') ∧ (chk n d = none → Bad C E H)
def spCC (C : Addr) (n : Nat) : Sp := fun vs H Q E => ∃ (v : V) (d : PyData) (M : Addr → Prop), vs = [v, .int (12 - (n : Int))] ∧ At M H v d ∧ Trk M H ∧
  (∀ ds v' H', cplD (chk n) d = some ds → Same H H' → At M H' v' (.tuple ds) → Q v' H') ∧ (cplD (chk n) d = none → Bad C E H)
theorem ok_ck0 (T : Txt K mg A) : FnOk P w K mg base (L2.CX P w) 3 A.a_checked_kind A.f_checked_kind ["kind", "deep"] (spCK A.c_BadKind 0) := by
  have G_BadKind := ok_bk (P := P) (w := w) (base := base) T
  refine T.F_checked_kind.okX sc_checked_kind (fun vs H Q E h => ?_) (fun cdv Ar outer s H vs Q E hr h => ?_)
  · obtain ⟨v, d, M, rfl, _⟩ := h
    rfl
  · obtain ⟨v, d, M, rfl, hd, hM, kS, kN⟩ := h
    refine ⟨_, (pss_cons (ps_if (pt_cmpR opGt (pv 1) pe_int (nomark _)) (pss_one (psRaise0 rfl (W := fun cls d _ H => E cls d H) (takes_of rfl rfl rfl rfl) T.x_BadKind T.i_BadKind T.t_BadKind G_BadKind (hr.mono (by omega)) T.b_BadKind___init__ pass0 rfl T.g_BadKind)) pss_nil) pss_never), ?_⟩
    refine q_when (b := true) ?_ (fun _ H1 e1 => ?_) (fun c => by cases c)
    · refine et_is (by walk_at "et") ?_
      rfl
    · exact raise_bk ((kN rfl).same e1)
end
end K1
set_option Elab.async false
set_option linter.all false
set_option maxRecDepth 100000
set_option maxHeartbeats 4000000
namespace K1
open PySem PySem.Spec PyProof.Rows L2 LK Evl
local macro_rules | `(tactic| walk_at "rv") => `(tactic| first
  | exact rv_addI | exact rv_I0 | exact rv_I (by decide) | exact rv_I (Or.inr (by omega)) | exact rv_I (Or.inl (by omega)) | exact rv_I (by omega) | exact rv_I ⟨by omega, by omega⟩ | exact rv_I ⟨by decide, by decide, by decide⟩ | exact rv_ltI | exact rv_leI | exact rv_gtI | exact rv_geI | exact rv_eqS rfl | exact rv_neS rfl | exact rv_leS | exact rv_ltS
  | exact rv_inC | exact rv_niC | exact rv_isBl | exact rv_isntBl | exact rv_isN | exact rv_isntN
  | exact rv_xA (by assumption) (by assumption) | exact rv_xT (by assumption) (by assumption) | exact rv_xL (by assumption) (by assumption) | exact rv_xS (by assumption) (by assumption)
  | exact rv_xT (by assumption) rfl | exact rv_xL (by assumption) rfl | exact rv_inA (by assumption) rfl rfl | exact rv_addS (by assumption))
local macro_rules | `(tactic| walk_at "rc") => `(tactic| first
  | exact rc_int | exact rc_ord | exact rc_lenS (by assumption) | exact rc_lenL (by assumption) | exact rc_lenT (by assumption) | exact rc_lenA (by assumption) | exact rc_isiS (by assumption) | exact rc_isiI (by assumption) | exact rc_isiB (by assumption) | exact rc_isiL (by assumption) | exact rc_isiT (by assumption))
local macro_rules | `(tactic| walk_at "ea") => `(tactic| first | exact ea_nil | (apply ea_cons; walk_at "ev"; walk_at "ea"))
local macro_rules | `(tactic| walk_at "ev") => `(tactic| first
  | assumption
  | exact ev_var rfl
  | exact ev_c
  | (apply ev_op; walk_at "ev"; walk_at "ev"; walk_at "rv")
  | (apply ev_un; walk_at "ev"; exact ru_neg)
  | (apply ev_isiLT; walk_at "ev"; assumption)
  | (apply ev_call; walk_at "ea"; walk_at "sv")
  | (apply ev_cb; walk_at "ea"; walk_at "rc")
  | (apply ev_if; walk_at "et"; (intro _; walk_at "ev"); (intro _; walk_at "ev"))
  | (apply ev_chain; walk_at "ev"; walk_at "ev"; walk_at "rv"; walk_at "ev"; walk_at "rv")
  | (apply ev_notV; walk_at "ev")
  | (apply ev_andV; walk_at "ev"; (intro _; walk_at "ev"))
  | (apply ev_orV; walk_at "ev"; (intro _; walk_at "ev")))
local macro_rules | `(tactic| walk_at "et") => `(tactic| first
  | assumption
  | (apply et_test; walk_at "ev")
  | (apply et_B; walk_at "ev")
  | (apply et_not; walk_at "et")
  | (apply et_and; walk_at "et"; (intro _; walk_at "et"))
  | (apply et_or; walk_at "et"; (intro _; walk_at "et"))
  | (apply et_tru; walk_at "ev"; walk_at "tru"))
local macro_rules | `(tactic| walk_at "tru") => `(tactic| first | exact tr_bl | exact tr_L (by assumption) | exact tr_T (by assumption) | exact tr_A (by assumption))
local macro_rules | `(tactic| walk_at "sv") => `(tactic| first | exact sv_whole (by assumption) | exact sv_row (by assumption) | exact sv_name (by assumption) | exact sv_fits (by assumption))
section
variable {P : Program} {w : World} {K : PySem.W.Frag} {mg : Str → Option Value} {base : Heap} {A : Adr}
theorem eo_ck {C : Addr} {E : XK} {M : Addr → Prop} {H : Hp} {σ : L2.St} {ta : TA} {v : V} {d : PyData} {n : Nat} (hd : At M H v d) (hM : Trk M H) (hE : chk n d = none → Bad C E H) (ha : EvA ta σ H [v, .int (13 - (n : Int))]) :
    EvO M (tCallS (spCK C n) (WE fun cls d _ H => E cls d H) ta) σ H (chk n d) := fun H1 e Q q =>
  ha H1 e _ fun H2 e2 => ⟨v, d, M, rfl, hd.ex (e.trans e2), hM.same (e.trans e2), fun d' v' H' h s a => q d' v' H' h (e2.trans s) a, fun h => (hE h).same (e.trans e2)⟩
theorem eo_cc {C : Addr} {E : XK} {M : Addr → Prop} {H : Hp} {σ : L2.St} {ta : TA} {v : V} {d : PyData} {n : Nat} (hd : At M H v d) (hM : Trk M H) (hE : cplD (chk n) d = none → Bad C E H) (ha : EvA ta σ H [v, .int (12 - (n : Int))]) :
    EvO M (tCallS (spCC C n) (WE fun cls d _ H => E cls d H) ta) σ H ((cplD (chk n) d).map .tuple) := fun H1 e Q q =>
  ha H1 e _ fun H2 e2 => ⟨v, d, M, rfl, hd.ex (e.trans e2), hM.same (e.trans e2), fun d' v' H' h s a => q (.tuple d') v' H' (by rw [h] <;> rfl) (e2.trans s) a, fun h => (hE h).same (e.trans e2)⟩
theorem chk_seq {n : Nat} {d : PyData} (h : isSeq d = true) : chk (n + 1) d = chkSeq (chk n) (itemsD d) := by
  cases d <;> first | rfl | (cases h; done)
theorem chk_odd {n : Nat} {d : PyData} (h : isSeq d = false) (h2 : isStr d = false) : chk (n + 1) d = none := by
  cases d <;> first | rfl | (cases h; done) | (cases h2; done)
theorem inBases (x : Str) : inV (.str x) [.str "int", .str "text", .str "truth"] = isBaseS x := by
  unfold inV isBaseS
  simp only [List.any_cons, List.any_nil, eqV, Bool.or_false]
  have e : ∀ a b : Str, (a == b) = decide (b = a) := fun a b => by
    rw [Bool.eq_iff_iff, beq_iff_eq, decide_eq_true_iff]
    exact eq_comm
  rw [e, e, e]
theorem chkSeq_odd {f : PyData → Option PyData} {d0 : PyData} {r : List PyData} (h : isStr d0 = false) : chkSeq f (d0 :: r) = none := by
  cases d0 <;> first | (cases h; done) | (rcases r with _ | ⟨_, _ | ⟨_, _ | _⟩⟩ <;> rfl)
theorem two_of {w u : Str} {k : Nat} {m : Int} (c : (decide (V.str w = .str u) && decide (V.int (k : Int) = .int m)) = true) : w = u ∧ (k : Int) = m := by
  rw [Bool.and_eq_true, decide_eq_true_iff, decide_eq_true_iff] at c
  exact ⟨V.str.inj c.1, V.int.inj c.2⟩
theorem two_no {w u : Str} {k : Nat} {m : Int} (c : (decide (V.str w = .str u) && decide (V.int (k : Int) = .int m)) = false) (h : w = u) : ¬ (k : Int) = m := fun e => by
  rw [h, e] at c
  simp at c
theorem ats_nil {M : Addr → Prop} {H : Hp} {ds : List PyData} (h : Ats M H [] ds) : ds = [] := by
  cases h
  rfl
theorem len2 {a b : V} {l : List V} (h : ((a :: b :: l).length : Int) = 2) : l = [] := by
  simp only [List.length_cons] at h
  exact List.eq_nil_of_length_eq_zero (by omega)
theorem len3 {a b : V} {l : List V} (h : ((a :: b :: l).length : Int) = 3) : ∃ c, l = [c] := by
  cases l with
  | nil => simp at h
  | cons c l =>
    simp only [List.length_cons] at h
    rw [List.eq_nil_of_length_eq_zero (show l.length = 0 by omega)]
    exact ⟨c, rfl⟩
theorem cs_list {f : PyData → Option PyData} {x : PyData} : chkSeq f [.str "list", x] = (f x).map fun y => .tuple [.str "list", y] := by
  show chk2 _ _ _ = _
  unfold chk2
  rw [if_pos rfl]
theorem cs_record {f : PyData → Option PyData} {x : PyData} : chkSeq f [.str "record", x] = (cplD f x).map fun ys => .tuple [.str "record", .tuple ys] := by
  show chk2 _ _ _ = _
  unfold chk2
  rw [if_neg (by decide), if_pos rfl]
theorem cs_any {f : PyData → Option PyData} {x : PyData} : chkSeq f [.str "any", x] = anyD x := by
  show chk2 _ _ _ = _
  unfold chk2
  rw [if_neg (by decide), if_neg (by decide), if_pos rfl]
theorem cs_function {f : PyData → Option PyData} {x y : PyData} : chkSeq f [.str "function", x, y] = (f x).bind fun a => (f y).map fun b => .tuple [.str "function", a, b] := by
  show chk3 _ _ _ _ = _
  unfold chk3
  rw [if_pos rfl]
theorem cs_none2 {f : PyData → Option PyData} {w : Str} {x : PyData} (h1 : ¬ w = "list") (h2 : ¬ w = "record") (h3 : w = "any" → (wholeD x && geD x) = false) : chkSeq f [.str w, x] = none := by
  show chk2 _ _ _ = _
  unfold chk2
  rw [if_neg h1, if_neg h2]
  by_cases h : w = "any"
  · rw [if_pos h, anyD, h3 h]
    rfl
  · rw [if_neg h]
theorem cs_none3 {f : PyData → Option PyData} {w : Str} {x y : PyData} (h1 : ¬ w = "function") : chkSeq f [.str w, x, y] = none := by
  show chk3 _ _ _ _ = _
  unfold chk3
  rw [if_neg h1]
theorem ok_cks (n : Nat) (T : Txt K mg A) (G_checked_kind : FnOk P w K mg base (L2.CX P w) (2 * n + 3) A.a_checked_kind A.f_checked_kind ["kind", "deep"] (spCK A.c_BadKind n))
    (G_check_couples : FnOk P w K mg base (L2.CX P w) (2 * n + 4) A.a_check_couples A.f_check_couples ["couples", "deep"] (spCC A.c_BadKind n)) :
    FnOk P w K mg base (L2.CX P w) (2 * n + 5) A.a_checked_kind A.f_checked_kind ["kind", "deep"] (spCK A.c_BadKind (n + 1)) := by
  have G_BadKind := ok_bk (P := P) (w := w) (base := base) T
  have G_is_whole := ok_whole (P := P) (w := w) (base := base) T
  refine T.F_checked_kind.okX sc_checked_kind (fun vs H Q E h => ?_) (fun cdv Ar outer s H vs Q E hr h => ?_)
  · obtain ⟨v, d, M, rfl, _⟩ := h
    rfl
  · obtain ⟨v, d, M, rfl, hd, hM, kS, kN⟩ := h
    refine ⟨_, (pss_cons (ps_if (pt_cmpR opGt (pv 1) pe_int (nomark _)) (pss_one (psRaise0 rfl (W := fun cls d _ H => E cls d H) (takes_of rfl rfl rfl rfl) T.x_BadKind T.i_BadKind T.t_BadKind G_BadKind (hr.mono (by omega)) T.b_BadKind___init__ pass0 rfl T.g_BadKind)) pss_nil)
      (pss_cons (ps_if (PW.pt (pw_and (ptTr (K := K) (pe_callB (isiOne (K := K)) (by rfl) T.b_isinstance (by decide +kernel) (pa_cons (pv 0) (pa_cons (pe_bltn (v := .ty "str") (u := .type "str") (by rfl) T.b_str (by decide +kernel) rfl) pa_nil)))) (pw_and1 (pt_cmpR (opIn (K := K)) (pv 0) (pe_glob (v := .ref A.a_BASES) rfl T.g_BASES rfl) rfl)))) (pss_one (ps_ret (pv 0))) pss_nil)
      (pss_cons (ps_if (PW.pt (pw_or (pt_not (ptTr (K := K) (pe_callB (isiTup (K := K)) (by rfl) T.b_isinstance (by decide +kernel) (pa_cons (pv 0) (pa_cons (pe_tup (pa_cons (pe_bltn (v := .ty "list") (u := .type "list") (by rfl) T.b_list (by decide +kernel) rfl) (pa_cons (pe_bltn (v := .ty "tuple") (u := .type "tuple") (by rfl) T.b_tuple (by decide +kernel) rfl) pa_nil))) pa_nil))))) (pw_or (pt_cmpR opLt (pe_callB (lenAny (K := K)) (by rfl) T.b_len (by decide +kernel) (pa_cons (pv 0) pa_nil)) pe_int (nomark _)) (pw_or1 (pt_not (ptTr (K := K) (pe_callB (isiOne (K := K)) (by rfl) T.b_isinstance (by decide +kernel) (pa_cons (pe_ix (ixAny (K := K)) (pv 0) pe_int (fun _ _ => rfl)) (pa_cons (pe_bltn (v := .ty "str") (u := .type "str") (by rfl) T.b_str (by decide +kernel) rfl) pa_nil))))))))) (pss_one (psRaise0 rfl (W := fun cls d _ H => E cls d H) (takes_of rfl rfl rfl rfl) T.x_BadKind T.i_BadKind T.t_BadKind G_BadKind (hr.mono (by omega)) T.b_BadKind___init__ pass0 rfl T.g_BadKind)) pss_nil)
      (pss_cons (ps_set (i := 2) sc_checked_kind.nd rfl (by first | exact Or.inl rfl | exact Or.inr rfl) (pe_ix (ixAny (K := K)) (pv 0) pe_int (fun _ _ => rfl)))
      (pss_cons (ps_if (PW.pt (pw_and (pt_cmpR (opEq (K := K) hr) (pv 2) pe_str (nomark _)) (pw_and1 (pt_cmpR (opEq (K := K) hr) (pe_callB (lenAny (K := K)) (by rfl) T.b_len (by decide +kernel) (pa_cons (pv 0) pa_nil)) pe_int (nomark _))))) (pss_one (ps_ret (pe_tup (pa_cons pe_str (pa_cons (pe_callS G_checked_kind (hr.mono (by omega)) rfl T.g_checked_kind T.F_checked_kind.kp T.b_checked_kind (fun σ => passAt (W := fun cls d _ H => E cls d H) (takes_of rfl rfl rfl rfl) σ) (pa_cons (pe_ix (ixAny (K := K)) (pv 0) pe_int (fun _ _ => rfl)) (pa_cons (pe_op (opAdd (K := K)) (pv 1) pe_int) pa_nil))) pa_nil))))) pss_nil)
      (pss_cons (ps_if (PW.pt (pw_and (pt_cmpR (opEq (K := K) hr) (pv 2) pe_str (nomark _)) (pw_and1 (pt_cmpR (opEq (K := K) hr) (pe_callB (lenAny (K := K)) (by rfl) T.b_len (by decide +kernel) (pa_cons (pv 0) pa_nil)) pe_int (nomark _))))) (pss_one (ps_ret (pe_tup (pa_cons pe_str (pa_cons (pe_callS G_check_couples (hr.mono (by omega)) rfl T.g_check_couples T.F_check_couples.kp T.b_check_couples (fun σ => passAt (W := fun cls d _ H => E cls d H) (takes_of rfl rfl rfl rfl) σ) (pa_cons (pe_ix (ixAny (K := K)) (pv 0) pe_int (fun _ _ => rfl)) (pa_cons (pv 1) pa_nil))) pa_nil))))) pss_nil)
      (pss_cons (ps_if (PW.pt (pw_and (pt_cmpR (opEq (K := K) hr) (pv 2) pe_str (nomark _)) (pw_and1 (pt_cmpR (opEq (K := K) hr) (pe_callB (lenAny (K := K)) (by rfl) T.b_len (by decide +kernel) (pa_cons (pv 0) pa_nil)) pe_int (nomark _))))) (pss_one (ps_ret (pe_tup (pa_cons pe_str (pa_cons (pe_callS G_checked_kind (hr.mono (by omega)) rfl T.g_checked_kind T.F_checked_kind.kp T.b_checked_kind (fun σ => passAt (W := fun cls d _ H => E cls d H) (takes_of rfl rfl rfl rfl) σ) (pa_cons (pe_ix (ixAny (K := K)) (pv 0) pe_int (fun _ _ => rfl)) (pa_cons (pe_op (opAdd (K := K)) (pv 1) pe_int) pa_nil))) (pa_cons (pe_callS G_checked_kind (hr.mono (by omega)) rfl T.g_checked_kind T.F_checked_kind.kp T.b_checked_kind (fun σ => passAt (W := fun cls d _ H => E cls d H) (takes_of rfl rfl rfl rfl) σ) (pa_cons (pe_ix (ixAny (K := K)) (pv 0) pe_int (fun _ _ => rfl)) (pa_cons (pe_op (opAdd (K := K)) (pv 1) pe_int) pa_nil))) pa_nil)))))) pss_nil)
      (pss_cons (ps_if (PW.pt (pw_and (pt_cmpR (opEq (K := K) hr) (pv 2) pe_str (nomark _)) (pw_and (pt_cmpR (opEq (K := K) hr) (pe_callB (lenAny (K := K)) (by rfl) T.b_len (by decide +kernel) (pa_cons (pv 0) pa_nil)) pe_int (nomark _)) (pw_and (ptTr (K := K) (pe_call G_is_whole (hr.mono (by omega)) rfl T.g_is_whole T.F_is_whole.kp T.b_is_whole .nil pass0 (pa_cons (pe_ix (ixAny (K := K)) (pv 0) pe_int (fun _ _ => rfl)) pa_nil))) (pw_and1 (pt_cmpR opGe (pe_ix (ixAny (K := K)) (pv 0) pe_int (fun _ _ => rfl)) pe_int (nomark _))))))) (pss_one (ps_ret (pe_tup (pa_cons pe_str (pa_cons (pe_ix (ixAny (K := K)) (pv 0) pe_int (fun _ _ => rfl)) pa_nil))))) pss_nil)
      (pss_one (psRaise0 rfl (W := fun cls d _ H => E cls d H) (takes_of rfl rfl rfl rfl) T.x_BadKind T.i_BadKind T.t_BadKind G_BadKind (hr.mono (by omega)) T.b_BadKind___init__ pass0 rfl T.g_BadKind)))))))))), ?_⟩
    have hq := T.q_BASES H
    refine q_when (b := decide ((12 : Int) < 13 - ((n + 1 : Nat) : Int))) (by walk_at "et") (fun c => absurd (of_decide_eq_true c) (by omega)) (fun _ H1 e1 => ?_)
    by_cases hs : isStr d = true
    · obtain ⟨x, hx, rfl, rfl⟩ := hd.strOf hs
      have hd1 := hd.ex e1
      have hq := T.q_BASES H1
      refine q_when (b := isStr (.str x) && inV (.str x) [.str "int", .str "text", .str "truth"]) (by walk_at "et") (fun c H2 e2 => ?_) (fun c H2 e2 => ?_)
      · have c' : isBaseS x = true := by
          rw [← inBases]
          exact c
        exact s_ret (v := .str x) (by walk_at "ev") fun H3 e3 => kS (.str x) (.str x) H3 (by show (if isBaseS x then some (PyData.str x) else none) = _; rw [if_pos c']) ((e1.trans e2).trans e3) (.str x hx)
      · have c' : isBaseS x = false := by
          rw [← inBases]
          exact c
        have hd2 := hd1.ex e2
        have t : EvT (tNot (tTr K (tCB (rIsiT K) (tCons (tVar 0) (tCons (tTup (tCons (tC (V.ty "list")) (tCons (tC (V.ty "tuple")) tNil))) tNil))))) (L2.start N_checked_kind [.str x, .int (13 - ((n + 1 : Nat) : Int))]) H2 (!isSeq (.str x)) := by walk_at "et"
        exact q_when (b := true) (et_or1 t) (fun _ H3 e3 => raise_bk ((kN (by show (if isBaseS x then some (PyData.str x) else none) = _; rw [c']; rfl)).same ((e1.trans e2).trans e3))) (fun c => by cases c)
    · have hs' : isStr d = false := by simpa using hs
      have hd1 := hd.ex e1
      have t1 : EvT (tTr K (tCB (rIsi K) (tCons (tVar 0) (tCons (tC (V.ty "str")) tNil)))) (L2.start N_checked_kind [v, .int (13 - ((n + 1 : Nat) : Int))]) H1 (isStr d) := by walk_at "et"
      rw [hs'] at t1
      refine q_when (b := false) (et_and0 t1) (fun c => by cases c) (fun _ H2 e2 => ?_)
      have hd2 := hd1.ex e2
      have t : EvT (tNot (tTr K (tCB (rIsiT K) (tCons (tVar 0) (tCons (tTup (tCons (tC (V.ty "list")) (tCons (tC (V.ty "tuple")) tNil))) tNil))))) (L2.start N_checked_kind [v, .int (13 - ((n + 1 : Nat) : Int))]) H2 (!isSeq d) := by walk_at "et"
      by_cases hq : isSeq d = true
      · rw [hq] at t
        obtain ⟨a, xs, rfl, hA, rs⟩ := hd2.seqOf (K := K) hq
        have hchk := chk_seq (n := n) hq
        rw [hchk] at kS kN
        have e12 := e1.trans e2
        generalize hds : itemsD d = ds at kS kN rs
        rcases ds with _ | ⟨d0, _ | ⟨d1, r⟩⟩
        · cases rs
          exact q_when (b := true) (et_or0 t (et_or1 (et_is (by walk_at "et") rfl))) (fun _ H3 e3 => raise_bk ((kN rfl).same (e12.trans e3))) (fun c => by cases c)
        · cases rs with
          | cons h0 rs => cases rs with
            | nil => exact q_when (b := true) (et_or0 t (et_or1 (et_is (by walk_at "et") rfl))) (fun _ H3 e3 => raise_bk ((kN (by cases d0 <;> rfl)).same (e12.trans e3))) (fun c => by cases c)
        · cases rs with
          | @cons x0 _ _ _ h0 rs => cases rs with
            | @cons x1 xr _ _ h1 rs =>
              have a0 : atI (x0 :: x1 :: xr) 0 = some x0 := at_nat (j := 0) rfl
              have a1 : atI (x0 :: x1 :: xr) 1 = some x1 := at_nat (j := 1) rfl
              have l2 : decide (((x0 :: x1 :: xr).length : Int) < 2) = false := decide_eq_false (by simp only [List.length_cons]; omega)
              have tl : EvT (tTest (tOp rLtA (tCB (rLen K) (tCons (tVar 0) tNil)) (tC (V.int 2)))) (L2.start N_checked_kind [.ref a, .int (13 - ((n + 1 : Nat) : Int))]) H2 false := by
                rw [← l2]
                walk_at "et"
              have t0 : EvT (tTr K (tCB (rIsi K) (tCons (tOp (rIx K) (tVar 0) (tC (V.int 0))) (tCons (tC (V.ty "str")) tNil)))) (L2.start N_checked_kind [.ref a, .int (13 - ((n + 1 : Nat) : Int))]) H2 (isStr d0) := by
                walk_at "et"
              by_cases hw : isStr d0 = true
              · rw [hw] at t0
                obtain ⟨w, hwl, rfl, rfl⟩ := h0.strOf hw
                refine q_when (b := false) (et_or0 t (et_or0 tl (et_no t0))) (fun c => by cases c) (fun _ H3 e3 => ?_)
                have hA3 := hA.ex e3
                refine q_asg (i := 2) (v := .str w) (by walk_at "ev") fun H4 e4 => ?_
                have hA4 := hA3.ex e4
                have e14 := (e12.trans e3).trans e4
                have h1' := h1.ex (e3.trans e4)
                have k1 : (2 : Int) - 1 = 1 := rfl
                have dn : ∀ {σ : L2.St} {H' : Hp} (_ : σ[1]? = some (some (.int (13 - ((n + 1 : Nat) : Int))))), Ev (tOp (rAddA K) (tVar 1) (tC (.int 1))) σ H' (.int (13 - (n : Int))) := fun hσ =>
                  ev_is (ev_op (ev_var hσ) ev_c rv_addI) (by congr 1; omega)
                refine q_when (b := decide (V.str w = .str "list") && decide (V.int ((V.str w :: x1 :: xr).length : Nat) = .int 2)) (by walk_at "et") (fun c H5 e5 => ?_) (fun c1 H5 e5 => ?_)
                · obtain ⟨rfl, cl⟩ := two_of c
                  obtain rfl := len2 cl
                  obtain rfl := ats_nil rs
                  rw [cs_list] at kS kN
                  have e15 := e14.trans e5
                  have hA5 := hA4.ex e5
                  refine o_ret (o := _) (eo_tup (es_cons (eo_of ev_c (.str _ (by decide))) (es_cons (eo_ck (h1'.ex e5) (hM.same e15) (fun h => (kN (by rw [h]; rfl)).same e15) (ea_cons (by walk_at "ev") (ea_cons (dn rfl) ea_nil))) es_nil)) (hM.same e15) ?_) ?_
                  · intro ds h
                    cases hx : chk n d1 <;> rw [hx] at h <;> cases h
                    show 2 ≤ 100000
                    decide
                  · intro d' v' H6 h e6 a6
                    refine kS d' v' H6 ?_ (e15.trans e6) a6
                    rw [← h]
                    cases chk n d1 <;> rfl
                · have hA5 := hA4.ex e5
                  refine q_when (b := decide (V.str w = .str "record") && decide (V.int ((V.str w :: x1 :: xr).length : Nat) = .int 2)) (by walk_at "et") (fun c H6 e6 => ?_) (fun c2 H6 e6 => ?_)
                  · obtain ⟨rfl, cl⟩ := two_of c
                    obtain rfl := len2 cl
                    obtain rfl := ats_nil rs
                    rw [cs_record] at kS kN
                    have e16 := (e14.trans e5).trans e6
                    have hA6 := hA5.ex e6
                    have dn0 : ∀ {σ : L2.St} {H' : Hp} (_ : σ[1]? = some (some (.int (13 - ((n + 1 : Nat) : Int))))), Ev (tVar 1) σ H' (.int (12 - (n : Int))) := fun hσ =>
                      ev_is (ev_var hσ) (by congr 1; omega)
                    refine o_ret (o := _) (eo_tup (es_cons (eo_of ev_c (.str _ (by decide))) (es_cons (eo_cc (h1'.ex (e5.trans e6)) (hM.same e16) (fun h => (kN (by rw [h]; rfl)).same e16) (ea_cons (by walk_at "ev") (ea_cons (dn0 rfl) ea_nil))) es_nil)) (hM.same e16) ?_) ?_
                    · intro ds h
                      cases hx : cplD (chk n) d1 <;> rw [hx] at h <;> cases h
                      show 2 ≤ 100000
                      decide
                    · intro d' v' H7 h e7 a7
                      refine kS d' v' H7 ?_ (e16.trans e7) a7
                      rw [← h]
                      cases cplD (chk n) d1 <;> rfl
                  · have hA6 := hA5.ex e6
                    refine q_when (b := decide (V.str w = .str "function") && decide (V.int ((V.str w :: x1 :: xr).length : Nat) = .int 3)) (by walk_at "et") (fun c H7 e7 => ?_) (fun c3 H7 e7 => ?_)
                    · obtain ⟨rfl, cl⟩ := two_of c
                      obtain ⟨x2, rfl⟩ := len3 cl
                      cases rs with
                      | @cons _ _ d2 _ h2 rs =>
                      obtain rfl := ats_nil rs
                      rw [cs_function] at kS kN
                      have e17 := ((e14.trans e5).trans e6).trans e7
                      have hA7 := hA6.ex e7
                      have a2 : atI [V.str "function", x1, x2] 2 = some x2 := at_nat (j := 2) rfl
                      have h2' := h2.ex (((e3.trans e4).trans (e5.trans e6)).trans e7)
                      refine o_ret (o := _) (eo_tup (es_cons (eo_of ev_c (.str _ (by decide))) (es_cons (eo_ck (h1'.ex ((e5.trans e6).trans e7)) (hM.same e17) (fun h => (kN (by rw [h]; rfl)).same e17) (ea_cons (by walk_at "ev") (ea_cons (dn rfl) ea_nil)))
                        (es_cons (eo_ck h2' (hM.same e17) (fun h => (kN (by rw [h]; cases chk n d1 <;> rfl)).same e17) (ea_cons (by walk_at "ev") (ea_cons (dn rfl) ea_nil))) es_nil))) (hM.same e17) ?_) ?_
                      · intro ds h
                        cases hx : chk n d1 <;> rw [hx] at h <;> cases hy : chk n d2 <;> rw [hy] at h <;> cases h
                        show 3 ≤ 100000
                        decide
                      · intro d' v' H8 h e8 a8
                        refine kS d' v' H8 ?_ (e17.trans e8) a8
                        rw [← h]
                        cases chk n d1 <;> cases chk n d2 <;> rfl
                    · have hA7 := hA6.ex e7
                      have e17 := ((e14.trans e5).trans e6).trans e7
                      have h1'' := (h1'.ex ((e5.trans e6).trans e7)).zero
                      refine q_when (b := decide (V.str w = .str "any") && (decide (V.int ((V.str w :: x1 :: xr).length : Nat) = .int 2) && (wholeD d1 && geD d1))) (et_and (by walk_at "et") fun _ => et_and (by walk_at "et") fun _ => et_and (by walk_at "et") fun hw => ?_) (fun c H8 e8 => ?_) (fun c4 H8 e8 => ?_)
                      · cases h1'' with
                        | int i => walk_at "et"
                        | _ => cases hw
                      · rw [← Bool.and_assoc, Bool.and_eq_true] at c
                        obtain ⟨rfl, cl⟩ := two_of c.1
                        obtain rfl := len2 cl
                        obtain rfl := ats_nil rs
                        rw [cs_any, anyD, if_pos c.2] at kS kN
                        have hA8 := hA7.ex e8
                        refine o_ret (o := _) (eo_tup (es_cons (eo_of ev_c (.str _ (by decide))) (es_cons (eo_of (by walk_at "ev") (h1'.ex (((e5.trans e6).trans e7).trans e8))) es_nil)) (hM.same (e17.trans e8)) ?_) ?_
                        · intro ds h
                          cases h
                          show 2 ≤ 100000
                          decide
                        · exact fun d' v' H9 h e9 a9 => kS d' v' H9 h ((e17.trans e8).trans e9) a9
                      · refine raise_bk ((kN ?_).same (e17.trans e8))
                        rcases r with _ | ⟨d2, _ | ⟨d3, r⟩⟩
                        · cases rs
                          refine cs_none2 (fun h => two_no c1 h rfl) (fun h => two_no c2 h rfl) fun h => ?_
                          subst h
                          simpa using c4
                        · cases rs with
                          | cons h2 rs => cases rs with
                            | nil => exact cs_none3 (fun h => two_no c3 h rfl)
                        · rfl
              · have hw' : isStr d0 = false := by simpa using hw
                rw [hw'] at t0
                exact q_when (b := true) (et_or0 t (et_or0 tl (et_ya t0))) (fun _ H3 e3 => raise_bk ((kN (chkSeq_odd hw')).same (e12.trans e3))) (fun c => by cases c)
      · have hq' : isSeq d = false := by simpa using hq
        rw [hq'] at t
        exact q_when (b := true) (et_or1 t) (fun _ H3 e3 => raise_bk ((kN (chk_odd hq' hs')).same ((e1.trans e2).trans e3))) (fun c => by cases c)
end
end K1
set_option Elab.async false
set_option linter.all false
set_option maxRecDepth 100000
set_option maxHeartbeats 4000000
namespace K1
open PySem PySem.Spec PyProof.Rows L2 LK Evl
local macro_rules | `(tactic| walk_at "rv") => `(tactic| first
  | exact rv_addI | exact rv_I0 | exact rv_I (by decide) | exact rv_I (Or.inr (by omega)) | exact rv_I (Or.inl (by omega)) | exact rv_I (by omega) | exact rv_I ⟨by omega, by omega⟩ | exact rv_I ⟨by decide, by decide, by decide⟩ | exact rv_ltI | exact rv_leI | exact rv_gtI | exact rv_geI | exact rv_eqS rfl | exact rv_neS rfl | exact rv_leS | exact rv_ltS
  | exact rv_inC | exact rv_niC | exact rv_isBl | exact rv_isntBl | exact rv_isN | exact rv_isntN
  | exact rv_xA (by assumption) (by assumption) | exact rv_xT (by assumption) (by assumption) | exact rv_xL (by assumption) (by assumption) | exact rv_xS (by assumption) (by assumption)
  | exact rv_xT (by assumption) rfl | exact rv_xL (by assumption) rfl | exact rv_inA (by assumption) rfl rfl | exact rv_addS (by assumption))
local macro_rules | `(tactic| walk_at "rc") => `(tactic| first
  | exact rc_int | exact rc_ord | exact rc_lenS (by assumption) | exact rc_lenL (by assumption) | exact rc_lenT (by assumption) | exact rc_lenA (by assumption) | exact rc_isiS (by assumption) | exact rc_isiI (by assumption) | exact rc_isiB (by assumption) | exact rc_isiL (by assumption) | exact rc_isiT (by assumption))
local macro_rules | `(tactic| walk_at "ea") => `(tactic| first | exact ea_nil | (apply ea_cons; walk_at "ev"; walk_at "ea"))
local macro_rules | `(tactic| walk_at "ev") => `(tactic| first
  | assumption
  | exact ev_var rfl
  | exact ev_c
  | (apply ev_op; walk_at "ev"; walk_at "ev"; walk_at "rv")
  | (apply ev_un; walk_at "ev"; exact ru_neg)
  | (apply ev_isiLT; walk_at "ev"; assumption)
  | (apply ev_call; walk_at "ea"; walk_at "sv")
  | (apply ev_cb; walk_at "ea"; walk_at "rc")
  | (apply ev_if; walk_at "et"; (intro _; walk_at "ev"); (intro _; walk_at "ev"))
  | (apply ev_chain; walk_at "ev"; walk_at "ev"; walk_at "rv"; walk_at "ev"; walk_at "rv")
  | (apply ev_notV; walk_at "ev")
  | (apply ev_andV; walk_at "ev"; (intro _; walk_at "ev"))
  | (apply ev_orV; walk_at "ev"; (intro _; walk_at "ev")))
local macro_rules | `(tactic| walk_at "et") => `(tactic| first
  | assumption
  | (apply et_test; walk_at "ev")
  | (apply et_B; walk_at "ev")
  | (apply et_not; walk_at "et")
  | (apply et_and; walk_at "et"; (intro _; walk_at "et"))
  | (apply et_or; walk_at "et"; (intro _; walk_at "et"))
  | (apply et_tru; walk_at "ev"; walk_at "tru"))
local macro_rules | `(tactic| walk_at "tru") => `(tactic| first | exact tr_bl | exact tr_L (by assumption) | exact tr_T (by assumption) | exact tr_A (by assumption))
local macro_rules | `(tactic| walk_at "sv") => `(tactic| first | exact sv_whole (by assumption) | exact sv_row (by assumption) | exact sv_name (by assumption) | exact sv_fits (by assumption))
section
variable {P : Program} {w : World} {K : PySem.W.Frag} {mg : Str → Option Value} {base : Heap} {A : Adr}
theorem lenD_seq {d : PyData} (h : isSeq d = true) : lenD d = (itemsD d).length := by
  cases d <;> first | rfl | (cases h; done)
theorem step_row {f : PyData → Option PyData} {acc : List PyData} {d : PyData} (h : rowD d 2 = false) : cplStep f acc d = none := by
  unfold cplStep
  by_cases hs : isSeq d = true
  · rw [if_pos hs]
    have hl : ¬ (itemsD d).length = 2 := fun e => by
      unfold rowD at h
      rw [hs, lenD_seq hs, e] at h
      simp at h
    generalize itemsD d = l at hl
    rcases l with _ | ⟨a, _ | ⟨b, _ | _⟩⟩
    · rfl
    · cases a <;> rfl
    · exact absurd rfl hl
    · cases a <;> rfl
  · rw [if_neg hs]
theorem row_two {d : PyData} (h : rowD d 2 = true) : isSeq d = true ∧ ∃ a b, itemsD d = [a, b] := by
  unfold rowD at h
  rw [Bool.and_eq_true] at h
  obtain ⟨h1, h2⟩ := h
  rw [lenD_seq h1] at h2
  have hl : (itemsD d).length = 2 := by
    have h3 := of_decide_eq_true h2
    omega
  refine ⟨h1, ?_⟩
  generalize itemsD d = l at hl
  rcases l with _ | ⟨a, _ | ⟨b, _ | _⟩⟩
  · cases hl
  · cases hl
  · exact ⟨a, b, rfl⟩
  · simp at hl
theorem step_two {f : PyData → Option PyData} {acc : List PyData} {d a b : PyData} (h : isSeq d = true) (hi : itemsD d = [a, b]) : cplStep f acc d = cplPair f acc [a, b] := by
  unfold cplStep
  rw [if_pos h, hi]
theorem pair_name {f : PyData → Option PyData} {acc : List PyData} {a b : PyData} (h : nameD a = false) : cplPair f acc [a, b] = none := by
  cases a <;> first | rfl | (show (if (nameL _ && lastOk acc _) = true then _ else none) = none; rw [show nameL _ = false from h]; rfl)
theorem pair_last {f : PyData → Option PyData} {acc : List PyData} {s : Str} {b : PyData} (h : lastOk acc s = false) : cplPair f acc [.str s, b] = none := by
  show (if (nameL _ && lastOk acc _) = true then _ else none) = none
  rw [h, Bool.and_false]
  rfl
theorem pair_ok {f : PyData → Option PyData} {acc : List PyData} {s : Str} {b : PyData} (h1 : nameD (.str s) = true) (h : lastOk acc s = true) : cplPair f acc [.str s, b] = (f b).map fun k' => acc ++ [.tuple [.str s, k']] := by
  show (if (nameL _ && lastOk acc _) = true then _ else none) = _
  rw [h, show nameL _ = true from h1]
  rfl
theorem name_str {d : PyData} (h : nameD d = true) : isStr d = true := by
  cases d <;> first | rfl | (cases h; done)
theorem last_at {acc : List PyData} {p s : Str} {r : List PyData} : lastOk (acc ++ [.tuple (.str p :: r)]) s = decide (p.cps.toList < s.cps.toList) := by
  unfold lastOk
  rw [List.getLast?_concat]
theorem ok_cc (n : Nat) (T : Txt K mg A) (G_checked_kind : FnOk P w K mg base (L2.CX P w) (2 * n + 3) A.a_checked_kind A.f_checked_kind ["kind", "deep"] (spCK A.c_BadKind n)) :
    FnOk P w K mg base (L2.CX P w) (2 * n + 4) A.a_check_couples A.f_check_couples ["couples", "deep"] (spCC A.c_BadKind n) := by
  have G_BadKind := ok_bk (P := P) (w := w) (base := base) T
  have G_is_row := ok_row (P := P) (w := w) (base := base) T
  have G_is_name := ok_name (P := P) (w := w) (base := base) T
  refine T.F_check_couples.okX sc_check_couples (fun vs H Q E h => ?_) (fun cdv Ar outer s H vs Q E hr h => ?_)
  · obtain ⟨v, d, M, rfl, _⟩ := h
    rfl
  · obtain ⟨v, d, M, rfl, hd, hM, kS, kN⟩ := h
    refine ⟨_, (pss_cons (ps_if (PW.pt (pw_or (pt_not (ptTr (K := K) (pe_callB (isiTup (K := K)) (by rfl) T.b_isinstance (by decide +kernel) (pa_cons (pv 0) (pa_cons (pe_tup (pa_cons (pe_bltn (v := .ty "list") (u := .type "list") (by rfl) T.b_list (by decide +kernel) rfl) (pa_cons (pe_bltn (v := .ty "tuple") (u := .type "tuple") (by rfl) T.b_tuple (by decide +kernel) rfl) pa_nil))) pa_nil))))) (pw_or1 (pt_cmpR opGt (pe_callB (lenAny (K := K)) (by rfl) T.b_len (by decide +kernel) (pa_cons (pv 0) pa_nil)) pe_int (nomark _))))) (pss_one (psRaise0 rfl (W := fun cls d _ H => E cls d H) (takes_of rfl rfl rfl rfl) T.x_BadKind T.i_BadKind T.t_BadKind G_BadKind (hr.mono (by omega)) T.b_BadKind___init__ pass0 rfl T.g_BadKind)) pss_nil)
      (pss_cons (ps_set (i := 2) sc_check_couples.nd rfl (by first | exact Or.inl rfl | exact Or.inr rfl) (pe_lst pa_nil))
      (pss_cons (ps_for (passes_of rfl) rfl (pi_seq (K := K) (pv 0)) (pg_name (i := 3) sc_check_couples.nd rfl (by first | exact Or.inl rfl | exact Or.inr rfl)) (pss_cons (ps_if (PW.pt (pw_or (pt_not (ptTr (K := K) (pe_call G_is_row (hr.mono (by omega)) rfl T.g_is_row T.F_is_row.kp T.b_is_row .nil pass0 (pa_cons (pv 3) (pa_cons pe_int pa_nil))))) (pw_or1 (pt_not (ptTr (K := K) (pe_call G_is_name (hr.mono (by omega)) rfl T.g_is_name T.F_is_name.kp T.b_is_name .nil pass0 (pa_cons (pe_ix (ixAny (K := K)) (pv 3) pe_int (fun _ _ => rfl)) pa_nil))))))) (pss_one (psRaise0 rfl (W := fun cls d _ H => E cls d H) (takes_of rfl rfl rfl rfl) T.x_BadKind T.i_BadKind T.t_BadKind G_BadKind (hr.mono (by omega)) T.b_BadKind___init__ pass0 rfl T.g_BadKind)) pss_nil)
      (pss_cons (ps_if (PW.pt (pw_and (ptTr (K := K) (pv 2)) (pw_and1 (pt_not (pt_cmpR opLt (pe_ix (ixAny (K := K)) (pe_ix (ixAny (K := K)) (pv 2) (pe_un un_neg pe_int) (fun _ _ => rfl)) pe_int (fun _ _ => rfl)) (pe_ix (ixAny (K := K)) (pv 3) pe_int (fun _ _ => rfl)) (nomark _)))))) (pss_one (psRaise0 rfl (W := fun cls d _ H => E cls d H) (takes_of rfl rfl rfl rfl) T.x_BadKind T.i_BadKind T.t_BadKind G_BadKind (hr.mono (by omega)) T.b_BadKind___init__ pass0 rfl T.g_BadKind)) pss_nil)
      (pss_one (ps_expr (pe_bm PySem.F.plainAttrs_list PySem.F.slot_list_append PySem.F.type_list_append mt_append (pv 2) (pa_cons (pe_tup (pa_cons (pe_ix (ixAny (K := K)) (pv 3) pe_int (fun _ _ => rfl)) (pa_cons (pe_callS G_checked_kind (hr.mono (by omega)) rfl T.g_checked_kind T.F_checked_kind.kp T.b_checked_kind (fun σ => passAt (W := fun cls d _ H => E cls d H) (takes_of rfl rfl rfl rfl) σ) (pa_cons (pe_ix (ixAny (K := K)) (pv 3) pe_int (fun _ _ => rfl)) (pa_cons (pe_op (opAdd (K := K)) (pv 1) pe_int) pa_nil))) pa_nil))) pa_nil)))))))
      (pss_one (ps_ret (pe_callTy (tupOf (K := K)) (by rfl) T.b_tuple (by decide +kernel) (pa_cons (pv 2) pa_nil))))))), ?_⟩
    have t : EvT (tNot (tTr K (tCB (rIsiT K) (tCons (tVar 0) (tCons (tTup (tCons (tC (V.ty "list")) (tCons (tC (V.ty "tuple")) tNil))) tNil))))) (L2.start N_check_couples [v, .int (12 - (n : Int))]) H (!isSeq d) := by walk_at "et"
    by_cases hq : isSeq d = true
    · rw [hq] at t
      obtain ⟨a, xs, rfl, hA, rs⟩ := hd.seqOf (K := K) hq
      have hlen := rs.len
      refine q_when (b := !true || decide ((5 : Int) < (xs.length : Nat))) (et_or t fun _ => by walk_at "et") (fun c H1 e1 => raise_bk ((kN ?_).same e1)) (fun c H1 e1 => ?_)
      · have c' : ¬ (itemsD d).length ≤ 5 := by
          simp at c
          omega
        unfold cplD
        rw [hq, decide_eq_false c']
        rfl
      · have c' : (itemsD d).length ≤ 5 := by
          simp at c
          omega
        have hc : cplD (chk n) d = cplAll (chk n) [] (itemsD d) := by
          unfold cplD
          rw [hq, decide_eq_true c']
          rfl
        rw [hc] at kS kN
        refine q_asgL (i := 2) (xs := []) (el_lst ea_nil (by decide)) fun q H2 hq2 e2 h2 => ?_
        have hA1 := hA.ex e1
        have e12 := e1.trans e2
        have dn : ∀ {σ : L2.St} {H' : Hp} (_ : σ[1]? = some (some (.int (12 - (n : Int))))), Ev (tOp (rAddA K) (tVar 1) (tC (.int 1))) σ H' (.int (13 - (n : Int))) := fun hσ =>
          ev_is (ev_op (ev_var hσ) ev_c rv_addI) (by congr 1; omega)
        have rs1 := (rs.ex e1).add hq2
        refine q_forA (Hb := H1) (xs := xs) (ev_var rfl) hA1 (fun i σ' H' => Ex H1 H' ∧ ∃ (ws : List V) (acc : List PyData) (c : Option V), σ' = [some (.ref a), some (.int (12 - (n : Int))), some (.ref q), c] ∧
          H' q = some (.lst ws) ∧ Ats (And1 M q) H' ws acc ∧ ws.length ≤ i ∧ (∀ z ∈ acc, ∃ p k, z = .tuple [.str p, k]) ∧ cplAll (chk n) acc ((itemsD d).drop i) = cplAll (chk n) [] (itemsD d))
          (fun H3 e3 => ⟨e2.trans e3, [], [], none, rfl, e3 _ _ h2, .nil, Nat.le_refl _, (by simp), rfl⟩) (fun i σ' H' p => p.1) ?_ ?_
        · rintro i x σ' H3 hx ⟨e3, ws, acc, c0, rfl, hw, hws, hl, hsh, hall⟩
          have hi : i < xs.length := (List.getElem?_eq_some_iff.mp hx).1
          obtain ⟨di, hdi, ai⟩ := rs1.get hx
          have ai3 := ai.ex e3
          have a03 := ai3.zero
          have hM3 : Trk (And1 M q) H3 := (hM.same (e1.trans e3)).add hw
          have hdr : (itemsD d).drop i = di :: (itemsD d).drop (i + 1) := by
            obtain ⟨h1, h2⟩ := List.getElem?_eq_some_iff.mp hdi
            rw [List.drop_eq_getElem_cons h1, h2]
          rw [hdr] at hall
          have e13 := e1.trans e3
          have bad : ∀ {H4 : Hp}, Ex H3 H4 → cplStep (chk n) acc di = none → Bad A.c_BadKind E H4 := fun e4 h => (kN (by
            rw [← hall]
            show (cplStep (chk n) acc di).bind _ = none
            rw [h]
            rfl)).same (e13.trans e4)
          have tr : EvT (tTr K (tCall spRow [] E0 (tCons (tVar 3) (tCons (tC (V.int 2)) tNil)))) [some (.ref a), some (.int (12 - (n : Int))), some (.ref q), some x] H3 (rowD di 2) := by walk_at "et"
          by_cases hr2 : rowD di 2 = true
          · rw [hr2] at tr
            obtain ⟨sq, l, kk, hit⟩ := row_two hr2
            obtain ⟨b, ys, rfl, hB, ys2⟩ := ai3.seqOf (K := K) sq
            rw [hit] at ys2
            rw [step_two sq hit] at bad
            have hst := step_two (f := chk n) (acc := acc) sq hit
            cases ys2 with
            | @cons y0 _ _ _ l3 ys2 => cases ys2 with
              | @cons y1 _ _ _ k3 ys2 =>
              cases ys2
              have l30 := l3.zero
              have b0 : atI [y0, y1] 0 = some y0 := at_nat (j := 0) rfl
              have b1 : atI [y0, y1] 1 = some y1 := at_nat (j := 1) rfl
              have tn : EvT (tTr K (tCall spName [] E0 (tCons (tOp (rIx K) (tVar 3) (tC (V.int 0))) tNil))) [some (.ref a), some (.int (12 - (n : Int))), some (.ref q), some (.ref b)] H3 (nameD l) := by walk_at "et"
              by_cases hn : nameD l = true
              · rw [hn] at tn
                obtain ⟨s, hs, rfl, rfl⟩ := l3.strOf (name_str hn)
                refine q_when (b := false) (et_or0 (et_no tr) (et_no tn)) (fun c => by cases c) (fun c H4 e4 => ?_)
                have hB4 := hB.ex e4
                have hws4 := hws.ex e4
                have hw4 := e4 _ _ hw
                have hW4 : SqL K H4 q ws := .of hw4
                have t2 : EvT (tAnd (tTr K (tVar 2)) (tNot (tTest (tOp rLtA (tOp (rIx K) (tOp (rIx K) (tVar 2) (tUn (rU fun i => V.int (-i)) (tC (V.int 1)))) (tC (V.int 0))) (tOp (rIx K) (tVar 3) (tC (V.int 0)))))))
                    [some (.ref a), some (.int (12 - (n : Int))), some (.ref q), some (.ref b)] H4 (!lastOk acc s) := by
                  rcases List.eq_nil_or_concat acc with rfl | ⟨acc', z, rfl⟩
                  · cases hws
                    exact et_and0 (et_tru (ev_var rfl) (tr_L hW4))
                  · rw [List.concat_eq_append] at hws4 hsh ⊢
                    obtain ⟨p, k0, rfl⟩ := hsh z (by simp)
                    obtain ⟨ws', wz, rfl, _, hz⟩ := hws4.concat
                    cases hz with
                    | @tup r zs _ _ hr rz => cases rz with
                      | @cons z0 zr _ _ hz0 rz => cases hz0 with
                        | str _ hp =>
                        have zl : atI (ws' ++ [V.ref r]) (-1) = some (.ref r) := atI_last _ _
                        have z0 : atI (V.str p :: zr) 0 = some (.str p) := at_nat (j := 0) rfl
                        have hR : SqT K H4 r (V.str p :: zr) := .of hr
                        rw [last_at]
                        refine et_is (et_and1 (et_is (et_tru (ev_var rfl) (tr_L hW4)) (by simp)) (et_not (et_test (by walk_at "ev")))) rfl
                refine q_when (b := !lastOk acc s) t2 (fun c H5 e5 => raise_bk (bad (e4.trans e5) (pair_last (by simpa using c)))) (fun c H5 e5 => ?_)
                have hlast : lastOk acc s = true := by simpa using c
                replace hall : (cplStep (chk n) acc di).bind (fun acc' => cplAll (chk n) acc' ((itemsD d).drop (i + 1))) = cplAll (chk n) [] (itemsD d) := hall
                rw [hst, pair_ok hn hlast] at hall
                rw [pair_ok hn hlast] at bad
                have hw5 := e5 _ _ hw4
                have hB5 := hB4.ex e5
                have e45 := e4.trans e5
                refine o_app (M := And1 M q) (o := _) hw5 (ev_var rfl) (eo_tup (es_cons (eo_of (v := .str s) (by walk_at "ev") (.str s hs)) (es_cons (eo_ck (k3.ex e45) (hM3.same e45) (fun h => bad e45 (by rw [h]; rfl))
                  (ea_cons (by walk_at "ev") (ea_cons (dn rfl) ea_nil))) es_nil)) (hM3.same e45) ?_) (by omega) ?_
                · intro ds h
                  cases hx : chk n kk <;> rw [hx] at h <;> cases h
                  show 2 ≤ 100000
                  decide
                · intro d' v' H6 h e6 a6
                  cases hx : chk n kk with
                  | none =>
                    rw [hx] at h
                    cases h
                  | some kd =>
                    rw [hx] at h hall
                    cases h
                    have kp : Keep (And1 M q) H6 (upd H6 q (.lst (ws ++ [v']))) := (Keep.refl _ _).put (.inr rfl)
                    refine ⟨Ex.mut (e3.trans (e45.trans e6)) hq2, ws ++ [v'], acc ++ [.tuple [.str s, kd]], some (.ref b), rfl, upd_same, ((hws4.ex (e5.trans e6)).append (.one a6)).keep kp, ?_, ?_, ?_⟩
                    · simp only [List.length_append, List.length_singleton]
                      omega
                    · intro z hz
                      rcases List.mem_append.mp hz with hz | hz
                      · exact hsh z hz
                      · exact ⟨s, kd, List.mem_singleton.mp hz⟩
                    · rw [← hall]
                      rfl
              · have hn' : nameD l = false := by simpa using hn
                rw [hn'] at tn
                exact q_when (b := true) (et_or0 (et_no tr) (et_ya tn)) (fun c H4 e4 => raise_bk (bad e4 (pair_name hn'))) (fun c => by cases c)
          · have hr' : rowD di 2 = false := by simpa using hr2
            rw [hr'] at tr
            exact q_when (b := true) (et_or1 (et_ya tr)) (fun c H4 e4 => raise_bk (bad e4 (step_row hr'))) (fun c => by cases c)
        · rintro σ' H3 ⟨e3, ws, acc, c0, rfl, hw, hws, hl, hsh, hall⟩
          refine s_tupOf (ev_var rfl) (.of hw) fun p H4 hp e4 h4 => kS acc (.ref p) H4 ?_ (e1.trans (e3.trans e4)) (.tup (Trk.fresh (hM.same (e1.trans e3)) hp) h4 ((hws.ex e4).weak fun _ z => .inl z))
          rw [← hall, List.drop_eq_nil_of_le (by omega)]
          rfl
    · have hq' : isSeq d = false := by simpa using hq
      rw [hq'] at t
      refine q_when (b := true) (et_or1 t) (fun _ H1 e1 => raise_bk ((kN ?_).same e1)) (fun c => by cases c)
      unfold cplD
      rw [hq']
      rfl
end
end K1
set_option Elab.async false
set_option linter.all false
set_option maxRecDepth 100000
set_option maxHeartbeats 4000000
namespace K1
open PySem PySem.Spec PyProof.Rows L2 LK Evl
local macro_rules | `(tactic| walk_at "rv") => `(tactic| first
  | exact rv_addI | exact rv_I0 | exact rv_I (by decide) | exact rv_I (Or.inr (by omega)) | exact rv_I (Or.inl (by omega)) | exact rv_I (by omega) | exact rv_I ⟨by omega, by omega⟩ | exact rv_I ⟨by decide, by decide, by decide⟩ | exact rv_ltI | exact rv_leI | exact rv_gtI | exact rv_geI | exact rv_eqS rfl | exact rv_neS rfl | exact rv_leS | exact rv_ltS
  | exact rv_inC | exact rv_niC | exact rv_isBl | exact rv_isntBl | exact rv_isN | exact rv_isntN
  | exact rv_xA (by assumption) (by assumption) | exact rv_xT (by assumption) (by assumption) | exact rv_xL (by assumption) (by assumption) | exact rv_xS (by assumption) (by assumption)
  | exact rv_xT (by assumption) rfl | exact rv_xL (by assumption) rfl | exact rv_inA (by assumption) rfl rfl | exact rv_addS (by assumption))
local macro_rules | `(tactic| walk_at "rc") => `(tactic| first
  | exact rc_int | exact rc_ord | exact rc_lenS (by assumption) | exact rc_lenL (by assumption) | exact rc_lenT (by assumption) | exact rc_lenA (by assumption) | exact rc_isiS (by assumption) | exact rc_isiI (by assumption) | exact rc_isiB (by assumption) | exact rc_isiL (by assumption) | exact rc_isiT (by assumption))
local macro_rules | `(tactic| walk_at "ea") => `(tactic| first | exact ea_nil | (apply ea_cons; walk_at "ev"; walk_at "ea"))
local macro_rules | `(tactic| walk_at "ev") => `(tactic| first
  | assumption
  | exact ev_var rfl
  | exact ev_c
  | (apply ev_op; walk_at "ev"; walk_at "ev"; walk_at "rv")
  | (apply ev_un; walk_at "ev"; exact ru_neg)
  | (apply ev_isiLT; walk_at "ev"; assumption)
  | (apply ev_call; walk_at "ea"; walk_at "sv")
  | (apply ev_cb; walk_at "ea"; walk_at "rc")
  | (apply ev_if; walk_at "et"; (intro _; walk_at "ev"); (intro _; walk_at "ev"))
  | (apply ev_chain; walk_at "ev"; walk_at "ev"; walk_at "rv"; walk_at "ev"; walk_at "rv")
  | (apply ev_notV; walk_at "ev")
  | (apply ev_andV; walk_at "ev"; (intro _; walk_at "ev"))
  | (apply ev_orV; walk_at "ev"; (intro _; walk_at "ev")))
local macro_rules | `(tactic| walk_at "et") => `(tactic| first
  | assumption
  | (apply et_test; walk_at "ev")
  | (apply et_B; walk_at "ev")
  | (apply et_not; walk_at "et")
  | (apply et_and; walk_at "et"; (intro _; walk_at "et"))
  | (apply et_or; walk_at "et"; (intro _; walk_at "et"))
  | (apply et_tru; walk_at "ev"; walk_at "tru"))
local macro_rules | `(tactic| walk_at "tru") => `(tactic| first | exact tr_bl | exact tr_L (by assumption) | exact tr_T (by assumption) | exact tr_A (by assumption))
local macro_rules | `(tactic| walk_at "sv") => `(tactic| first | exact sv_whole (by assumption) | exact sv_row (by assumption) | exact sv_name (by assumption) | exact sv_fits (by assumption))
section
variable {P : Program} {w : World} {K : PySem.W.Frag} {mg : Str → Option Value} {base : Heap} {A : Adr}
theorem ok_ck (T : Txt K mg A) : ∀ n : Nat, FnOk P w K mg base (L2.CX P w) (2 * n + 3) A.a_checked_kind A.f_checked_kind ["kind", "deep"] (spCK A.c_BadKind n)
  | 0 => ok_ck0 T
  | n + 1 => ok_cks n T (ok_ck T n) (ok_cc n T (ok_ck T n))
def spCheck (C : Addr) : Sp := fun vs H Q E => ∃ (v : V) (d : PyData) (M : Addr → Prop), vs = [v] ∧ At M H v d ∧ Trk M H ∧
  (∀ d' v' H', chk 12 d = some d' → Same H H' → At M H' v' d' → Q v' H') ∧ (chk 12 d = none → Bad C E H)
theorem ok_check (T : Txt K mg A) : FnOk P w K mg base (L2.CX P w) 28 A.a_check_kind A.f_check_kind ["kind"] (spCheck A.c_BadKind) := by
  have G_checked_kind := ok_ck (P := P) (w := w) (base := base) T 12
  refine T.F_check_kind.okX sc_check_kind (fun vs H Q E h => ?_) (fun cdv Ar outer s H vs Q E hr h => ?_)
  · obtain ⟨v, d, M, rfl, _⟩ := h
    rfl
  · obtain ⟨v, d, M, rfl, hd, hM, kS, kN⟩ := h
    refine ⟨_, (pss_one (ps_ret (pe_callS G_checked_kind (hr.mono (by omega)) rfl T.g_checked_kind T.F_checked_kind.kp T.b_checked_kind (fun σ => passAt (W := fun cls d _ H => E cls d H) (takes_of rfl rfl rfl rfl) σ) (pa_cons (pv 0) (pa_cons pe_int pa_nil))))), ?_⟩
    exact o_ret (eo_ck hd hM kN (by walk_at "ea")) fun d' v' H1 h e a => kS d' v' H1 h e a
def spLetBy : Sp := fun vs H Q _ => ∃ (v : V) (d : PyData) (M : Addr → Prop), vs = [v] ∧ At M H v d ∧ Trk M H ∧ ∀ H1, Same H H1 → Q (.bl (chk 12 d).isSome) H1
theorem ok_letby (T : Txt K mg A) : FnOk P w K mg base CX0 30 A.a__law_let_by A.f__law_let_by ["_law_kind"] spLetBy := by
  have G_check_kind := ok_check (P := P) (w := w) (base := base) T
  refine T.F__law_let_by.ok sc__law_let_by (fun vs H Q E h => ?_) (fun cdv Ar outer s H vs Q E hr h => ?_)
  · obtain ⟨v, d, M, rfl, _⟩ := h
    rfl
  · obtain ⟨v, d, M, rfl, hd, hM, k⟩ := h
    refine ⟨_, (pss_cons (ps_try_as (i := 1) (tb := fun W => tDrop (tCallS (spCheck A.c_BadKind) (WE W) (tCons (tVar 0) tNil)))
        (ts := fun a cls d => tRet (tNotV (tCB (rIsX K A.c_BadKind a cls d) (tCons (tVar 1) (tCons (tC (.ref A.c_BadKind)) tNil))))) (Wout := fun _ _ _ _ => False) rfl rfl sc__law_let_by.nd rfl rfl ⟨rfl, by decide, .inl T.g_BadKind⟩ takes0
        (fun W pn xe tk _ => pss_one (ps_expr (pe_callS G_check_kind (hr.mono (by decide)) rfl T.g_check_kind T.F_check_kind.kp T.b_check_kind (fun σ => passAt tk σ) (pa_cons (pv 0) pa_nil))))
        (fun a oe cls d pn hz hf => pss_one (ps_ret (pe_not (pe_callB (isiExc (K := K) T.s_BadKind hz hf) (by rfl) T.b_isinstance (by decide +kernel) (pa_cons (pv 1) (pa_cons (pe_glob (v := .ref A.c_BadKind) rfl T.g_BadKind rfl) pa_nil)))))))
      (pss_one (ps_ret pe_bl))), ?_⟩
    refine ⟨_, rfl, v, d, M, rfl, hd, hM, fun d' v' H1 h e a => ?_, fun h dx H1 e hx => ?_⟩
    · rw [h] at k
      exact k H1 e
    · rw [h] at k
      refine ⟨true, T.m_BadKind, fun _ a0 _ => ?_, fun q => Bool.noConfusion q⟩
      exact ⟨_, rfl, rfl, dx, _, _, _, _, rfl, rfl, .own _, hx, T.o_BadKind, _, rfl, k H1 e⟩
end
end K1
set_option Elab.async false
set_option linter.all false
set_option maxRecDepth 100000
set_option maxHeartbeats 4000000
namespace K1
open PySem PySem.Spec PyProof.Rows L2 LK Evl
local macro_rules | `(tactic| walk_at "rv") => `(tactic| first
  | exact rv_addI | exact rv_I0 | exact rv_I (by decide) | exact rv_I (Or.inr (by omega)) | exact rv_I (Or.inl (by omega)) | exact rv_I (by omega) | exact rv_I ⟨by omega, by omega⟩ | exact rv_I ⟨by decide, by decide, by decide⟩ | exact rv_ltI | exact rv_leI | exact rv_gtI | exact rv_geI | exact rv_eqS rfl | exact rv_neS rfl | exact rv_leS | exact rv_ltS
  | exact rv_inC | exact rv_niC | exact rv_isBl | exact rv_isntBl | exact rv_isN | exact rv_isntN
  | exact rv_xA (by assumption) (by assumption) | exact rv_xT (by assumption) (by assumption) | exact rv_xL (by assumption) (by assumption) | exact rv_xS (by assumption) (by assumption)
  | exact rv_xT (by assumption) rfl | exact rv_xL (by assumption) rfl | exact rv_inA (by assumption) rfl rfl | exact rv_addS (by assumption))
local macro_rules | `(tactic| walk_at "rc") => `(tactic| first
  | exact rc_int | exact rc_ord | exact rc_lenS (by assumption) | exact rc_lenL (by assumption) | exact rc_lenT (by assumption) | exact rc_lenA (by assumption) | exact rc_isiS (by assumption) | exact rc_isiI (by assumption) | exact rc_isiB (by assumption) | exact rc_isiL (by assumption) | exact rc_isiT (by assumption))
local macro_rules | `(tactic| walk_at "ea") => `(tactic| first | exact ea_nil | (apply ea_cons; walk_at "ev"; walk_at "ea"))
local macro_rules | `(tactic| walk_at "ev") => `(tactic| first
  | assumption
  | exact ev_var rfl
  | exact ev_c
  | (apply ev_op; walk_at "ev"; walk_at "ev"; walk_at "rv")
  | (apply ev_un; walk_at "ev"; exact ru_neg)
  | (apply ev_isiLT; walk_at "ev"; assumption)
  | (apply ev_call; walk_at "ea"; walk_at "sv")
  | (apply ev_cb; walk_at "ea"; walk_at "rc")
  | (apply ev_if; walk_at "et"; (intro _; walk_at "ev"); (intro _; walk_at "ev"))
  | (apply ev_chain; walk_at "ev"; walk_at "ev"; walk_at "rv"; walk_at "ev"; walk_at "rv")
  | (apply ev_notV; walk_at "ev")
  | (apply ev_andV; walk_at "ev"; (intro _; walk_at "ev"))
  | (apply ev_orV; walk_at "ev"; (intro _; walk_at "ev")))
local macro_rules | `(tactic| walk_at "et") => `(tactic| first
  | assumption
  | (apply et_test; walk_at "ev")
  | (apply et_B; walk_at "ev")
  | (apply et_not; walk_at "et")
  | (apply et_and; walk_at "et"; (intro _; walk_at "et"))
  | (apply et_or; walk_at "et"; (intro _; walk_at "et"))
  | (apply et_tru; walk_at "ev"; walk_at "tru"))
local macro_rules | `(tactic| walk_at "tru") => `(tactic| first | exact tr_bl | exact tr_L (by assumption) | exact tr_T (by assumption) | exact tr_A (by assumption))
section
variable {P : Program} {w : World} {K : PySem.W.Frag} {mg : Str → Option Value} {base : Heap} {A : Adr}
/-- what is asked of a due thing that is no sequence -/
def tExTail (K : PySem.W.Frag) : TS :=
    (tSeq
      (tIfS (tTest (tOp (fun x y H Q => y = V.non ∧ Q (V.bl (decide (x = V.non))) H) (tVar 1) (tC V.non)))
        (tRet (tOp (fun x y H Q => y = V.non ∧ Q (V.bl (decide (x = V.non))) H) (tVar 0) (tC V.non))) tNext)
      (tSeq
        (tIfS (tTr K (tCB (rIsi K) (tCons (tVar 1) (tCons (tC (V.ty "bool")) tNil))))
          (tRet
            (tAndV (tCB (rIsi K) (tCons (tVar 0) (tCons (tC (V.ty "bool")) tNil))) (tOp (rEqA K) (tVar 0) (tVar 1))))
          tNext)
        (tSeq
          (tIfS (tTr K (tCB (rIsi K) (tCons (tVar 1) (tCons (tC (V.ty "str")) tNil))))
            (tRet
              (tAndV (tCB (rIsi K) (tCons (tVar 0) (tCons (tC (V.ty "str")) tNil))) (tOp (rEqA K) (tVar 0) (tVar 1))))
            tNext)
          (tRet
            (tAndV (tCB (rIsi K) (tCons (tVar 0) (tCons (tC (V.ty "int")) tNil)))
              (tAndV (tNotV (tCB (rIsi K) (tCons (tVar 0) (tCons (tC (V.ty "bool")) tNil))))
                (tOp (rEqA K) (tVar 0) (tVar 1))))))))
theorem ex_tail {v1 v2 : V} {d1 d2 : PyData} {H : Hp} {D : Ends} {r : L2.St} (h1 : At M0 H v1 d1) (h2 : At M0 H v2 d2) (hf : isSeq d2 = false) (k : ∀ H1, Same H H1 → D.rt (.bl (sameD d1 d2)) H1) :
    tExTail K D (some v1 :: some v2 :: r) H := by
  have a1 := h1
  have a2 := h2
  cases h2 with
  | lst => cases hf
  | tup => cases hf
  | non =>
    refine q_when (b := true) (et_is (by walk_at "et") rfl) (fun _ H1 e1 => s_ret (v := .bl (sameD d1 .none)) (ev_is (v := .bl (decide (v1 = .non))) (by walk_at "ev") ?_) fun H2 e2 => k H2 (e1.trans e2)) (fun c => by cases c)
    refine congrArg V.bl (sameD_of ?_).symm
    cases h1 <;> simp
  | bl b =>
    refine q_when (b := false) (et_is (by walk_at "et") rfl) (fun c => by cases c) (fun _ H1 e1 => ?_)
    have a1 := a1.ex e1
    have a2 := a2.ex e1
    refine q_when (b := true) (et_is (b := true) (a := isBool (.bool b)) (by walk_at "et") rfl) (fun _ H2 e2 => ?_) (fun c => by cases c)
    have a1 := a1.ex e2
    refine s_ret (v := .bl (sameD d1 (.bool b))) ?_ fun H3 e3 => k H3 ((e1.trans e2).trans e3)
    by_cases hb : isBool d1 = true
    · cases h1 with
      | bl a =>
        refine ev_is (v := .bl (isBool (.bool a) && decide (V.bl a = .bl b))) (by walk_at "ev") (congrArg V.bl (sameD_of ?_).symm)
        simp [isBool]
      | _ => cases hb
    · have hb' : isBool d1 = false := by simpa using hb
      refine ev_is (ev_and0 (ev_is (v := .bl (isBool d1)) (by walk_at "ev") (by rw [hb']))) (congrArg V.bl (sameD_of ?_).symm)
      cases h1 <;> first | (cases hb'; done) | simp
  | int i =>
    refine q_when (b := false) (et_is (by walk_at "et") rfl) (fun c => by cases c) (fun _ H1 e1 => ?_)
    have a1 := a1.ex e1
    have a2 := a2.ex e1
    refine q_when (b := false) (et_is (b := false) (a := isBool (.int i)) (by walk_at "et") rfl) (fun c => by cases c) (fun _ H2 e2 => ?_)
    have a1 := a1.ex e2
    have a2 := a2.ex e2
    refine q_when (b := false) (et_is (b := false) (a := isStr (.int i)) (by walk_at "et") rfl) (fun c => by cases c) (fun _ H3 e3 => ?_)
    have a1 := a1.ex e3
    refine s_ret (v := .bl (sameD d1 (.int i))) ?_ fun H4 e4 => k H4 (((e1.trans e2).trans e3).trans e4)
    by_cases hb : isInt d1 = true
    · by_cases hc : isBool d1 = true
      · refine ev_is (ev_and1 (b := false) (ev_is (v := .bl (isInt d1)) (by walk_at "ev") (by rw [hb])) (ev_and0 (ev_is (v := .bl (!isBool d1)) (by walk_at "ev") (by rw [hc]; rfl)))) (congrArg V.bl (sameD_of ?_).symm)
        cases h1 <;> first | (cases hc; done) | simp
      · cases h1 with
        | int j =>
          refine ev_is (v := .bl (LK.isInt (.int j) && (!isBool (.int j) && decide (V.int j = .int i)))) (by walk_at "ev") (congrArg V.bl (sameD_of ?_).symm)
          simp [isBool, LK.isInt]
        | bl => exact absurd rfl hc
        | _ => cases hb
    · have hb' : isInt d1 = false := by simpa using hb
      refine ev_is (ev_and0 (ev_is (v := .bl (isInt d1)) (by walk_at "ev") (by rw [hb']))) (congrArg V.bl (sameD_of ?_).symm)
      cases h1 <;> first | (cases hb'; done) | simp
  | str x hx =>
    refine q_when (b := false) (et_is (by walk_at "et") rfl) (fun c => by cases c) (fun _ H1 e1 => ?_)
    have a1 := a1.ex e1
    have a2 := a2.ex e1
    refine q_when (b := false) (et_is (b := false) (a := isBool (.str x)) (by walk_at "et") rfl) (fun c => by cases c) (fun _ H2 e2 => ?_)
    have a1 := a1.ex e2
    have a2 := a2.ex e2
    refine q_when (b := true) (et_is (b := true) (a := isStr (.str x)) (by walk_at "et") rfl) (fun _ H3 e3 => ?_) (fun c => by cases c)
    have a1 := a1.ex e3
    refine s_ret (v := .bl (sameD d1 (.str x))) ?_ fun H4 e4 => k H4 (((e1.trans e2).trans e3).trans e4)
    by_cases hb : isStr d1 = true
    · cases h1 with
      | str y hy =>
        refine ev_is (v := .bl (isStr (.str y) && decide (V.str y = .str x))) (by walk_at "ev") (congrArg V.bl (sameD_of ?_).symm)
        simp [isStr]
      | _ => cases hb
    · have hb' : isStr d1 = false := by simpa using hb
      refine ev_is (ev_and0 (ev_is (v := .bl (isStr d1)) (by walk_at "ev") (by rw [hb']))) (congrArg V.bl (sameD_of ?_).symm)
      cases h1 <;> first | (cases hb'; done) | simp
theorem ok_exact0 (T : Txt K mg A) : FnOk P w K mg base CX0 1 A.a__law_exact A.f__law_exact ["_law_told", "_law_due"] (spExact 0) := by
  refine T.F__law_exact.ok sc__law_exact (fun vs H Q E h => ?_) (fun cdv Ar outer s H vs Q E hr h => ?_)
  · obtain ⟨v1, v2, d1, d2, rfl, _⟩ := h
    rfl
  · obtain ⟨v1, v2, d1, d2, rfl, h1, h2, hD, k⟩ := h
    refine ⟨_, (pss_cons (ps_if (ptTr (K := K) (pe_callB (isiTup (K := K)) (by rfl) T.b_isinstance (by decide +kernel) (pa_cons (pv 1) (pa_cons (pe_tup (pa_cons (pe_bltn (v := .ty "list") (u := .type "list") (by rfl) T.b_list (by decide +kernel) rfl) (pa_cons (pe_bltn (v := .ty "tuple") (u := .type "tuple") (by rfl) T.b_tuple (by decide +kernel) rfl) pa_nil))) pa_nil)))) pss_never pss_nil) (pss_cons (ps_if (pt_cmpR op_isN (pv 1) pe_non (nomark _)) (pss_one (ps_ret (pe_cmpR op_isN (pv 0) pe_non (nomark _)))) pss_nil)
      (pss_cons (ps_if (ptTr (K := K) (pe_callB (isiOne (K := K)) (by rfl) T.b_isinstance (by decide +kernel) (pa_cons (pv 1) (pa_cons (pe_bltn (v := .ty "bool") (u := .type "bool") (by rfl) T.b_bool (by decide +kernel) rfl) pa_nil)))) (pss_one (ps_ret (pe_and (pe_callB (isiOne (K := K)) (by rfl) T.b_isinstance (by decide +kernel) (pa_cons (pv 0) (pa_cons (pe_bltn (v := .ty "bool") (u := .type "bool") (by rfl) T.b_bool (by decide +kernel) rfl) pa_nil))) (pe_one (pe_cmpR (opEq (K := K) hr) (pv 0) (pv 1) (nomark _)))))) pss_nil)
      (pss_cons (ps_if (ptTr (K := K) (pe_callB (isiOne (K := K)) (by rfl) T.b_isinstance (by decide +kernel) (pa_cons (pv 1) (pa_cons (pe_bltn (v := .ty "str") (u := .type "str") (by rfl) T.b_str (by decide +kernel) rfl) pa_nil)))) (pss_one (ps_ret (pe_and (pe_callB (isiOne (K := K)) (by rfl) T.b_isinstance (by decide +kernel) (pa_cons (pv 0) (pa_cons (pe_bltn (v := .ty "str") (u := .type "str") (by rfl) T.b_str (by decide +kernel) rfl) pa_nil))) (pe_one (pe_cmpR (opEq (K := K) hr) (pv 0) (pv 1) (nomark _)))))) pss_nil)
      (pss_one (ps_ret (pe_and (pe_callB (isiOne (K := K)) (by rfl) T.b_isinstance (by decide +kernel) (pa_cons (pv 0) (pa_cons (pe_bltn (v := .ty "int") (u := .type "int") (by rfl) T.b_int (by decide +kernel) rfl) pa_nil))) (pe_and (pe_not (pe_callB (isiOne (K := K)) (by rfl) T.b_isinstance (by decide +kernel) (pa_cons (pv 0) (pa_cons (pe_bltn (v := .ty "bool") (u := .type "bool") (by rfl) T.b_bool (by decide +kernel) rfl) pa_nil)))) (pe_one (pe_cmpR (opEq (K := K) hr) (pv 0) (pv 1) (nomark _))))))))))), ?_⟩
    have hD' : isSeq d2 = false := hD
    refine q_when (b := false) (et_is (b := false) (a := isSeq d2) (by walk_at "et") hD') (fun c => by cases c) (fun _ H1 e1 => ?_)
    exact ex_tail (K := K) (h1.ex e1) (h2.ex e1) hD' fun H2 e2 => k H2 (e1.trans e2)
local macro_rules | `(tactic| walk_at "sv") => `(tactic| exact sv_exact (by assumption) (by assumption) (by assumption))
theorem ok_exactS (m : Nat) (T : Txt K mg A) (G__law_exact : FnOk P w K mg base CX0 (m + 1) A.a__law_exact A.f__law_exact ["_law_told", "_law_due"] (spExact m)) :
    FnOk P w K mg base CX0 (m + 2) A.a__law_exact A.f__law_exact ["_law_told", "_law_due"] (spExact (m + 1)) := by
  refine T.F__law_exact.ok sc__law_exact (fun vs H Q E h => ?_) (fun cdv Ar outer s H vs Q E hr h => ?_)
  · obtain ⟨v1, v2, d1, d2, rfl, _⟩ := h
    rfl
  · obtain ⟨v1, v2, d1, d2, rfl, h1, h2, hD, k⟩ := h
    refine ⟨_, (pss_cons (ps_if (ptTr (K := K) (pe_callB (isiTup (K := K)) (by rfl) T.b_isinstance (by decide +kernel) (pa_cons (pv 1) (pa_cons (pe_tup (pa_cons (pe_bltn (v := .ty "list") (u := .type "list") (by rfl) T.b_list (by decide +kernel) rfl) (pa_cons (pe_bltn (v := .ty "tuple") (u := .type "tuple") (by rfl) T.b_tuple (by decide +kernel) rfl) pa_nil))) pa_nil)))) (pss_cons (ps_if (PW.pt (pw_or (pt_cmpR (opNe (K := K) hr) (pe_callB (isiOne (K := K)) (by rfl) T.b_isinstance (by decide +kernel) (pa_cons (pv 1) (pa_cons (pe_bltn (v := .ty "list") (u := .type "list") (by rfl) T.b_list (by decide +kernel) rfl) pa_nil))) (pe_callB (isiOne (K := K)) (by rfl) T.b_isinstance (by decide +kernel) (pa_cons (pv 0) (pa_cons (pe_bltn (v := .ty "list") (u := .type "list") (by rfl) T.b_list (by decide +kernel) rfl) pa_nil))) (nomark _)) (pw_or1 (pt_cmpR (opNe (K := K) hr) (pe_callB (isiOne (K := K)) (by rfl) T.b_isinstance (by decide +kernel) (pa_cons (pv 1) (pa_cons (pe_bltn (v := .ty "tuple") (u := .type "tuple") (by rfl) T.b_tuple (by decide +kernel) rfl) pa_nil))) (pe_callB (isiOne (K := K)) (by rfl) T.b_isinstance (by decide +kernel) (pa_cons (pv 0) (pa_cons (pe_bltn (v := .ty "tuple") (u := .type "tuple") (by rfl) T.b_tuple (by decide +kernel) rfl) pa_nil))) (nomark _))))) (pss_one (ps_ret pe_bl)) pss_nil)
      (pss_cons (ps_if (pt_cmpR (opNe (K := K) hr) (pe_callB (lenAny (K := K)) (by rfl) T.b_len (by decide +kernel) (pa_cons (pv 0) pa_nil)) (pe_callB (lenAny (K := K)) (by rfl) T.b_len (by decide +kernel) (pa_cons (pv 1) pa_nil)) (nomark _)) (pss_one (ps_ret pe_bl)) pss_nil)
      (pss_one (ps_ret (pe_cmpR (opEq (K := K) hr) (pe_lc (own := [("_law_k", 2)]) (g := gName 2) rfl sc__law_exact.nd (pi_range1 rfl T.b_range (pa_cons (pe_callB (lenAny (K := K)) (by rfl) T.b_len (by decide +kernel) (pa_cons (pv 1) pa_nil)) pa_nil)) (blkOk_by (own := [("_law_k", 2)]) (N := N__law_exact) (sc := defScope s__law_exact) (by decide +kernel)) (fun _ _ _ _ _ => (pg_name (i := 2) sc__law_exact.nd rfl (by first | exact Or.inl rfl | exact Or.inr rfl))) (fun _ _ _ _ _ => (pts_one (pt_not (ptTr (K := K) (pe_call G__law_exact (hr.mono (by omega)) rfl T.g__law_exact T.F__law_exact.kp T.b__law_exact .nil pass0 (pa_cons (pe_ix (ixAny (K := K)) (pv 0) (pv 2) (fun _ _ => rfl)) (pa_cons (pe_ix (ixAny (K := K)) (pv 1) (pv 2) (fun _ _ => rfl)) pa_nil))))))) (fun _ _ _ _ _ => (pv 2))) (pe_lst pa_nil) (nomark _)))))) pss_nil)
      (pss_cons (ps_if (pt_cmpR op_isN (pv 1) pe_non (nomark _)) (pss_one (ps_ret (pe_cmpR op_isN (pv 0) pe_non (nomark _)))) pss_nil)
      (pss_cons (ps_if (ptTr (K := K) (pe_callB (isiOne (K := K)) (by rfl) T.b_isinstance (by decide +kernel) (pa_cons (pv 1) (pa_cons (pe_bltn (v := .ty "bool") (u := .type "bool") (by rfl) T.b_bool (by decide +kernel) rfl) pa_nil)))) (pss_one (ps_ret (pe_and (pe_callB (isiOne (K := K)) (by rfl) T.b_isinstance (by decide +kernel) (pa_cons (pv 0) (pa_cons (pe_bltn (v := .ty "bool") (u := .type "bool") (by rfl) T.b_bool (by decide +kernel) rfl) pa_nil))) (pe_one (pe_cmpR (opEq (K := K) hr) (pv 0) (pv 1) (nomark _)))))) pss_nil)
      (pss_cons (ps_if (ptTr (K := K) (pe_callB (isiOne (K := K)) (by rfl) T.b_isinstance (by decide +kernel) (pa_cons (pv 1) (pa_cons (pe_bltn (v := .ty "str") (u := .type "str") (by rfl) T.b_str (by decide +kernel) rfl) pa_nil)))) (pss_one (ps_ret (pe_and (pe_callB (isiOne (K := K)) (by rfl) T.b_isinstance (by decide +kernel) (pa_cons (pv 0) (pa_cons (pe_bltn (v := .ty "str") (u := .type "str") (by rfl) T.b_str (by decide +kernel) rfl) pa_nil))) (pe_one (pe_cmpR (opEq (K := K) hr) (pv 0) (pv 1) (nomark _)))))) pss_nil)
      (pss_one (ps_ret (pe_and (pe_callB (isiOne (K := K)) (by rfl) T.b_isinstance (by decide +kernel) (pa_cons (pv 0) (pa_cons (pe_bltn (v := .ty "int") (u := .type "int") (by rfl) T.b_int (by decide +kernel) rfl) pa_nil))) (pe_and (pe_not (pe_callB (isiOne (K := K)) (by rfl) T.b_isinstance (by decide +kernel) (pa_cons (pv 0) (pa_cons (pe_bltn (v := .ty "bool") (u := .type "bool") (by rfl) T.b_bool (by decide +kernel) rfl) pa_nil)))) (pe_one (pe_cmpR (opEq (K := K) hr) (pv 0) (pv 1) (nomark _))))))))))), ?_⟩
    refine q_when (b := isSeq d2) (by walk_at "et") (fun hq H1 e1 => ?_) (fun hf H1 e1 => ex_tail (K := K) (h1.ex e1) (h2.ex e1) hf fun H2 e2 => k H2 (e1.trans e2))
    have h1 := h1.ex e1
    have h2 := h2.ex e1
    refine q_when (b := !decide (V.bl (isLst d2) = .bl (isLst d1)) || !decide (V.bl (isTup d2) = .bl (isTup d1))) (by walk_at "et") (fun c H2 e2 => ?_) (fun c H2 e2 => ?_)
    · refine s_ret (v := .bl (sameD d1 d2)) (ev_is ev_c (congrArg V.bl (sameD_of ?_).symm)) fun H3 e3 => k H3 ((e1.trans e2).trans e3)
      refine ⟨fun z => (by cases z), fun z => ?_⟩
      subst z
      simp at c
    · have c' : isLst d2 = isLst d1 ∧ isTup d2 = isTup d1 := by simpa using c
      have hq1 := seq_lt hq c'.1 c'.2
      have h1 := h1.ex e2
      have h2 := h2.ex e2
      obtain ⟨a1, xs1, rfl, hA1, r1⟩ := h1.seqOf (K := K) hq1
      obtain ⟨a2, xs2, rfl, hA2, r2⟩ := h2.seqOf (K := K) hq
      have l1 := r1.len
      have l2 := r2.len
      refine q_when (b := !decide (V.int (xs1.length : Nat) = .int (xs2.length : Nat))) (et_test (ev_op (ev_cb (ea_cons (ev_var rfl) ea_nil) (rc_lenA hA1)) (ev_cb (ea_cons (ev_var rfl) ea_nil) (rc_lenA hA2)) (rv_neS rfl))) (fun cl H3 e3 => ?_) (fun cl H3 e3 => ?_)
      · refine s_ret (v := .bl (sameD d1 d2)) (ev_is ev_c (congrArg V.bl (sameD_of ?_).symm)) fun H4 e4 => k H4 (((e1.trans e2).trans e3).trans e4)
        refine ⟨fun z => (by cases z), fun z => ?_⟩
        rw [l1, l2, z] at cl
        simp at cl
      · have hl : (itemsD d1).length = (itemsD d2).length := by
          have c2 : (xs1.length : Int) = (xs2.length : Int) := by simpa using cl
          omega
        have hA1 := hA1.ex e3
        have hA2 := hA2.ex e3
        have r1 := r1.ex e3
        have r2 := r2.ex e3
        have e13 := (e1.trans e2).trans e3
        refine s_ret (v := .bl (sameD d1 d2)) ?_ fun H4 e4 => k H4 (e13.trans e4)
        have hres : sameD d1 d2 = ((diffs (itemsD d1) (itemsD d2)).map (fun i : Nat => (i : Int))).isEmpty := sameD_of (by
          rw [List.isEmpty_map, diffs_nil hl]
          exact ⟨fun z => seq_ext hq1 hq c'.1.symm z, fun z => congrArg itemsD z⟩)
        rw [hres]
        refine ev_opLL (xs := Evl.given (itemsD d2).length (fun i => !sameD ((itemsD d1).getD i .none) ((itemsD d2).getD i .none)) (fun i => .int (i : Int))) (ys := []) ?_ (el_lst ea_nil (by decide)) fun p q H4 hp hq4 e4 => ?_
        · rw [show (itemsD d2).length = (((itemsD d2).length : Nat) : Int).toNat from rfl]
          refine el_lcR1 (n := ((itemsD d2).length : Int)) _ _ (by rw [← l2]; exact ea_cons (ev_cb (ea_cons (ev_var rfl) ea_nil) (rc_lenA hA2)) ea_nil) ⟨by omega, ?_⟩ (fun _ => rfl) (fun i H4 e4 hi => ?_) (fun i H4 e4 hi _ => by walk_at "ev")
          · have := hD.1
            omega
          · have hi2 : i < (itemsD d2).length := by omega
            have hi1 : i < (itemsD d1).length := by omega
            obtain ⟨x1, hx1, t1⟩ := r1.get' (i := i) (d := (itemsD d1).getD i .none) (by simp [List.getD_eq_getElem?_getD, hi1])
            obtain ⟨x2, hx2, t2⟩ := r2.get' (i := i) (d := (itemsD d2).getD i .none) (by simp [List.getD_eq_getElem?_getD, hi2])
            have t1 := t1.ex e4
            have t2 := t2.ex e4
            have hA1 := hA1.ex e4
            have hA2 := hA2.ex e4
            have a1 := at_nat hx1
            have a2 := at_nat hx2
            have t3 : DepLe m ((itemsD d2).getD i .none) := hD.2 _ (by
              rw [List.getD_eq_getElem?_getD, List.getElem?_eq_getElem hi2, Option.getD_some]
              exact List.getElem_mem hi2)
            walk_at "et"
        · rw [given_ints] at hp
          exact rv_eqNil hp hq4
theorem ok_exact (T : Txt K mg A) : ∀ n : Nat, FnOk P w K mg base CX0 (n + 1) A.a__law_exact A.f__law_exact ["_law_told", "_law_due"] (spExact n)
  | 0 => ok_exact0 T
  | n + 1 => ok_exactS n T (ok_exact T n)
end
end K1
set_option Elab.async false
set_option linter.all false
set_option maxRecDepth 100000
set_option maxHeartbeats 4000000
namespace K1
open PySem PySem.Spec PyProof.Rows L2 LK Evl
local macro_rules | `(tactic| walk_at "rv") => `(tactic| first
  | exact rv_addI | exact rv_I0 | exact rv_I (by decide) | exact rv_I (Or.inr (by omega)) | exact rv_I (Or.inl (by omega)) | exact rv_I (by omega) | exact rv_I ⟨by omega, by omega⟩ | exact rv_I ⟨by decide, by decide, by decide⟩ | exact rv_ltI | exact rv_leI | exact rv_gtI | exact rv_geI | exact rv_eqS rfl | exact rv_neS rfl | exact rv_leS | exact rv_ltS
  | exact rv_inC | exact rv_niC | exact rv_isBl | exact rv_isntBl | exact rv_isN | exact rv_isntN
  | exact rv_xA (by assumption) (by assumption) | exact rv_xT (by assumption) (by assumption) | exact rv_xL (by assumption) (by assumption) | exact rv_xS (by assumption) (by assumption)
  | exact rv_xT (by assumption) rfl | exact rv_xL (by assumption) rfl | exact rv_inA (by assumption) rfl rfl | exact rv_addS (by assumption))
local macro_rules | `(tactic| walk_at "rc") => `(tactic| first
  | exact rc_int | exact rc_ord | exact rc_lenS (by assumption) | exact rc_lenL (by assumption) | exact rc_lenT (by assumption) | exact rc_lenA (by assumption) | exact rc_isiS (by assumption) | exact rc_isiI (by assumption) | exact rc_isiB (by assumption) | exact rc_isiL (by assumption) | exact rc_isiT (by assumption))
local macro_rules | `(tactic| walk_at "ea") => `(tactic| first | exact ea_nil | (apply ea_cons; walk_at "ev"; walk_at "ea"))
local macro_rules | `(tactic| walk_at "ev") => `(tactic| first
  | assumption
  | exact ev_var rfl
  | exact ev_c
  | (apply ev_op; walk_at "ev"; walk_at "ev"; walk_at "rv")
  | (apply ev_un; walk_at "ev"; exact ru_neg)
  | (apply ev_isiLT; walk_at "ev"; assumption)
  | (apply ev_call; walk_at "ea"; walk_at "sv")
  | (apply ev_cb; walk_at "ea"; walk_at "rc")
  | (apply ev_if; walk_at "et"; (intro _; walk_at "ev"); (intro _; walk_at "ev"))
  | (apply ev_chain; walk_at "ev"; walk_at "ev"; walk_at "rv"; walk_at "ev"; walk_at "rv")
  | (apply ev_notV; walk_at "ev")
  | (apply ev_andV; walk_at "ev"; (intro _; walk_at "ev"))
  | (apply ev_orV; walk_at "ev"; (intro _; walk_at "ev")))
local macro_rules | `(tactic| walk_at "et") => `(tactic| first
  | assumption
  | (apply et_test; walk_at "ev")
  | (apply et_B; walk_at "ev")
  | (apply et_not; walk_at "et")
  | (apply et_and; walk_at "et"; (intro _; walk_at "et"))
  | (apply et_or; walk_at "et"; (intro _; walk_at "et"))
  | (apply et_tru; walk_at "ev"; walk_at "tru"))
local macro_rules | `(tactic| walk_at "tru") => `(tactic| first | exact tr_bl | exact tr_L (by assumption) | exact tr_T (by assumption) | exact tr_A (by assumption))
/-- a base value of this kind and of no other -/
def BaseKind (d : PyData) (kind : Str) : Prop := ∀ k2 ∈ ([("int" : Str), "text", "truth"] : List Str), fitsD d k2 = decide (k2 = kind)
theorem bk_bool (b : Bool) : BaseKind (.bool b) "truth" := fun k2 h => by
  simp only [List.mem_cons, List.not_mem_nil, or_false] at h
  rcases h with rfl | rfl | rfl <;> rfl
theorem bk_int {i : Int} (h1 : -largest < i) (h2 : i < largest) : BaseKind (.int i) "int" := fun k2 h => by
  have e : intOkD (.int i) = true := by
    show (decide (-largest < i) && decide (i < largest)) = true
    rw [decide_eq_true h1, decide_eq_true h2, Bool.true_and]
  simp only [List.mem_cons, List.not_mem_nil, or_false] at h
  rcases h with rfl | rfl | rfl
  · exact e
  · rfl
  · rfl
theorem bk_str {s : Str} (h : textOk s = true) : BaseKind (.str s) "text" := fun k2 hk => by
  simp only [List.mem_cons, List.not_mem_nil, or_false] at hk
  rcases hk with rfl | rfl | rfl
  · rfl
  · exact h
  · rfl
def spBase : Sp := fun vs H Q _ => ∃ (p : Addr) (L : Pool) (kind : Str), vs = [.ref p, .str kind] ∧ PlAt H p L ∧ kind ∈ ([("int" : Str), "text", "truth"] : List Str) ∧
  ∀ d v H' L', KeepP p H H' → PlAt H' p L' → (∀ M H2, At M H2 v d) → BaseKind d kind → Q v H'
abbrev signsB : List Nat := (Str.ofString "ab9 ~!#(').;").cps.toList
theorem signsB_ok : ∀ c ∈ signsB, signOk c = true := by decide +kernel
section
variable {P : Program} {w : World} {K : PySem.W.Frag} {mg : Str → Option Value} {base : Heap} {A : Adr}
theorem ok_base (T : Txt K mg A) : FnOk P w K mg base CX0 2 A.a__law_base_value A.f__law_base_value ["_law_pool_here", "_law_kind"] spBase := by
  have G__law_draw := ok_draw (P := P) (w := w) (base := base) T
  refine T.F__law_base_value.ok sc__law_base_value (fun vs H Q E h => ?_) (fun cdv Ar outer s H vs Q E hr h => ?_)
  · obtain ⟨p, L, kind, rfl, _⟩ := h
    rfl
  · obtain ⟨p, L, kind, rfl, hp, hk, k⟩ := h
    refine ⟨_, (pss_cons (ps_if (pt_cmpR (opEq (K := K) hr) (pv 1) pe_str (nomark _)) (pss_one (ps_ret (pe_cmpR (opEq (K := K) hr) (pe_call G__law_draw (hr.mono (by omega)) rfl T.g__law_draw T.F__law_draw.kp T.b__law_draw .nil pass0 (pa_cons (pv 0) (pa_cons pe_int pa_nil))) pe_int (nomark _)))) pss_nil)
      (pss_cons (ps_if (pt_cmpR (opEq (K := K) hr) (pv 1) pe_str (nomark _)) (pss_cons (ps_set (i := 2) sc__law_base_value.nd rfl (by first | exact Or.inl rfl | exact Or.inr rfl) (pe_call G__law_draw (hr.mono (by omega)) rfl T.g__law_draw T.F__law_draw.kp T.b__law_draw .nil pass0 (pa_cons (pv 0) (pa_cons pe_int pa_nil))))
      (pss_cons (ps_if (pt_cmpR (opEq (K := K) hr) (pe_call G__law_draw (hr.mono (by omega)) rfl T.g__law_draw T.F__law_draw.kp T.b__law_draw .nil pass0 (pa_cons (pv 0) (pa_cons pe_int pa_nil))) pe_int (nomark _)) (pss_one (ps_set (i := 2) sc__law_base_value.nd rfl (by first | exact Or.inl rfl | exact Or.inr rfl) (pe_op op_sub (pe_op op_sub (pe_op op_pow pe_int pe_int) pe_int) (pv 2)))) pss_nil)
      (pss_one (ps_ret (pe_ifExp (pt_cmpR (opEq (K := K) hr) (pe_call G__law_draw (hr.mono (by omega)) rfl T.g__law_draw T.F__law_draw.kp T.b__law_draw .nil pass0 (pa_cons (pv 0) (pa_cons pe_int pa_nil))) pe_int (nomark _)) (pv 2) (pe_op op_sub pe_int (pv 2))))))) pss_nil)
      (pss_cons (ps_set (i := 3) sc__law_base_value.nd rfl (by first | exact Or.inl rfl | exact Or.inr rfl) (pe_ifExp (pt_cmpR (opEq (K := K) hr) (pe_call G__law_draw (hr.mono (by omega)) rfl T.g__law_draw T.F__law_draw.kp T.b__law_draw .nil pass0 (pa_cons (pv 0) (pa_cons pe_int pa_nil))) pe_int (nomark _)) pe_int (pe_call G__law_draw (hr.mono (by omega)) rfl T.g__law_draw T.F__law_draw.kp T.b__law_draw .nil pass0 (pa_cons (pv 0) (pa_cons pe_int pa_nil)))))
      (pss_cons (ps_set (i := 4) sc__law_base_value.nd rfl (by first | exact Or.inl rfl | exact Or.inr rfl) pe_str)
      (pss_one (ps_ret (peJoin (K := K) pe_str (pe_lc (own := [("_law_k", 5)]) (g := gName 5) rfl sc__law_base_value.nd (pi_range1 rfl T.b_range (pa_cons (pv 3) pa_nil)) (blkOk_by (own := [("_law_k", 5)]) (N := N__law_base_value) (sc := defScope s__law_base_value) (by decide +kernel)) (fun _ _ _ _ _ => (pg_name (i := 5) sc__law_base_value.nd rfl (by first | exact Or.inl rfl | exact Or.inr rfl))) (fun _ _ _ _ _ => pts_nil) (fun _ _ _ _ _ => (pe_ix (ixAny (K := K)) (pv 4) (pe_call G__law_draw (hr.mono (by omega)) rfl T.g__law_draw T.F__law_draw.kp T.b__law_draw .nil pass0 (pa_cons (pv 0) (pa_cons pe_int pa_nil))) (fun _ _ => rfl))))))))))), ?_⟩
    have hG : wo H p p = none := wo_none
    refine q_when (b := decide (V.str kind = .str "truth")) (by walk_at "et") (fun c H1 e1 => ?_) (fun c H1 e1 => ?_)
    · have c' : kind = "truth" := by simpa using c
      refine k_ret (G := wo H p) (ek_eq hG (ek_draw rfl ev_c (by decide) (by decide))) (wo_ex.trans e1) (pl_ex hp e1) fun v H2 L2 k2 hp2 ⟨b, hb⟩ => ?_
      subst hb
      exact k (.bool b) (.bl b) H2 L2 ((Keep.of e1).trans k2) hp2 (fun M H2 => .bl b) (by rw [c']; exact bk_bool b)
    · have c1 : ¬ kind = "truth" := by simpa using c
      refine q_when (b := decide (V.str kind = .str "int")) (by walk_at "et") (fun c H2 e2 => ?_) (fun c H2 e2 => ?_)
      · have c' : kind = "int" := by simpa using c
        have e12 := e1.trans e2
        refine k_asg (G := wo H p) (ek_draw rfl ev_c (by decide) (by decide)) (wo_ex.trans e12) (pl_ex hp e12) fun v H3 L3 k3 hp3 ⟨n, hn, n0, n1⟩ => ?_
        subst hn
        have ex3 := ex_keep hG (wo_ex.trans e12) k3
        have k03 := (Keep.of (M := Mp p) e12).trans k3
        have fin : ∀ (σ : L2.St) (n : Int) (H4 : Hp) (L4 : Pool) (D : Ends), σ[0]? = some (some (.ref p)) → σ[2]? = some (some (.int n)) → 0 ≤ n → n < largest → Ex (wo H p) H4 → PlAt H4 p L4 → KeepP p H H4 → D.rt = Q →
            tRet (tIf (tTest (tOp (rEqA K) (tCall spDraw [] E0 (tCons (tVar 0) (tCons (tC (V.int 2)) tNil))) (tC (V.int 0)))) (tVar 2) (tOp (rI0 fun i j => V.int (i - j)) (tC (V.int 0)) (tVar 2))) D σ H4 := by
          intro σ n H4 L4 D h0 h2 n0 n1 e4 hp4 k4 hD
          refine k_ret (G := wo H p) (P := fun v _ => ∃ i : Int, v = .int i ∧ -largest < i ∧ i < largest) (ek_if hG (tk_test (ek_eq hG (ek_draw h0 ev_c (by decide) (by decide)))) (ek_imp (ek_of (ev_var h2)) fun v _ z => ⟨n, z, by unfold largest at *; omega, n1⟩)
            (ek_imp (ek_of (ev_op ev_c (ev_var h2) rv_I0)) fun v _ z => ⟨0 - n, z, by unfold largest at *; omega, by unfold largest at *; omega⟩)) e4 hp4 fun v H5 L5 k5 hp5 ⟨i, hi, i0, i1⟩ => ?_
          subst hi
          rw [hD]
          exact k (.int i) (.int i) H5 L5 (k4.trans k5) hp5 (fun M H2 => .int i) (by rw [c']; exact bk_int i0 i1)
        refine k_if (G := wo H p) (tk_test (ek_eq hG (ek_draw rfl ev_c (by decide) (by decide)))) ex3 hp3 (fun H4 L4 k4 hp4 => ?_) (fun H4 L4 k4 hp4 => ?_)
        · refine s_asg (v := .int (10 ^ 30 - 1 - n)) (by walk_at "ev") fun H5 e5 => ?_
          exact fin _ (10 ^ 30 - 1 - n) H5 L4 _ rfl rfl (by omega) (by unfold largest; omega) ((ex_keep hG ex3 k4).trans e5) (pl_ex hp4 e5) ((k03.trans k4).trans (.of e5)) rfl
        · exact fin _ n H4 L4 _ rfl rfl n0 (by unfold largest; omega) (ex_keep hG ex3 k4) hp4 (k03.trans k4) rfl
      · have c2 : ¬ kind = "int" := by simpa using c
        have c' : kind = "text" := by
          simp only [List.mem_cons, List.not_mem_nil, or_false] at hk
          rcases hk with h | h | h
          · exact absurd h c2
          · exact h
          · exact absurd h c1
        have e12 := e1.trans e2
        refine k_asg (G := wo H p) (P := fun v _ => ∃ n : Int, v = .int n ∧ 0 ≤ n ∧ n ≤ 12) (ek_if hG (tk_test (ek_eq hG (ek_draw rfl ev_c (by decide) (by decide)))) (ek_imp (ek_of ev_c) fun v _ z => ⟨12, z, by decide, by decide⟩)
          (ek_imp (ek_draw rfl ev_c (by decide) (by decide)) fun v _ ⟨n, hn, n0, n1⟩ => ⟨n, hn, n0, by omega⟩)) (wo_ex.trans e12) (pl_ex hp e12) fun v H3 L3 k3 hp3 ⟨n, hn, n0, n1⟩ => ?_
        subst hn
        have ex3 := ex_keep hG (wo_ex.trans e12) k3
        have k03 := (Keep.of (M := Mp p) e12).trans k3
        refine q_asg (i := 4) (v := .str "ab9 ~!#(').;") (by walk_at "ev") fun H4 e4 => ?_
        refine k_ret (G := wo H p) (ek_join (n := n.toNat) (S := signsB) (by omega) (ek_lc (P := fun v => ∃ c ∈ signsB, v = V.str ⟨#[c]⟩) hG (ev_var rfl) n0 (by omega) (fun _ => rfl)
          fun i => ek_ixS (m := 12) hG (ev_var rfl) (by decide) (by decide) (ek_draw rfl ev_c (by decide) (by decide)))) (ex3.trans e4) (pl_ex hp3 e4) fun v H5 L5 k5 hp5 ⟨cs, hv, hl, hS⟩ => ?_
        subst hv
        have ht : textOk ⟨cs.toArray⟩ = true := by
          unfold textOk
          rw [decide_eq_true (show (⟨cs.toArray⟩ : Str).length ≤ 12 by show cs.toArray.size ≤ 12; simp only [List.size_toArray]; omega), Bool.true_and]
          exact List.all_eq_true.mpr fun c hc => signsB_ok c (hS c hc)
        refine k (.str ⟨cs.toArray⟩) (.str ⟨cs.toArray⟩) H5 L5 ((k03.trans (.of e4)).trans k5) hp5 (fun M H2 => .str _ ?_) (by rw [c']; exact bk_str ht)
        show cs.toArray.size ≤ 100000
        simp only [List.size_toArray]
        omega
end
end K1
set_option Elab.async false
set_option linter.all false
set_option maxRecDepth 100000
set_option maxHeartbeats 4000000
namespace K1
open PySem PySem.Spec PyProof.Rows L2 LK Evl
local macro_rules | `(tactic| walk_at "rv") => `(tactic| first
  | exact rv_addI | exact rv_I0 | exact rv_I (by decide) | exact rv_I (Or.inr (by omega)) | exact rv_I (Or.inl (by omega)) | exact rv_I (by omega) | exact rv_I ⟨by omega, by omega⟩ | exact rv_I ⟨by decide, by decide, by decide⟩ | exact rv_ltI | exact rv_leI | exact rv_gtI | exact rv_geI | exact rv_eqS rfl | exact rv_neS rfl | exact rv_leS | exact rv_ltS
  | exact rv_inC | exact rv_niC | exact rv_isBl | exact rv_isntBl | exact rv_isN | exact rv_isntN
  | exact rv_xA (by assumption) (by assumption) | exact rv_xT (by assumption) (by assumption) | exact rv_xL (by assumption) (by assumption) | exact rv_xS (by assumption) (by assumption)
  | exact rv_xT (by assumption) rfl | exact rv_xL (by assumption) rfl | exact rv_inA (by assumption) rfl rfl | exact rv_addS (by assumption))
local macro_rules | `(tactic| walk_at "rc") => `(tactic| first
  | exact rc_int | exact rc_ord | exact rc_lenS (by assumption) | exact rc_lenL (by assumption) | exact rc_lenT (by assumption) | exact rc_lenA (by assumption) | exact rc_isiS (by assumption) | exact rc_isiI (by assumption) | exact rc_isiB (by assumption) | exact rc_isiL (by assumption) | exact rc_isiT (by assumption))
local macro_rules | `(tactic| walk_at "ea") => `(tactic| first | exact ea_nil | (apply ea_cons; walk_at "ev"; walk_at "ea"))
local macro_rules | `(tactic| walk_at "ev") => `(tactic| first
  | assumption
  | exact ev_var rfl
  | exact ev_c
  | (apply ev_op; walk_at "ev"; walk_at "ev"; walk_at "rv")
  | (apply ev_un; walk_at "ev"; exact ru_neg)
  | (apply ev_isiLT; walk_at "ev"; assumption)
  | (apply ev_call; walk_at "ea"; walk_at "sv")
  | (apply ev_cb; walk_at "ea"; walk_at "rc")
  | (apply ev_if; walk_at "et"; (intro _; walk_at "ev"); (intro _; walk_at "ev"))
  | (apply ev_chain; walk_at "ev"; walk_at "ev"; walk_at "rv"; walk_at "ev"; walk_at "rv")
  | (apply ev_notV; walk_at "ev")
  | (apply ev_andV; walk_at "ev"; (intro _; walk_at "ev"))
  | (apply ev_orV; walk_at "ev"; (intro _; walk_at "ev")))
local macro_rules | `(tactic| walk_at "et") => `(tactic| first
  | assumption
  | (apply et_test; walk_at "ev")
  | (apply et_B; walk_at "ev")
  | (apply et_not; walk_at "et")
  | (apply et_and; walk_at "et"; (intro _; walk_at "et"))
  | (apply et_or; walk_at "et"; (intro _; walk_at "et"))
  | (apply et_tru; walk_at "ev"; walk_at "tru"))
local macro_rules | `(tactic| walk_at "tru") => `(tactic| first | exact tr_bl | exact tr_L (by assumption) | exact tr_T (by assumption) | exact tr_A (by assumption))
local macro_rules | `(tactic| walk_at "ed") => `(tactic| first
  | exact ed_non | exact ed_bl | exact ed_int | exact ed_str
  | exact ed_var rfl (by assumption)
  | (refine ed_tup ?_ (by assumption) (by first | decide | (simp; done)); walk_at "eds")
  | (refine ed_lst ?_ (by assumption) (by first | decide | (simp; done)); walk_at "eds")
  | (apply ed_num; walk_at "ev"))
local macro_rules | `(tactic| walk_at "eds") => `(tactic| first | exact eds_nil | (apply eds_cons; walk_at "ed"; walk_at "eds"))
abbrev S (s : String) : PyData := .str s
abbrev T2 (a b : PyData) : PyData := .tuple [a, b]
abbrev T3 (a b c : PyData) : PyData := .tuple [a, b, c]
def wrapD (w : Int) (d : PyData) : PyData := if w = 0 then T2 (S "list") d else if w = 1 then T2 (S "record") (T2 (T2 (S "a") (S "int")) (T2 (S "b") d)) else if w = 2 then .list [S "function", d, S "text"] else T3 (S "function") (S "text") d
def aroundD (ws : List Int) (d : PyData) : PyData := ws.foldl (fun d w => wrapD w d) d
def spAround : Sp := fun vs H Q _ => ∃ (p : Addr) (L : Pool) (v : V) (d : PyData) (n : Int), vs = [.ref p, v, .int n] ∧ PlAt H p L ∧ At (Mp p) H v d ∧ 0 ≤ n ∧ n ≤ 1000 ∧
  ∀ ws v' H' L', ws.length = n.toNat → KeepP p H H' → PlAt H' p L' → At (Mp p) H' v' (aroundD ws d) → Q v' H'
def badD : List PyData := [.none, .int 5, .bool true, .tuple [], .list [], S "integer", S "list", .tuple [S "int"], .tuple [S "list"], T3 (S "list") (S "int") (S "int"), T2 (S "any") (.int (-1)), T2 (S "any") (.bool true), T2 (S "any") (S "x"), T2 (S "function") (S "int"), T2 (S "record") (.int 5),
  T2 (S "record") (.tuple (([S "a", S "b", S "c", S "d", S "e", S "f"] : List PyData).map fun x => T2 x (S "int"))), T2 (S "record") (T2 (T2 (S "b") (S "int")) (T2 (S "a") (S "int"))), T2 (S "record") (T2 (T2 (S "a") (S "int")) (T2 (S "a") (S "text"))),
  T2 (S "record") (.tuple [T2 (S "A") (S "int")]), T2 (S "record") (.tuple [T2 (S "") (S "int")]), T2 (S "record") (.tuple [T2 (S "abcdefghi") (S "int")]), T2 (S "record") (.tuple [T2 (S "1a") (S "int")]), T2 (S "record") (.tuple [T2 (.int 5) (S "int")]),
  T2 (S "record") (.tuple [.tuple [S "a"]]), T2 (S "record") (.tuple [S "ab"]), T2 (S "record") (.tuple [T3 (S "a") (S "int") (S "int")]), T2 (S "list") .none, T2 (.int 5) (S "int")]
def flatD : List PyData := [S "int", S "text", S "truth", T2 (S "any") (.int 0), T2 (S "any") (.int (10 ^ 20)), T2 (S "record") (.tuple [])]
def deepD : List PyData := [T2 (S "record") (.tuple (([S "a", S "b", S "c", S "d", S "e"] : List PyData).map fun x => T2 x (S "text"))), T2 (S "record") (T3 (T2 (S "a") (S "int")) (T2 (S "a1") (S "int")) (T2 (S "b") (S "truth"))), T2 (S "list") (S "int")] ++
  [T2 (S "record") (.tuple [T2 (S "abcdefgh") (S "int")]), T3 (S "function") (S "int") (T2 (S "any") (.int 7))]
def spGiven (d : PyData) : Sp := fun vs H Q _ => vs = [] ∧ ∃ M : Addr → Prop, Trk M H ∧ ∀ v H1, Same H H1 → At M H1 v d → Q v H1
section
variable {P : Program} {w : World} {K : PySem.W.Frag} {mg : Str → Option Value} {base : Heap} {A : Adr}
theorem ok_bad (T : Txt K mg A) : FnOk P w K mg base CX0 1 A.a__law_bad_kinds A.f__law_bad_kinds [] (spGiven (.list badD)) := by
  refine T.F__law_bad_kinds.ok sc__law_bad_kinds (fun vs H Q E h => ?_) (fun cdv Ar outer s H vs Q E hr h => ?_)
  · obtain ⟨rfl, _⟩ := h
    rfl
  · obtain ⟨rfl, M, hM, k⟩ := h
    refine ⟨_, (pss_cons (ps_set (i := 0) sc__law_bad_kinds.nd rfl (by first | exact Or.inl rfl | exact Or.inr rfl) (pe_callTy (tupOf (K := K)) (by rfl) T.b_tuple (by decide +kernel) (pa_cons (pe_lc (own := [("_law_label", 1)]) (g := gName 1) rfl sc__law_bad_kinds.nd (pi_list (pe_lst (pa_cons pe_str (pa_cons pe_str (pa_cons pe_str (pa_cons pe_str (pa_cons pe_str (pa_cons pe_str pa_nil)))))))) (blkOk_by (own := [("_law_label", 1)]) (N := N__law_bad_kinds) (sc := defScope s__law_bad_kinds) (by decide +kernel)) (fun _ _ _ _ _ => (pg_name (i := 1) sc__law_bad_kinds.nd rfl (by first | exact Or.inl rfl | exact Or.inr rfl))) (fun _ _ _ _ _ => pts_nil) (fun _ _ _ _ _ => (pe_tup (pa_cons (pv 1) (pa_cons pe_str pa_nil))))) pa_nil)))
      (pss_one (ps_ret (pe_lst (pa_cons pe_non (pa_cons pe_int (pa_cons pe_bl (pa_cons (pe_tup pa_nil) (pa_cons (pe_lst pa_nil) (pa_cons pe_str (pa_cons pe_str (pa_cons (pe_tup (pa_cons pe_str pa_nil)) (pa_cons (pe_tup (pa_cons pe_str pa_nil)) (pa_cons (pe_tup (pa_cons pe_str (pa_cons pe_str (pa_cons pe_str pa_nil)))) (pa_cons (pe_tup (pa_cons pe_str (pa_cons (pe_un un_neg pe_int) pa_nil))) (pa_cons (pe_tup (pa_cons pe_str (pa_cons pe_bl pa_nil))) (pa_cons (pe_tup (pa_cons pe_str (pa_cons pe_str pa_nil))) (pa_cons (pe_tup (pa_cons pe_str (pa_cons pe_str pa_nil))) (pa_cons (pe_tup (pa_cons pe_str (pa_cons pe_int pa_nil))) (pa_cons (pe_tup (pa_cons pe_str (pa_cons (pv 0) pa_nil))) (pa_cons (pe_tup (pa_cons pe_str (pa_cons (pe_tup (pa_cons (pe_tup (pa_cons pe_str (pa_cons pe_str pa_nil))) (pa_cons (pe_tup (pa_cons pe_str (pa_cons pe_str pa_nil))) pa_nil))) pa_nil))) (pa_cons (pe_tup (pa_cons pe_str (pa_cons (pe_tup (pa_cons (pe_tup (pa_cons pe_str (pa_cons pe_str pa_nil))) (pa_cons (pe_tup (pa_cons pe_str (pa_cons pe_str pa_nil))) pa_nil))) pa_nil))) (pa_cons (pe_tup (pa_cons pe_str (pa_cons (pe_tup (pa_cons (pe_tup (pa_cons pe_str (pa_cons pe_str pa_nil))) pa_nil)) pa_nil))) (pa_cons (pe_tup (pa_cons pe_str (pa_cons (pe_tup (pa_cons (pe_tup (pa_cons pe_str (pa_cons pe_str pa_nil))) pa_nil)) pa_nil))) (pa_cons (pe_tup (pa_cons pe_str (pa_cons (pe_tup (pa_cons (pe_tup (pa_cons pe_str (pa_cons pe_str pa_nil))) pa_nil)) pa_nil))) (pa_cons (pe_tup (pa_cons pe_str (pa_cons (pe_tup (pa_cons (pe_tup (pa_cons pe_str (pa_cons pe_str pa_nil))) pa_nil)) pa_nil))) (pa_cons (pe_tup (pa_cons pe_str (pa_cons (pe_tup (pa_cons (pe_tup (pa_cons pe_int (pa_cons pe_str pa_nil))) pa_nil)) pa_nil))) (pa_cons (pe_tup (pa_cons pe_str (pa_cons (pe_tup (pa_cons (pe_tup (pa_cons pe_str pa_nil)) pa_nil)) pa_nil))) (pa_cons (pe_tup (pa_cons pe_str (pa_cons (pe_tup (pa_cons pe_str pa_nil)) pa_nil))) (pa_cons (pe_tup (pa_cons pe_str (pa_cons (pe_tup (pa_cons (pe_tup (pa_cons pe_str (pa_cons pe_str (pa_cons pe_str pa_nil)))) pa_nil)) pa_nil))) (pa_cons (pe_tup (pa_cons pe_str (pa_cons pe_non pa_nil))) (pa_cons (pe_tup (pa_cons pe_int (pa_cons pe_str pa_nil))) pa_nil)))))))))))))))))))))))))))))))), ?_⟩
    refine d_asg (M := M) (d := .tuple (([S "a", S "b", S "c", S "d", S "e", S "f"] : List PyData).map fun x => T2 x (S "int"))) (ed_tupOf (ed_lc (fun x => T2 x (S "int")) (by walk_at "ed") hM (by decide) (fun _ => rfl) fun M' x d H1 e hd hM' a => ?_) hM) fun v H1 e1 a1 => ?_
    · walk_at "ed"
    have hM1 := hM.same e1
    refine d_ret (M := M) (d := .list badD) ?_ fun v H2 e2 a2 => k v H2 (e1.trans e2) a2
    walk_at "ed"
theorem ok_good (T : Txt K mg A) : FnOk P w K mg base CX0 1 A.a__law_good_kinds A.f__law_good_kinds [] (spGiven (.tuple [.list flatD, .list deepD])) := by
  refine T.F__law_good_kinds.ok sc__law_good_kinds (fun vs H Q E h => ?_) (fun cdv Ar outer s H vs Q E hr h => ?_)
  · obtain ⟨rfl, _⟩ := h
    rfl
  · obtain ⟨rfl, M, hM, k⟩ := h
    refine ⟨_, (pss_cons (ps_set (i := 0) sc__law_good_kinds.nd rfl (by first | exact Or.inl rfl | exact Or.inr rfl) (pe_callTy (tupOf (K := K)) (by rfl) T.b_tuple (by decide +kernel) (pa_cons (pe_lc (own := [("_law_label", 3)]) (g := gName 3) rfl sc__law_good_kinds.nd (pi_list (pe_lst (pa_cons pe_str (pa_cons pe_str (pa_cons pe_str (pa_cons pe_str (pa_cons pe_str pa_nil))))))) (blkOk_by (own := [("_law_label", 3)]) (N := N__law_good_kinds) (sc := defScope s__law_good_kinds) (by decide +kernel)) (fun _ _ _ _ _ => (pg_name (i := 3) sc__law_good_kinds.nd rfl (by first | exact Or.inl rfl | exact Or.inr rfl))) (fun _ _ _ _ _ => pts_nil) (fun _ _ _ _ _ => (pe_tup (pa_cons (pv 3) (pa_cons pe_str pa_nil))))) pa_nil)))
      (pss_cons (ps_set (i := 1) sc__law_good_kinds.nd rfl (by first | exact Or.inl rfl | exact Or.inr rfl) (pe_lst (pa_cons pe_str (pa_cons pe_str (pa_cons pe_str (pa_cons (pe_tup (pa_cons pe_str (pa_cons pe_int pa_nil))) (pa_cons (pe_tup (pa_cons pe_str (pa_cons (pe_op op_pow pe_int pe_int) pa_nil))) (pa_cons (pe_tup (pa_cons pe_str (pa_cons (pe_tup pa_nil) pa_nil))) pa_nil))))))))
      (pss_cons (ps_set (i := 2) sc__law_good_kinds.nd rfl (by first | exact Or.inl rfl | exact Or.inr rfl) (pe_lst (pa_cons (pe_tup (pa_cons pe_str (pa_cons (pv 0) pa_nil))) (pa_cons (pe_tup (pa_cons pe_str (pa_cons (pe_tup (pa_cons (pe_tup (pa_cons pe_str (pa_cons pe_str pa_nil))) (pa_cons (pe_tup (pa_cons pe_str (pa_cons pe_str pa_nil))) (pa_cons (pe_tup (pa_cons pe_str (pa_cons pe_str pa_nil))) pa_nil)))) pa_nil))) (pa_cons (pe_tup (pa_cons pe_str (pa_cons pe_str pa_nil))) pa_nil)))))
      (pss_one (ps_ret (pe_tup (pa_cons (pv 1) (pa_cons (pe_op (opAdd (K := K)) (pv 2) (pe_lst (pa_cons (pe_tup (pa_cons pe_str (pa_cons (pe_tup (pa_cons (pe_tup (pa_cons pe_str (pa_cons pe_str pa_nil))) pa_nil)) pa_nil))) (pa_cons (pe_tup (pa_cons pe_str (pa_cons pe_str (pa_cons (pe_tup (pa_cons pe_str (pa_cons pe_int pa_nil))) pa_nil)))) pa_nil)))) pa_nil)))))))), ?_⟩
    refine d_asg (M := M) (d := .tuple (([S "a", S "b", S "c", S "d", S "e"] : List PyData).map fun x => T2 x (S "text"))) (ed_tupOf (ed_lc (fun x => T2 x (S "text")) (by walk_at "ed") hM (by decide) (fun _ => rfl) fun M' x d H1 e hd hM' a => ?_) hM) fun v H1 e1 a1 => ?_
    · walk_at "ed"
    have hM1 := hM.same e1
    refine d_asg (M := M) (d := .list flatD) (by walk_at "ed") fun v2 H2 e2 a2 => ?_
    have hM2 := hM1.same e2
    have a12 := a1.ex e2
    refine d_asg (M := M) (d := .list (deepD.take 3)) (by walk_at "ed") fun v3 H3 e3 a3 => ?_
    have hM3 := hM2.same e3
    have a23 := a2.ex e3
    refine d_ret (M := M) (d := .tuple [.list flatD, .list deepD]) (ed_tup (eds_cons (by walk_at "ed") (eds_cons (ed_is (ed_cat (ds := deepD.take 3) (es := deepD.drop 3) (by walk_at "ed") (by walk_at "ed") hM3 (by decide)) ?_) eds_nil)) hM3) fun v H4 e4 a4 => k v H4 (((e1.trans e2).trans e3).trans e4) a4
    rfl
theorem ok_around (T : Txt K mg A) : FnOk P w K mg base CX0 2 A.a__law_around A.f__law_around ["_law_pool_here", "_law_kind", "_law_turns"] spAround := by
  have G__law_draw := ok_draw (P := P) (w := w) (base := base) T
  refine T.F__law_around.ok sc__law_around (fun vs H Q E h => ?_) (fun cdv Ar outer s H vs Q E hr h => ?_)
  · obtain ⟨p, L, v, d, n, rfl, _⟩ := h
    rfl
  · obtain ⟨p, L, v, d, n, rfl, hp, hd, h0, h1, k⟩ := h
    refine ⟨_, (pss_cons (ps_set (i := 3) sc__law_around.nd rfl (by first | exact Or.inl rfl | exact Or.inr rfl) (pv 1))
      (pss_cons (ps_for PassesOwn.never rfl (pi_range1 rfl T.b_range (pa_cons (pv 2) pa_nil)) (pg_name (i := 4) sc__law_around.nd rfl (by first | exact Or.inl rfl | exact Or.inr rfl)) (pss_cons (ps_set (i := 5) sc__law_around.nd rfl (by first | exact Or.inl rfl | exact Or.inr rfl) (pe_call G__law_draw (hr.mono (by omega)) rfl T.g__law_draw T.F__law_draw.kp T.b__law_draw .nil pass0 (pa_cons (pv 0) (pa_cons pe_int pa_nil))))
      (pss_one (ps_if (pt_cmpR (opEq (K := K) hr) (pv 5) pe_int (nomark _)) (pss_one (ps_set (i := 3) sc__law_around.nd rfl (by first | exact Or.inl rfl | exact Or.inr rfl) (pe_tup (pa_cons pe_str (pa_cons (pv 3) pa_nil))))) (pss_one (ps_if (pt_cmpR (opEq (K := K) hr) (pv 5) pe_int (nomark _)) (pss_one (ps_set (i := 3) sc__law_around.nd rfl (by first | exact Or.inl rfl | exact Or.inr rfl) (pe_tup (pa_cons pe_str (pa_cons (pe_tup (pa_cons (pe_tup (pa_cons pe_str (pa_cons pe_str pa_nil))) (pa_cons (pe_tup (pa_cons pe_str (pa_cons (pv 3) pa_nil))) pa_nil))) pa_nil))))) (pss_one (ps_if (pt_cmpR (opEq (K := K) hr) (pv 5) pe_int (nomark _)) (pss_one (ps_set (i := 3) sc__law_around.nd rfl (by first | exact Or.inl rfl | exact Or.inr rfl) (pe_lst (pa_cons pe_str (pa_cons (pv 3) (pa_cons pe_str pa_nil)))))) (pss_one (ps_set (i := 3) sc__law_around.nd rfl (by first | exact Or.inl rfl | exact Or.inr rfl) (pe_tup (pa_cons pe_str (pa_cons pe_str (pa_cons (pv 3) pa_nil))))))))))))))
      (pss_one (ps_ret (pv 3))))), ?_⟩
    have hG : wo H p p = none := wo_none
    refine q_asg (v := v) (by walk_at "ev") fun H1 e1 => ?_
    refine q_forR1 (n := n) (by walk_at "ea") ⟨h0, by omega⟩ (fun i σ' H' => ∃ (ws : List Int) (v' : V) (L' : Pool) (c c2 : Option V), σ' = [some (.ref p), some v, some (.int n), some v', c, c2] ∧ ws.length = i ∧ KeepP p H H' ∧ PlAt H' p L' ∧ At (Mp p) H' v' (aroundD ws d))
      (fun H2 e2 => ⟨[], v, L, none, none, rfl, rfl, .of (e1.trans e2), pl_ex hp (e1.trans e2), hd.ex (e1.trans e2)⟩) ?_ ?_
    · rintro i σ' H' hi ⟨ws, v', L', c, c2, rfl, hl, hk, hp', ha⟩
      refine k_asg (G := wo H' p) (ek_draw rfl ev_c (by decide) (by decide)) wo_ex hp' fun x H3 L3 k3 hp3 ⟨y, hy, y0, y1⟩ => ?_
      subst hy
      have a3 := ha.keepP k3
      have hM3 : Trk (Mp p) H3 := pl_trk hp3
      have fin : ∀ (z : V) (H4 : Hp) (c c2 : Option V), Ex H3 H4 → At (Mp p) H4 z (wrapD y (aroundD ws d)) → ∃ (ws : List Int) (v' : V) (L' : Pool) (c3 c4 : Option V), [some (.ref p), some v, some (.int n), some z, c, c2] = [some (.ref p), some v, some (.int n), some v', c3, c4] ∧ ws.length = i + 1 ∧ KeepP p H H4 ∧ PlAt H4 p L' ∧ At (Mp p) H4 v' (aroundD ws d) := fun z H4 c c2 e a =>
        ⟨ws ++ [y], z, L3, c, c2, rfl, by simp [hl], (hk.trans k3).trans (.of e), pl_ex hp3 e, by
          unfold aroundD at a ⊢
          rw [List.foldl_append]
          exact a⟩
      refine s_if (b := decide (V.int y = .int 0)) (by walk_at "et") (fun c H4 e4 => ?_) (fun c H4 e4 => ?_)
      · have c' : y = 0 := by simpa using c
        have a4 := a3.ex e4
        have hM4 := hM3.same e4
        subst c'
        exact d_sasg (d := wrapD 0 (aroundD ws d)) (by unfold wrapD; walk_at "ed") fun z H5 e5 a5 => fin z H5 _ _ (e4.trans e5) a5
      · have c0 : ¬ y = 0 := by simpa using c
        refine s_if (b := decide (V.int y = .int 1)) (by walk_at "et") (fun c H5 e5 => ?_) (fun c H5 e5 => ?_)
        · have c' : y = 1 := by simpa using c
          have e45 := e4.trans e5
          have a4 := a3.ex e45
          have hM4 := hM3.same e45
          subst c'
          exact d_sasg (d := wrapD 1 (aroundD ws d)) (by unfold wrapD; walk_at "ed") fun z H6 e6 a6 => fin z H6 _ _ (e45.trans e6) a6
        · have c1 : ¬ y = 1 := by simpa using c
          refine s_if (b := decide (V.int y = .int 2)) (by walk_at "et") (fun c H6 e6 => ?_) (fun c H6 e6 => ?_)
          · have c' : y = 2 := by simpa using c
            have e46 := (e4.trans e5).trans e6
            have a4 := a3.ex e46
            have hM4 := hM3.same e46
            subst c'
            exact d_sasg (d := wrapD 2 (aroundD ws d)) (by unfold wrapD; walk_at "ed") fun z H7 e7 a7 => fin z H7 _ _ (e46.trans e7) a7
          · have c2 : ¬ y = 2 := by simpa using c
            have e46 := (e4.trans e5).trans e6
            have a4 := a3.ex e46
            have hM4 := hM3.same e46
            refine d_sasg (d := wrapD y (aroundD ws d)) (by unfold wrapD; rw [if_neg c0, if_neg c1, if_neg c2]; walk_at "ed") fun z H7 e7 a7 => fin z H7 _ _ (e46.trans e7) a7
    · rintro σ' H' ⟨ws, v', L', c, c2, rfl, hl, hk, hp', ha⟩
      exact s_ret (v := v') (by walk_at "ev") fun H2 e2 => k ws v' H2 L' hl (hk.trans (.of e2)) (pl_ex hp' e2) (ha.ex e2)
end
/-! ### the law's numbers, plainly -/
end K1
set_option Elab.async false
set_option linter.all false
set_option maxRecDepth 100000
set_option maxHeartbeats 4000000
/-! The law's kinds and names, plainly. -/
namespace K1
open PySem LK
theorem chk_wrap (n : Nat) (w : Int) (d : PyData) : (chk (n + 1) (wrapD w d)).isSome = (chk n d).isSome := by
  unfold wrapD
  by_cases h0 : w = 0
  · rw [if_pos h0]
    show ((chk n d).map fun y => PyData.tuple [.str "list", y]).isSome = _
    rw [Option.isSome_map]
  · rw [if_neg h0]
    by_cases h1 : w = 1
    · rw [if_pos h1]
      show ((cplD (chk n) (T2 (T2 (S "a") (S "int")) (T2 (S "b") d))).map fun ys => PyData.tuple [.str "record", .tuple ys]).isSome = _
      rw [Option.isSome_map]
      cases n with
      | zero => rfl
      | succ n =>
        show (((((chk (n + 1) d).map fun k' => [PyData.tuple [.str "a", .str "int"]] ++ [.tuple [.str "b", k']]).bind fun acc' => some acc')) : Option (List PyData)).isSome = _
        cases chk (n + 1) d <;> rfl
    · rw [if_neg h1]
      by_cases h2 : w = 2
      · rw [if_pos h2]
        show ((chk n d).bind fun a => (chk n (.str "text")).map fun b => PyData.tuple [.str "function", a, b]).isSome = _
        cases n with
        | zero => rfl
        | succ n => cases chk (n + 1) d <;> rfl
      · rw [if_neg h2]
        show ((chk n (.str "text")).bind fun a => (chk n d).map fun b => PyData.tuple [.str "function", a, b]).isSome = _
        cases n with
        | zero => rfl
        | succ n =>
          show ((chk (n + 1) d).map fun b => PyData.tuple [.str "function", .str "text", b]).isSome = _
          rw [Option.isSome_map]
theorem around_snoc (ws : List Int) (w : Int) (d : PyData) : aroundD (ws ++ [w]) d = wrapD w (aroundD ws d) := by
  unfold aroundD
  rw [List.foldl_append]
  rfl
theorem chk_around (n : Nat) (d : PyData) : ∀ (k : Nat) (ws : List Int), ws.length = k → (chk (n + k) (aroundD ws d)).isSome = (chk n d).isSome
  | 0, ws, h => by
    rw [List.eq_nil_of_length_eq_zero h]
    rfl
  | k + 1, ws, h => by
    rcases List.eq_nil_or_concat ws with rfl | ⟨ws', w, rfl⟩
    · cases h
    · rw [List.concat_eq_append] at h ⊢
      rw [around_snoc]
      show (chk ((n + k) + 1) _).isSome = _
      rw [chk_wrap, chk_around n d k ws' (by simpa using h)]
theorem chk_deep (d : PyData) : ∀ (n : Nat) (ws : List Int), n ≤ ws.length → (chk n (aroundD ws d)).isSome = false
  | 0, ws, h => rfl
  | n + 1, ws, h => by
    rcases List.eq_nil_or_concat ws with rfl | ⟨ws', w, rfl⟩
    · simp at h
    · rw [List.concat_eq_append] at h ⊢
      rw [around_snoc, chk_wrap, chk_deep d n ws' (by simpa using h)]
theorem chk12 {ws : List Int} {d : PyData} {k : Nat} (h : ws.length = k) (hk : k ≤ 12) : (chk 12 (aroundD ws d)).isSome = (chk (12 - k) d).isSome := by
  have z := chk_around (12 - k) d k ws h
  rw [Nat.sub_add_cancel hk] at z
  exact z
theorem chk_flat : ∀ (k : Nat) (d : PyData), d ∈ flatD → (chk (k + 1) d).isSome = true := fun k d h => by
  unfold flatD at h
  simp only [List.mem_cons, List.not_mem_nil, or_false] at h
  rcases h with rfl | rfl | rfl | rfl | rfl | rfl <;> rfl
theorem chk_deep2 : ∀ d ∈ deepD, (chk 2 d).isSome = true := by decide +kernel
theorem chk_deep1 : ∀ d ∈ deepD, (chk 1 d).isSome = false := by decide +kernel
theorem chk_bad : ∀ (k : Nat) (d : PyData), d ∈ badD → (chk k d).isSome = false := fun k d h => by
  unfold badD at h
  simp only [List.mem_cons, List.not_mem_nil, or_false] at h
  match k with
  | 0 => rfl
  | 1 => rcases h with rfl | rfl | rfl | rfl | rfl | rfl | rfl | rfl | rfl | rfl | rfl | rfl | rfl | rfl | rfl | rfl | rfl | rfl | rfl | rfl | rfl | rfl | rfl | rfl | rfl | rfl | rfl | rfl <;> rfl
  | k + 2 => rcases h with rfl | rfl | rfl | rfl | rfl | rfl | rfl | rfl | rfl | rfl | rfl | rfl | rfl | rfl | rfl | rfl | rfl | rfl | rfl | rfl | rfl | rfl | rfl | rfl | rfl | rfl | rfl | rfl <;> rfl
/-! names -/
abbrev few : List Nat := (Str.ofString "abz059").cps.toList
theorem few_signs : ∀ c ∈ few, c ∈ signsL := by decide +kernel
theorem few_head : ∀ c ∈ few, decide (c ∈ lettersL) = decide (c ∈ (Str.ofString "abz").cps.toList) := by decide +kernel
theorem few_ok : ∀ c ∈ few, signOk c = true := by decide +kernel
theorem all_few {cs : List Nat} (h : ∀ c ∈ cs, c ∈ few) : (cs.all fun c => decide (c ∈ signsL)) = true := List.all_eq_true.mpr fun c hc => decide_eq_true (few_signs c (h c hc))
theorem name_few {cs : List Nat} (h : ∀ c ∈ cs, c ∈ few) : nameL cs = (decide (1 ≤ cs.length ∧ cs.length ≤ 8) && decide (cs.headD 0 ∈ (Str.ofString "abz").cps.toList)) := by
  unfold nameL
  rw [all_few h, Bool.and_true]
  cases cs with
  | nil => rfl
  | cons c cs => rw [show (c :: cs).headD 0 = c from rfl, few_head c (h c (by simp))]
theorem name_bad {cs : List Nat} {c : Nat} (hc : c ∈ cs) (h : ¬ c ∈ signsL) : nameL cs = false := by
  unfold nameL
  have e : (cs.all fun c => decide (c ∈ signsL)) = false := by
    rw [Bool.eq_false_iff]
    intro hh
    exact h (of_decide_eq_true (List.all_eq_true.mp hh c hc))
  rw [e, Bool.and_false, Bool.and_false]
end K1
set_option Elab.async false
set_option linter.all false
set_option maxRecDepth 100000
set_option maxHeartbeats 8000000
namespace K1
open PySem PySem.Spec PyProof.Rows L2 LK Evl
local macro_rules | `(tactic| walk_at "rv") => `(tactic| first
  | exact rv_addI | exact rv_I0 | exact rv_I (by decide) | exact rv_I (Or.inr (by omega)) | exact rv_I (Or.inl (by omega)) | exact rv_I (by omega) | exact rv_I ⟨by omega, by omega⟩ | exact rv_I ⟨by decide, by decide, by decide⟩ | exact rv_ltI | exact rv_leI | exact rv_gtI | exact rv_geI | exact rv_eqS rfl | exact rv_neS rfl | exact rv_leS | exact rv_ltS
  | exact rv_inC | exact rv_niC | exact rv_isBl | exact rv_isntBl | exact rv_isN | exact rv_isntN
  | exact rv_xA (by assumption) (by assumption) | exact rv_xT (by assumption) (by assumption) | exact rv_xL (by assumption) (by assumption) | exact rv_xS (by assumption) (by assumption)
  | exact rv_xT (by assumption) rfl | exact rv_xL (by assumption) rfl | exact rv_inA (by assumption) rfl rfl | exact rv_addS (by assumption))
local macro_rules | `(tactic| walk_at "rc") => `(tactic| first
  | exact rc_int | exact rc_ord | exact rc_lenS (by assumption) | exact rc_lenL (by assumption) | exact rc_lenT (by assumption) | exact rc_lenA (by assumption) | exact rc_isiS (by assumption) | exact rc_isiI (by assumption) | exact rc_isiB (by assumption) | exact rc_isiL (by assumption) | exact rc_isiT (by assumption))
local macro_rules | `(tactic| walk_at "ea") => `(tactic| first | exact ea_nil | (apply ea_cons; walk_at "ev"; walk_at "ea"))
local macro_rules | `(tactic| walk_at "ev") => `(tactic| first
  | assumption
  | exact ev_var rfl
  | exact ev_c
  | (apply ev_op; walk_at "ev"; walk_at "ev"; walk_at "rv")
  | (apply ev_un; walk_at "ev"; exact ru_neg)
  | (apply ev_isiLT; walk_at "ev"; assumption)
  | (apply ev_call; walk_at "ea"; walk_at "sv")
  | (apply ev_cb; walk_at "ea"; walk_at "rc")
  | (apply ev_if; walk_at "et"; (intro _; walk_at "ev"); (intro _; walk_at "ev"))
  | (apply ev_chain; walk_at "ev"; walk_at "ev"; walk_at "rv"; walk_at "ev"; walk_at "rv")
  | (apply ev_notV; walk_at "ev")
  | (apply ev_andV; walk_at "ev"; (intro _; walk_at "ev"))
  | (apply ev_orV; walk_at "ev"; (intro _; walk_at "ev")))
local macro_rules | `(tactic| walk_at "et") => `(tactic| first
  | assumption
  | (apply et_test; walk_at "ev")
  | (apply et_B; walk_at "ev")
  | (apply et_not; walk_at "et")
  | (apply et_and; walk_at "et"; (intro _; walk_at "et"))
  | (apply et_or; walk_at "et"; (intro _; walk_at "et"))
  | (apply et_tru; walk_at "ev"; walk_at "tru"))
local macro_rules | `(tactic| walk_at "tru") => `(tactic| first | exact tr_bl | exact tr_L (by assumption) | exact tr_T (by assumption) | exact tr_A (by assumption))
local macro_rules | `(tactic| walk_at "sv") => `(tactic| first | exact sv_whole (by assumption) | exact sv_row (by assumption) | exact sv_name (by assumption) | exact sv_fits (by assumption) | exact sv_exact (by assumption) (by assumption) (DepLe.flat rfl))
section
variable {P : Program} {w : World} {K : PySem.W.Frag} {mg : Str → Option Value} {base : Heap} {A : Adr}
section
variable {σ : L2.St} {G H : Hp} {p : Addr} {te tn tb : TE}
theorem ek_around {Pd : PyData → Prop} {n : Int} (hG : G p = none) (hi : σ[1]? = some (some (.ref p))) (h : EvKD p te σ G Pd) (hn : Ev tn σ G (.int n)) (h0 : 0 ≤ n) (h1 : n ≤ 1000) :
    EvKD p (tCall spAround [] E0 (tCons (tVar 1) (tCons te (tCons tn tNil)))) σ G fun d => ∃ ws d0, Pd d0 ∧ ws.length = n.toNat ∧ d = aroundD ws d0 := fun H1 L e hp Q q =>
  ⟨_, hi, h H1 L e hp _ fun v H2 L2 k2 hp2 ⟨d, hd, a⟩ => hn H2 (ex_keep hG e k2) _ fun H3 e3 =>
    ⟨p, L2, v, d, n, rfl, pl_ex hp2 e3, a.ex e3, h0, h1, fun ws v' H4 L4 hl k4 hp4 a4 => q v' H4 L4 ((k2.trans (.of e3)).trans k4) hp4 ⟨_, ⟨ws, d, hd, hl, rfl⟩, a4⟩⟩⟩
theorem ek_letby {b : Bool} (hG : G p = none) (h : EvKD p te σ G fun d => (chk 12 d).isSome = b) : EvP p (tCall spLetBy [] E0 (tCons te tNil)) σ G (.bl b) := fun H1 L e hp Q q =>
  h H1 L e hp _ fun v H2 L2 k2 hp2 ⟨d, hd, a⟩ => ⟨v, d, Mp p, rfl, a, pl_trk hp2, fun H3 e3 => q _ H3 L2 (k2.trans (.of e3)) (pl_ex hp2 e3) (by rw [hd])⟩
theorem ek_imp' {P P' : V → Hp → Prop} (h : EvK p te σ G P) (i : ∀ v H, P v H → P' v H) : EvK p te σ G P' := ek_imp h i
theorem ek_base {kind : Str} (hG : G p = none) (hi : σ[1]? = some (some (.ref p))) (hk : Ev tn σ G (.str kind)) (hm : kind ∈ ([("int" : Str), "text", "truth"] : List Str)) :
    EvK p (tCall spBase [] E0 (tCons (tVar 1) (tCons tn tNil))) σ G fun v _ => ∃ d, BaseKind d kind ∧ ∀ M H2, At M H2 v d := fun H1 L e hp Q q =>
  ⟨_, hi, hk H1 e _ fun H3 e3 => ⟨p, L, kind, rfl, pl_ex hp e3, hm, fun d v H4 L4 k4 hp4 a b => q v H4 L4 ((Keep.of e3).trans k4) hp4 ⟨d, b, a⟩⟩⟩
end
theorem app_l (a b : Str) : (a ++ b : Str).cps.toList = a.cps.toList ++ b.cps.toList := TL.tl_append a b
theorem len_l (a : Str) : a.cps.toList.length = a.length := by simp [Str.length]
theorem app_len (a b : Str) : (a ++ b : Str).length = a.length + b.length := by rw [← len_l, app_l, List.length_append, len_l, len_l]
theorem ofS_under : (Str.ofString "_").cps.toList = [95] := by decide +kernel
theorem ofS_a : (Str.ofString "a").cps.toList = [97] := by decide +kernel
theorem cut5 {cs : List Nat} {S : List Nat} (h : ∀ c ∈ cs, c ∈ S) : ∃ ct : List Nat, cutS ⟨cs.toArray⟩ none (some 5) = ⟨ct.toArray⟩ ∧ ct.length ≤ 5 ∧ ∀ c ∈ ct, c ∈ S := by
  refine ⟨_, rfl, ?_, fun c hc => h c ?_⟩
  · rw [List.length_take]
    have e : HT.sIx (⟨cs.toArray⟩ : Str).length (⟨cs.toArray⟩ : Str).length (some 5) = min 5 (⟨cs.toArray⟩ : Str).length := HT.sIx_nat _ _ 5
    rw [e]
    omega
  · exact List.mem_of_mem_drop (List.mem_of_mem_take hc)
theorem far_hi {n : Int} (h : 0 ≤ n) : intOkD (.int (10 ^ 30 + n)) = false := by
  show (decide (-largest < 10 ^ 30 + n) && decide (10 ^ 30 + n < largest)) = false
  rw [decide_eq_false (show ¬ (10 ^ 30 + n < largest) by unfold largest; omega), Bool.and_false]
theorem far_lo {n : Int} (h : 0 ≤ n) : intOkD (.int (0 - (10 ^ 30 + n))) = false := by
  show (decide (-largest < 0 - (10 ^ 30 + n)) && decide (0 - (10 ^ 30 + n) < largest)) = false
  rw [decide_eq_false (show ¬ (-largest < 0 - (10 ^ 30 + n)) by unfold largest; omega), Bool.false_and]
theorem fits_few {cs : List Nat} (h : cs.length ≤ 12) (hf : ∀ c ∈ cs, c ∈ few) : textOk ⟨cs.toArray⟩ = true := by
  unfold textOk
  rw [decide_eq_true (show (⟨cs.toArray⟩ : Str).length ≤ 12 by show cs.toArray.size ≤ 12; simpa using h), Bool.true_and]
  exact List.all_eq_true.mpr fun c hc => few_ok c (hf c hc)
theorem fits_odd {a b : Str} {c : Nat} (h : b.cps.toList = [c]) (hc : signOk c = false) : textOk (a ++ b) = false := by
  unfold textOk
  rw [show (a ++ b : Str).cps.toList.all signOk = false by rw [app_l, h, List.all_append]; simp [hc], Bool.and_false]
theorem odd_of {v : V} (h : v ∈ [V.str (Str.ofString "\""), .str (Str.ofString "\\"), .str (Str.ofString "\n"), .str (Str.ofString "\t")]) : ∃ (o : Str) (c : Nat), v = .str o ∧ o.cps.toList = [c] ∧ signOk c = false := by
  simp only [List.mem_cons, List.not_mem_nil, or_false] at h
  rcases h with rfl | rfl | rfl | rfl
  · exact ⟨_, 34, rfl, by decide +kernel, by decide +kernel⟩
  · exact ⟨_, 92, rfl, by decide +kernel, by decide +kernel⟩
  · exact ⟨_, 10, rfl, by decide +kernel, by decide +kernel⟩
  · exact ⟨_, 9, rfl, by decide +kernel, by decide +kernel⟩
theorem long_few {cs : List Nat} (hf : ∀ c ∈ cs, c ∈ few) : fitsD (.str (Str.ofString "abcdefghijkl" ++ ⟨cs.toArray⟩)) "text" = decide (V.str ⟨cs.toArray⟩ = .str (Str.ofString "")) := by
  show textOk _ = _
  cases cs with
  | nil =>
    rw [decide_eq_true (show V.str ⟨[].toArray⟩ = .str (Str.ofString "") by rfl)]
    decide +kernel
  | cons c cs =>
    rw [decide_eq_false (fun z => by
      have e : (⟨(c :: cs).toArray⟩ : Str).length = (Str.ofString "").length := by rw [V.str.inj z]
      have e2 : (Str.ofString "").length = 0 := by decide
      rw [e2] at e
      have e3 : (⟨(c :: cs).toArray⟩ : Str).length = (c :: cs).length := List.size_toArray
      rw [e3] at e
      simp at e)]
    unfold textOk
    have e : (Str.ofString "abcdefghijkl" ++ ⟨(c :: cs).toArray⟩ : Str).length = 12 + (cs.length + 1) := by
      rw [app_len, show (Str.ofString "abcdefghijkl").length = 12 by decide]
      congr 1
    rw [e, decide_eq_false (by omega), Bool.false_and]
theorem same_b {a b : Bool} : sameD (.bool a) (.bool b) = decide (a = b) := sameD_of (by simp)
theorem is_b {a b : Bool} : decide (V.bl a = .bl b) = decide (a = b) := by simp
def spLaw (K : PySem.W.Frag) : Sp := fun vs H Q _ => ∃ (a : Addr) (ns : List Int), vs = [.ref a] ∧ SqL K H a (ns.map V.int) ∧ ns.length ≤ 63 ∧ ∀ H', Q (.bl true) H'
theorem ok_law (T : Txt K mg A) : FnOk P w K mg base CX0 40 A.a_law A.f_law ["_law_script"] (spLaw K) := by
  have G__law_pool := ok_pool (P := P) (w := w) (base := base) T
  have G__law_draw := ok_draw (P := P) (w := w) (base := base) T
  have G__law_good_kinds := ok_good (P := P) (w := w) (base := base) T
  have G__law_bad_kinds := ok_bad (P := P) (w := w) (base := base) T
  have G__law_around := ok_around (P := P) (w := w) (base := base) T
  have G__law_let_by := ok_letby (P := P) (w := w) (base := base) T
  have G__law_exact := ok_exact (P := P) (w := w) (base := base) T 0
  have G__law_base_value := ok_base (P := P) (w := w) (base := base) T
  have G_is_name := ok_name (P := P) (w := w) (base := base) T
  have G_fits_base := ok_fits (P := P) (w := w) (base := base) T
  refine T.F_law.ok sc_law (fun vs H Q E h => ?_) (fun cdv Ar outer s H vs Q E hr h => ?_)
  · obtain ⟨a, ns, rfl, _⟩ := h
    rfl
  · obtain ⟨a, ns, rfl, hS, hlen, k⟩ := h
    refine ⟨_, (pss_cons (ps_set (i := 1) sc_law.nd rfl (by first | exact Or.inl rfl | exact Or.inr rfl) (pe_call G__law_pool (hr.mono (by omega)) rfl T.g__law_pool T.F__law_pool.kp T.b__law_pool .nil pass0 (pa_cons (pv 0) (pa_cons pe_int pa_nil))))
      (pss_cons (ps_asg (pe_call0 G__law_good_kinds (hr.mono (by omega)) rfl T.g__law_good_kinds T.F__law_good_kinds.kp T.b__law_good_kinds .nil pass0) (pg_tup rfl (pgs_cons (pg_name (i := 2) sc_law.nd rfl (by first | exact Or.inl rfl | exact Or.inr rfl)) (pgs_cons (pg_name (i := 3) sc_law.nd rfl (by first | exact Or.inl rfl | exact Or.inr rfl)) pgs_nil))))
      (pss_cons (ps_set (i := 4) sc_law.nd rfl (by first | exact Or.inl rfl | exact Or.inr rfl) (pe_call G__law_draw (hr.mono (by omega)) rfl T.g__law_draw T.F__law_draw.kp T.b__law_draw .nil pass0 (pa_cons (pv 1) (pa_cons pe_int pa_nil))))
      (pss_cons (ps_set (i := 5) sc_law.nd rfl (by first | exact Or.inl rfl | exact Or.inr rfl) (pe_ix (ixAny (K := K)) (pv 2) (pe_call G__law_draw (hr.mono (by omega)) rfl T.g__law_draw T.F__law_draw.kp T.b__law_draw .nil pass0 (pa_cons (pv 1) (pa_cons (pe_callB (lenAny (K := K)) (by rfl) T.b_len (by decide +kernel) (pa_cons (pv 2) pa_nil)) pa_nil))) (fun _ _ => rfl)))
      (pss_cons (ps_set (i := 6) sc_law.nd rfl (by first | exact Or.inl rfl | exact Or.inr rfl) (pe_call0 G__law_bad_kinds (hr.mono (by omega)) rfl T.g__law_bad_kinds T.F__law_bad_kinds.kp T.b__law_bad_kinds .nil pass0))
      (pss_cons (ps_if (PW.pt (pw_or (pt_not (ptTr (K := K) (pe_call G__law_let_by (hr.mono (by omega)) rfl T.g__law_let_by T.F__law_let_by.kp T.b__law_let_by .nil pass0 (pa_cons (pe_call G__law_around (hr.mono (by omega)) rfl T.g__law_around T.F__law_around.kp T.b__law_around .nil pass0 (pa_cons (pv 1) (pa_cons (pv 5) (pa_cons (pv 4) pa_nil)))) pa_nil)))) (pw_or1 (pt_not (ptTr (K := K) (pe_call G__law_let_by (hr.mono (by omega)) rfl T.g__law_let_by T.F__law_let_by.kp T.b__law_let_by .nil pass0 (pa_cons (pe_call G__law_around (hr.mono (by omega)) rfl T.g__law_around T.F__law_around.kp T.b__law_around .nil pass0 (pa_cons (pv 1) (pa_cons (pv 5) (pa_cons pe_int pa_nil)))) pa_nil))))))) (pss_one (ps_ret pe_bl)) pss_nil)
      (pss_cons (ps_if (PW.pt (pw_or (ptTr (K := K) (pe_call G__law_let_by (hr.mono (by omega)) rfl T.g__law_let_by T.F__law_let_by.kp T.b__law_let_by .nil pass0 (pa_cons (pe_call G__law_around (hr.mono (by omega)) rfl T.g__law_around T.F__law_around.kp T.b__law_around .nil pass0 (pa_cons (pv 1) (pa_cons (pv 5) (pa_cons (pe_op (opAdd (K := K)) pe_int (pv 4)) pa_nil)))) pa_nil))) (pw_or1 (ptTr (K := K) (pe_call G__law_let_by (hr.mono (by omega)) rfl T.g__law_let_by T.F__law_let_by.kp T.b__law_let_by .nil pass0 (pa_cons (pe_call G__law_around (hr.mono (by omega)) rfl T.g__law_around T.F__law_around.kp T.b__law_around .nil pass0 (pa_cons (pv 1) (pa_cons (pe_ix (ixAny (K := K)) (pv 6) (pe_call G__law_draw (hr.mono (by omega)) rfl T.g__law_draw T.F__law_draw.kp T.b__law_draw .nil pass0 (pa_cons (pv 1) (pa_cons (pe_callB (lenAny (K := K)) (by rfl) T.b_len (by decide +kernel) (pa_cons (pv 6) pa_nil)) pa_nil))) (fun _ _ => rfl)) (pa_cons (pv 4) pa_nil)))) pa_nil)))))) (pss_one (ps_ret pe_bl)) pss_nil)
      (pss_cons (ps_set (i := 7) sc_law.nd rfl (by first | exact Or.inl rfl | exact Or.inr rfl) (pe_ix (ixAny (K := K)) (pv 3) (pe_call G__law_draw (hr.mono (by omega)) rfl T.g__law_draw T.F__law_draw.kp T.b__law_draw .nil pass0 (pa_cons (pv 1) (pa_cons (pe_callB (lenAny (K := K)) (by rfl) T.b_len (by decide +kernel) (pa_cons (pv 3) pa_nil)) pa_nil))) (fun _ _ => rfl)))
      (pss_cons (ps_if (PW.pt (pw_or (pt_not (ptTr (K := K) (pe_call G__law_let_by (hr.mono (by omega)) rfl T.g__law_let_by T.F__law_let_by.kp T.b__law_let_by .nil pass0 (pa_cons (pe_call G__law_around (hr.mono (by omega)) rfl T.g__law_around T.F__law_around.kp T.b__law_around .nil pass0 (pa_cons (pv 1) (pa_cons (pv 7) (pa_cons pe_int pa_nil)))) pa_nil)))) (pw_or1 (ptTr (K := K) (pe_call G__law_let_by (hr.mono (by omega)) rfl T.g__law_let_by T.F__law_let_by.kp T.b__law_let_by .nil pass0 (pa_cons (pe_call G__law_around (hr.mono (by omega)) rfl T.g__law_around T.F__law_around.kp T.b__law_around .nil pass0 (pa_cons (pv 1) (pa_cons (pv 7) (pa_cons pe_int pa_nil)))) pa_nil)))))) (pss_one (ps_ret pe_bl)) pss_nil)
      (pss_cons (ps_set (i := 8) sc_law.nd rfl (by first | exact Or.inl rfl | exact Or.inr rfl) (peJoin (K := K) pe_str (pe_lc (own := [("_law_k", 16)]) (g := gName 16) rfl sc_law.nd (pi_range1 rfl T.b_range (pa_cons (pe_call G__law_draw (hr.mono (by omega)) rfl T.g__law_draw T.F__law_draw.kp T.b__law_draw .nil pass0 (pa_cons (pv 1) (pa_cons pe_int pa_nil))) pa_nil)) (blkOk_by (own := [("_law_k", 16)]) (N := N_law) (sc := defScope s_law) (by decide +kernel)) (fun _ _ _ _ _ => (pg_name (i := 16) sc_law.nd rfl (by first | exact Or.inl rfl | exact Or.inr rfl))) (fun _ _ _ _ _ => pts_nil) (fun _ _ _ _ _ => (pe_ix (ixAny (K := K)) pe_str (pe_call G__law_draw (hr.mono (by omega)) rfl T.g__law_draw T.F__law_draw.kp T.b__law_draw .nil pass0 (pa_cons (pv 1) (pa_cons pe_int pa_nil))) (fun _ _ => rfl))))))
      (pss_cons (ps_set (i := 9) sc_law.nd rfl (by first | exact Or.inl rfl | exact Or.inr rfl) (pe_and (pe_chain opLe opLe pe_int (pe_callB (lenAny (K := K)) (by rfl) T.b_len (by decide +kernel) (pa_cons (pv 8) pa_nil)) pe_int) (pe_one (pe_cmpR (opIn (K := K)) (pe_ix (ixAny (K := K)) (pv 8) pe_int (fun _ _ => rfl)) pe_str rfl))))
      (pss_cons (ps_if (PW.pt (pw_or (pt_not (ptTr (K := K) (pe_call G__law_exact (hr.mono (by omega)) rfl T.g__law_exact T.F__law_exact.kp T.b__law_exact .nil pass0 (pa_cons (pe_call G_is_name (hr.mono (by omega)) rfl T.g_is_name T.F_is_name.kp T.b_is_name .nil pass0 (pa_cons (pv 8) pa_nil)) (pa_cons (pv 9) pa_nil))))) (pw_or (pt_cmpR op_isnot_bl (pe_call G_is_name (hr.mono (by omega)) rfl T.g_is_name T.F_is_name.kp T.b_is_name .nil pass0 (pa_cons (pe_op (opAdd (K := K)) (pv 8) pe_str) pa_nil)) pe_bl (nomark _)) (pw_or1 (pt_cmpR op_isnot_bl (pe_call G_is_name (hr.mono (by omega)) rfl T.g_is_name T.F_is_name.kp T.b_is_name .nil pass0 (pa_cons (pe_lst (pa_cons (pv 8) pa_nil)) pa_nil)) pe_bl (nomark _)))))) (pss_one (ps_ret pe_bl)) pss_nil)
      (pss_cons (ps_if (PW.pt (pw_or (pt_cmpR op_isnot_bl (pe_call G_is_name (hr.mono (by omega)) rfl T.g_is_name T.F_is_name.kp T.b_is_name .nil pass0 (pa_cons (pe_op (opAdd (K := K)) (pe_op (opAdd (K := K)) pe_str (pe_slice (slAny (K := K)) (pv 8) po_none (po_some pe_int))) pe_str) pa_nil)) pe_bl (nomark _)) (pw_or1 (pt_cmpR op_isnot_bl (pe_call G_is_name (hr.mono (by omega)) rfl T.g_is_name T.F_is_name.kp T.b_is_name .nil pass0 (pa_cons (pe_op (opAdd (K := K)) (pe_op (opAdd (K := K)) pe_str (pe_slice (slAny (K := K)) (pv 8) po_none (po_some pe_int))) pe_str) pa_nil)) pe_bl (nomark _))))) (pss_one (ps_ret pe_bl)) pss_nil)
      (pss_cons (ps_for PassesOwn.never rfl (pi_list (pe_lst (pa_cons pe_str (pa_cons pe_str (pa_cons pe_str pa_nil))))) (pg_name (i := 10) sc_law.nd rfl (by first | exact Or.inl rfl | exact Or.inr rfl)) (pss_cons (ps_set (i := 11) sc_law.nd rfl (by first | exact Or.inl rfl | exact Or.inr rfl) (pe_call G__law_base_value (hr.mono (by omega)) rfl T.g__law_base_value T.F__law_base_value.kp T.b__law_base_value .nil pass0 (pa_cons (pv 1) (pa_cons (pv 10) pa_nil))))
      (pss_one (ps_for PassesOwn.never rfl (pi_list (pe_lst (pa_cons pe_str (pa_cons pe_str (pa_cons pe_str pa_nil))))) (pg_name (i := 12) sc_law.nd rfl (by first | exact Or.inl rfl | exact Or.inr rfl)) (pss_one (ps_if (pt_not (ptTr (K := K) (pe_call G__law_exact (hr.mono (by omega)) rfl T.g__law_exact T.F__law_exact.kp T.b__law_exact .nil pass0 (pa_cons (pe_call G_fits_base (hr.mono (by omega)) rfl T.g_fits_base T.F_fits_base.kp T.b_fits_base .nil pass0 (pa_cons (pv 11) (pa_cons (pv 12) pa_nil))) (pa_cons (pe_cmpR (opEq (K := K) hr) (pv 12) (pv 10) (nomark _)) pa_nil))))) (pss_one (ps_ret pe_bl)) pss_nil))))))
      (pss_cons (ps_set (i := 13) sc_law.nd rfl (by first | exact Or.inl rfl | exact Or.inr rfl) (pe_op (opAdd (K := K)) (pe_op op_pow pe_int pe_int) (pe_call G__law_draw (hr.mono (by omega)) rfl T.g__law_draw T.F__law_draw.kp T.b__law_draw .nil pass0 (pa_cons (pv 1) (pa_cons pe_int pa_nil)))))
      (pss_cons (ps_if (PW.pt (pw_or (pt_cmpR op_isnot_bl (pe_call G_fits_base (hr.mono (by omega)) rfl T.g_fits_base T.F_fits_base.kp T.b_fits_base .nil pass0 (pa_cons (pv 13) (pa_cons pe_str pa_nil))) pe_bl (nomark _)) (pw_or (pt_cmpR op_isnot_bl (pe_call G_fits_base (hr.mono (by omega)) rfl T.g_fits_base T.F_fits_base.kp T.b_fits_base .nil pass0 (pa_cons (pe_op op_sub pe_int (pv 13)) (pa_cons pe_str pa_nil))) pe_bl (nomark _)) (pw_or1 (pt_cmpR op_isnot_bl (pe_call G_fits_base (hr.mono (by omega)) rfl T.g_fits_base T.F_fits_base.kp T.b_fits_base .nil pass0 (pa_cons pe_non (pa_cons pe_str pa_nil))) pe_bl (nomark _)))))) (pss_one (ps_ret pe_bl)) pss_nil)
      (pss_cons (ps_set (i := 14) sc_law.nd rfl (by first | exact Or.inl rfl | exact Or.inr rfl) (peJoin (K := K) pe_str (pe_lc (own := [("_law_k", 16)]) (g := gName 16) rfl sc_law.nd (pi_range1 rfl T.b_range (pa_cons (pe_call G__law_draw (hr.mono (by omega)) rfl T.g__law_draw T.F__law_draw.kp T.b__law_draw .nil pass0 (pa_cons (pv 1) (pa_cons pe_int pa_nil))) pa_nil)) (blkOk_by (own := [("_law_k", 16)]) (N := N_law) (sc := defScope s_law) (by decide +kernel)) (fun _ _ _ _ _ => (pg_name (i := 16) sc_law.nd rfl (by first | exact Or.inl rfl | exact Or.inr rfl))) (fun _ _ _ _ _ => pts_nil) (fun _ _ _ _ _ => (pe_ix (ixAny (K := K)) pe_str (pe_call G__law_draw (hr.mono (by omega)) rfl T.g__law_draw T.F__law_draw.kp T.b__law_draw .nil pass0 (pa_cons (pv 1) (pa_cons pe_int pa_nil))) (fun _ _ => rfl))))))
      (pss_cons (ps_set (i := 15) sc_law.nd rfl (by first | exact Or.inl rfl | exact Or.inr rfl) (pe_ix (ixAny (K := K)) (pe_lst (pa_cons pe_str (pa_cons pe_str (pa_cons pe_str (pa_cons pe_str pa_nil))))) (pe_call G__law_draw (hr.mono (by omega)) rfl T.g__law_draw T.F__law_draw.kp T.b__law_draw .nil pass0 (pa_cons (pv 1) (pa_cons pe_int pa_nil))) (fun _ _ => rfl)))
      (pss_cons (ps_if (PW.pt (pw_or (pt_cmpR op_isnot_bl (pe_call G_fits_base (hr.mono (by omega)) rfl T.g_fits_base T.F_fits_base.kp T.b_fits_base .nil pass0 (pa_cons (pv 14) (pa_cons pe_str pa_nil))) pe_bl (nomark _)) (pw_or1 (pt_cmpR op_isnot_bl (pe_call G_fits_base (hr.mono (by omega)) rfl T.g_fits_base T.F_fits_base.kp T.b_fits_base .nil pass0 (pa_cons (pe_op (opAdd (K := K)) (pv 14) (pv 15)) (pa_cons pe_str pa_nil))) pe_bl (nomark _))))) (pss_one (ps_ret pe_bl)) pss_nil)
      (pss_one (ps_ret (pe_call G__law_exact (hr.mono (by omega)) rfl T.g__law_exact T.F__law_exact.kp T.b__law_exact .nil pass0 (pa_cons (pe_call G_fits_base (hr.mono (by omega)) rfl T.g_fits_base T.F_fits_base.kp T.b_fits_base .nil pass0 (pa_cons (pe_op (opAdd (K := K)) pe_str (pv 14)) (pa_cons pe_str pa_nil))) (pa_cons (pe_cmpR (opEq (K := K) hr) (pv 14) pe_str (nomark _)) pa_nil)))))))))))))))))))))))), ?_⟩
    refine ⟨_, rfl, a, ns, 0, rfl, hS, hlen, by decide, fun p H1 hp0 e1 hp1 => ?_⟩
    refine ⟨rfl, Mp p, pl_trk hp1, fun v H2 e2 a2 => ?_⟩
    obtain ⟨r, xs, rfl, _, hr2, rs⟩ := a2.tup_inv
    cases rs with
    | cons af rs => cases rs with
      | cons ad rs =>
      cases rs
      rename_i vf vd
      refine ⟨r, _, rfl, .of hr2, rfl, _, _, rfl, _, _, rfl, rfl, ?_⟩
      have hp2 := pl_ex hp1 e2
      obtain ⟨pf, xf, rfl, nf, hf, rf⟩ := af.lst_inv
      obtain ⟨pd, xd, rfl, nd, hd, rd⟩ := ad.lst_inv
      -- turns
      refine k_asg (G := wo H2 p) (ek_draw rfl ev_c (by decide) (by decide)) wo_ex hp2 fun v H3 L3 k3 hp3 ⟨tn, htn, t0, t1⟩ => ?_
      subst htn
      have hf3 := k3 _ _ nf hf
      have hd3 := k3 _ _ nd hd
      have rf3 := rf.keep k3
      have rd3 := rd.keep k3
      -- good
      have sf3 : SqL K (wo H3 p) pf xf := .of (by rw [wo_ne nf]; exact hf3)
      refine k_asg (G := wo H3 p) (ek_ix (K := K) wo_none rfl sf3 (m := (xf.length : Int)) rfl (ek_draw rfl (by walk_at "ev") (by rw [rf.len]; decide) (by rw [rf.len]; decide))) wo_ex hp3 fun vg H4 L4 k4 hp4 hvg => ?_
      obtain ⟨dg, hdg, ag⟩ := (rf3.keep k4).mem hvg
      have hd4 := k4 _ _ nd hd3
      have rd4 := rd3.keep k4
      -- bad
      refine ⟨rfl, Mp p, pl_trk hp4, fun v H5 e5 a5 => ?_⟩
      obtain ⟨pb, xb, rfl, nb, hb, rb⟩ := a5.lst_inv
      have hp5 := pl_ex hp4 e5
      have hd5 := e5 _ _ hd4
      have rd5 := rd4.ex e5
      have ag5 := ag.ex e5
      have hG : wo H5 p p = none := wo_none
      have sb : SqL K (wo H5 p) pb xb := .of (by rw [wo_ne nb]; exact hb)
      have sd : SqL K (wo H5 p) pd xd := .of (by rw [wo_ne nd]; exact hd5)
      have rb5 := rb.wo
      have rd5' := rd5.wo
      have ag' := ag5.wo
      -- around a good one
      have at_var : ∀ {σ : L2.St} {i : Nat} {x : V} {d : PyData} {Pd : PyData → Prop}, σ[i]? = some (some x) → At (Mp p) (wo H5 p) x d → Pd d → EvKD p (tVar i) σ (wo H5 p) Pd := fun h1 h2 h3 =>
        ek_imp (ek_ex hG (ek_of (ev_var h1))) fun v H z => ⟨_, h3, by rw [z.1]; exact h2.ex z.2⟩
      have lb : ∀ {σ : L2.St} {te tn : TE} {Pd : PyData → Prop} {n : Nat} (b : Bool), σ[1]? = some (some (.ref p)) → EvKD p te σ (wo H5 p) Pd → Ev tn σ (wo H5 p) (.int (n : Int)) → n ≤ 100 → (∀ ws d, ws.length = n → Pd d → (chk 12 (aroundD ws d)).isSome = b) →
          EvP p (tCall spLetBy [] E0 (tCons (tCall spAround [] E0 (tCons (tVar 1) (tCons te (tCons tn tNil)))) tNil)) σ (wo H5 p) (.bl b) := fun {σ te tn Pd n} b h1 h2 h3 h4 h5 =>
        ek_letby hG (ek_imp (ek_around hG h1 h2 h3 (by omega) (by omega)) fun v H ⟨d, ⟨ws, d0, hd, hl, e⟩, a⟩ => ⟨d, by rw [e]; exact h5 ws d0 (by omega) hd, a⟩)
      obtain ⟨tk, htk⟩ : ∃ tk : Nat, tn = tk := ⟨tn.toNat, by omega⟩
      subst htk
      refine p_when (G := wo H5 p) (b := !true || !true) (tp_or hG (tp_not (tp_tru (lb true rfl (at_var (Pd := fun d => d ∈ flatD) rfl ag' hdg) (by walk_at "ev") (by omega) fun ws d hl hd => by rw [chk12 hl (by omega), show 12 - tk = (11 - tk) + 1 by omega]; exact chk_flat _ d hd)))
        fun _ => tp_not (tp_tru (lb (n := 11) true rfl (at_var (Pd := fun d => d ∈ flatD) rfl ag' hdg) ev_c (by omega) fun ws d hl hd => by rw [chk12 hl (by omega)]; exact chk_flat _ d hd))) wo_ex hp5 (fun c => by cases c) fun _ H6 L6 k6 hp6 => ?_
      have e6 : Ex (wo H5 p) H6 := ex_keep hG wo_ex k6
      refine p_when (G := wo H5 p) (b := false || false) (tp_or hG (tp_tru (lb (n := 12 + tk) false rfl (at_var (Pd := fun d => d ∈ flatD) rfl ag' hdg) (ev_is (by walk_at "ev") (by congr 1)) (by omega) fun ws d hl hd => chk_deep d 12 ws (by omega)))
        fun _ => tp_tru (lb (Pd := fun d => d ∈ badD) (n := tk) false rfl (ek_imp (ek_ex hG (ek_ix (K := K) hG rfl sb (m := (xb.length : Int)) rfl (ek_draw rfl (by walk_at "ev") (by rw [rb.len]; decide) (by rw [rb.len]; decide))))
          fun v H z => (let ⟨d, hd, ad⟩ := rb5.mem z.1; ⟨d, hd, ad.ex z.2⟩)) (by walk_at "ev") (by omega) fun ws d hl hd => by rw [chk12 hl (by omega)]; exact chk_bad _ d hd)) e6 hp6 (fun c => by cases c) fun _ H7 L7 k7 hp7 => ?_
      have e7 : Ex (wo H5 p) H7 := ex_keep hG e6 k7
      refine k_asg (G := wo H5 p) (ek_ix (K := K) hG rfl sd (m := (xd.length : Int)) rfl (ek_draw rfl (by walk_at "ev") (by rw [rd.len]; decide) (by rw [rd.len]; decide))) e7 hp7 fun vi H8 L8 k8 hp8 hvi => ?_
      obtain ⟨di, hdi, ai⟩ := rd5'.mem hvi
      have e8 : Ex (wo H5 p) H8 := ex_keep hG e7 k8
      refine p_when (G := wo H5 p) (b := !true || false) (tp_or hG (tp_not (tp_tru (lb (n := 10) true rfl (at_var (Pd := fun d => d ∈ deepD) rfl ai hdi) ev_c (by omega) fun ws d hl hd => by rw [chk12 hl (by omega)]; exact chk_deep2 d hd)))
        fun _ => tp_tru (lb (n := 11) false rfl (at_var (Pd := fun d => d ∈ deepD) rfl ai hdi) ev_c (by omega) fun ws d hl hd => by rw [chk12 hl (by omega)]; exact chk_deep1 d hd)) e8 hp8 (fun c => by cases c) fun _ H9 L9 k9 hp9 => ?_
      have e9 : Ex (wo H5 p) H9 := ex_keep hG e8 k9
      -- name
      refine k_asg (G := wo H5 p) (ek_joinD (S := few) (m := 10) (by decide) (ek_lcD (P := fun v => ∃ c ∈ few, v = V.str ⟨#[c]⟩) hG (ek_draw rfl ev_c (by decide) (by decide)) (by decide) (fun _ => rfl)
          fun i => ek_ixS (m := 6) hG ev_c (by decide) (by decide) (ek_draw rfl ev_c (by decide) (by decide)))) e9 hp9 fun v H10 L10 k10 hp10 ⟨cs, hv, hcl, hcf⟩ => ?_
      subst hv
      have e10 : Ex (wo H5 p) H10 := ex_keep hG e9 k10
      have hz : (⟨cs.toArray⟩ : Str).length = cs.length := List.size_toArray
      have hz1 : (⟨cs.toArray⟩ : Str).length ≤ 100000 := by omega
      have hnm : ∀ H, At M0 H (.str ⟨cs.toArray⟩) (.str ⟨cs.toArray⟩) := fun H => .str _ hz1
      have hnd : nameD (.str ⟨cs.toArray⟩) = (decide (1 ≤ cs.length ∧ cs.length ≤ 8) && decide (cs.headD 0 ∈ (Str.ofString "abz").cps.toList)) := name_few hcf
      refine q_asg (v := .bl (nameD (.str ⟨cs.toArray⟩))) ?_ fun H11 e11 => ?_
      · rw [hnd]
        refine ev_andV (ev_is (ev_chain (by walk_at "ev") (by walk_at "ev") rv_leI ev_c rv_leI) (by
          rw [hz]
          congr 1
          rw [← Bool.decide_and]
          congr 1
          apply propext
          omega)) fun c => ?_
        have c' := of_decide_eq_true c
        have ha0 : atI (⟨cs.toArray⟩ : Str).cps.toList 0 = some (cs.headD 0) := at_head (by show 0 < cs.length; omega)
        walk_at "ev"
      have nU : nameD (.str (⟨cs.toArray⟩ ++ Str.ofString "_")) = false := by
        show nameL _ = false
        exact name_bad (c := 95) (by rw [app_l, ofS_under]; simp) (by decide +kernel)
      have lU : (⟨cs.toArray⟩ : Str).length + (Str.ofString "_").length ≤ 100000 := by
        rw [hz, show (Str.ofString "_").length = 1 by decide]
        omega
      have hn11 : At M0 H11 (.str ⟨cs.toArray⟩) (.str ⟨cs.toArray⟩) := .str _ hz1
      have hu11 : At M0 H11 (.str (⟨cs.toArray⟩ ++ Str.ofString "_")) (.str (⟨cs.toArray⟩ ++ Str.ofString "_")) := .str _ (by rw [app_len]; exact lU)
      have hb11 : ∀ b, At M0 H11 (.bl b) (.bool b) := fun b => .bl b
      have hb11' := hb11 (nameD (.str ⟨cs.toArray⟩))
      have t0 : Trk M0 H11 := fun a z => z.elim
      refine q_when (b := !(sameD (.bool (nameD (.str ⟨cs.toArray⟩))) (.bool (nameD (.str ⟨cs.toArray⟩)))) || (!decide (nameD (.str (⟨cs.toArray⟩ ++ Str.ofString "_")) = false) || !decide (nameD (.list [.str ⟨cs.toArray⟩]) = false)))
        (et_or (by walk_at "et") fun _ => et_or (by walk_at "et") fun _ => et_test (ev_op (ev_call1 (M := M0) (ed_lst (eds_cons (ed_var rfl hn11) eds_nil) t0 (by simp)) fun v H1 e a => sv_name a) ev_c rv_isntBl)) (fun c H12 e12 => ?_) (fun _ H12 e12 => ?_)
      · rw [nU, sameD_iff.mpr rfl] at c
        cases c
      obtain ⟨ct, hct, hctl, hctf⟩ : ∃ ct : List Nat, cutS ⟨cs.toArray⟩ none (some 5) = ⟨ct.toArray⟩ ∧ ct.length ≤ 5 ∧ ∀ c ∈ ct, c ∈ few := cut5 hcf
      have slE : ∀ (σ : L2.St) (H : Hp), σ[8]? = some (some (.str ⟨cs.toArray⟩)) → Ev (tOp (rAddA K) (tC (.str (Str.ofString "a"))) (tSl (fun x lo hi H Q => rSlL K x lo hi H Q ∨ (rSlS x lo hi H Q ∨ rSlT K x lo hi H Q)) (tVar 8) tNoPart (tPart (tC (.int 5))))) σ H (.str (Str.ofString "a" ++ ⟨ct.toArray⟩)) := fun σ H h8 =>
        ev_op ev_c (ev_is (ev_slS (K := K) (ev_var h8) hz1 eo_none (eo_some ev_c)) (by rw [hct])) (rv_addS (by
          rw [show (Str.ofString "a").length = 1 by decide, show (⟨ct.toArray⟩ : Str).length = ct.length from List.size_toArray]
          omega))
      have la : (Str.ofString "a" ++ ⟨ct.toArray⟩ : Str).length = 1 + ct.length := by
        rw [app_len, show (Str.ofString "a").length = 1 by decide, show (⟨ct.toArray⟩ : Str).length = ct.length from List.size_toArray]
      have nameA : ∀ (s : String) (c : Nat), (Str.ofString s).cps.toList = [c] → (Str.ofString "a" ++ ⟨ct.toArray⟩ ++ Str.ofString s : Str).cps.toList = 97 :: (ct ++ [c]) := fun s c h => by
        rw [app_l, app_l, h, ofS_a]
        rfl
      have lS : ∀ (s : String) (c : Nat), (Str.ofString s).cps.toList = [c] → (Str.ofString s).length = 1 := fun s c h => by
        rw [← len_l, h]
        rfl
      have slT : ∀ (σ : L2.St) (s : String) (c : Nat) (H : Hp), σ[8]? = some (some (.str ⟨cs.toArray⟩)) → (Str.ofString s).cps.toList = [c] → Ev (tOp (rAddA K) (tOp (rAddA K) (tC (.str (Str.ofString "a"))) (tSl (fun x lo hi H Q => rSlL K x lo hi H Q ∨ (rSlS x lo hi H Q ∨ rSlT K x lo hi H Q)) (tVar 8) tNoPart (tPart (tC (.int 5))))) (tC (.str (Str.ofString s)))) σ H (.str (Str.ofString "a" ++ ⟨ct.toArray⟩ ++ Str.ofString s)) := fun σ s c H h8 h =>
        ev_op (slE _ _ h8) ev_c (rv_addS (by rw [la, lS s c h]; omega))
      have lT : ∀ (s : String) (c : Nat), (Str.ofString s).cps.toList = [c] → (Str.ofString "a" ++ ⟨ct.toArray⟩ ++ Str.ofString s : Str).length ≤ 100000 := fun s c h => by
        rw [app_len, la, lS s c h]
        omega
      have cB : (Str.ofString "B").cps.toList = [66] := by decide +kernel
      have c9 : (Str.ofString "9").cps.toList = [57] := by decide +kernel
      have nB : nameD (.str (Str.ofString "a" ++ ⟨ct.toArray⟩ ++ Str.ofString "B")) = false := by
        show nameL _ = false
        exact name_bad (c := 66) (by rw [nameA _ _ cB]; simp) (by decide +kernel)
      have n9 : nameD (.str (Str.ofString "a" ++ ⟨ct.toArray⟩ ++ Str.ofString "9")) = true := by
        show nameL _ = true
        rw [nameA _ _ c9]
        unfold nameL
        have h1 : (97 :: (ct ++ [57])).length = ct.length + 2 := by simp
        rw [decide_eq_true (by rw [h1]; omega), decide_eq_true (show (97 :: (ct ++ [57])).headD 0 ∈ lettersL from (by decide +kernel : (97 : Nat) ∈ lettersL)), Bool.true_and, Bool.true_and]
        refine List.all_eq_true.mpr fun c hc => decide_eq_true ?_
        rcases List.mem_cons.mp hc with rfl | hc
        · decide +kernel
        · rcases List.mem_append.mp hc with hc | hc
          · exact few_signs c (hctf c hc)
          · rw [List.mem_singleton.mp hc]
            decide +kernel
      refine q_when (b := !decide (nameD (.str (Str.ofString "a" ++ ⟨ct.toArray⟩ ++ Str.ofString "B")) = false) || !decide (nameD (.str (Str.ofString "a" ++ ⟨ct.toArray⟩ ++ Str.ofString "9")) = true))
        (et_or (et_test (ev_op (ev_call (ea_cons (slT _ "B" 66 _ rfl cB) ea_nil) (sv_name (.str _ (lT _ _ cB)))) ev_c rv_isntBl)) fun _ => et_test (ev_op (ev_call (ea_cons (slT _ "9" 57 _ rfl c9) ea_nil) (sv_name (.str _ (lT _ _ c9)))) ev_c rv_isntBl)) (fun c H13 e13 => ?_) (fun _ H13 e13 => ?_)
      · rw [nB, n9] at c
        cases c
      have eP : Ex H10 H13 := (e11.trans e12).trans e13
      have hp13 := pl_ex hp10 eP
      have e13' := e10.trans eP
      generalize nameD (.str ⟨cs.toArray⟩) = due
      have kinds : ∀ {i : Nat} {x : V}, ([V.str "int", .str "text", .str "truth"] : List V)[i]? = some x → ∃ kind ∈ ([("int" : Str), "text", "truth"] : List Str), x = .str kind := fun {i x} h => by
        have z := List.mem_of_getElem? h
        simp only [List.mem_cons, List.not_mem_nil, or_false] at z
        rcases z with rfl | rfl | rfl
        · exact ⟨_, by simp, rfl⟩
        · exact ⟨_, by simp, rfl⟩
        · exact ⟨_, by simp, rfl⟩
      refine q_forNLn (xs := [V.str "int", .str "text", .str "truth"]) (el_lst (by walk_at "ea") (by decide)) (fun pl i σ' H' => pl ≠ p ∧ H' pl = some (.lst [V.str "int", .str "text", .str "truth"]) ∧ Ex (wo H5 p) H' ∧ ∃ (L' : Pool) (k1 k2 k3 : Option V), PlAt H' p L' ∧
          σ' = [some (.ref a), some (.ref p), some (.ref pf), some (.ref pd), some (.int (tk : Int)), some vg, some (.ref pb), some vi, some (.str ⟨cs.toArray⟩), some (.bl due), k1, k2, k3, none, none, none, none])
        (fun pl H14 hpl e14 h14 => ⟨fun z => (by rw [z, show H13 p = _ from hp13] at hpl; cases hpl), h14, e13'.trans e14, L10, none, none, none, pl_ex hp13 e14, rfl⟩) (fun pl i σ' H' _ pv => .of pv.2.1) ?_ ?_
      · rintro pl i x σ' H14 hx ⟨hne, h14, e14, L14, k1, k2, k3, hp14, rfl⟩
        obtain ⟨kind, hk, rfl⟩ := kinds hx
        refine k_asg (G := wo H5 p) (ek_base hG rfl (ev_var rfl) hk) e14 hp14 fun v H15 L15 k15 hp15 ⟨d, hbk, hat⟩ => ?_
        have e15 : Ex (wo H5 p) H15 := ex_keep hG e14 k15
        have h15 := k15 _ _ hne h14
        refine s_forNLn (xs := [V.str "int", .str "text", .str "truth"]) (el_lst (by walk_at "ea") (by decide)) (fun pl2 j σ' H' => Ex H15 H' ∧ H' pl2 = some (.lst [V.str "int", .str "text", .str "truth"]) ∧ ∃ k3 : Option V,
            σ' = [some (.ref a), some (.ref p), some (.ref pf), some (.ref pd), some (.int (tk : Int)), some vg, some (.ref pb), some vi, some (.str ⟨cs.toArray⟩), some (.bl due), some (.str kind), some v, k3, none, none, none, none])
          (fun pl2 H16 hpl2 e16 h16 => ⟨e16, h16, k3, rfl⟩) (fun pl i σ' H' _ pv => .of pv.2.1) ?_ ?_
        · rintro pl2 j y σ' H16 hy ⟨e16, h16, k4, rfl⟩
          obtain ⟨own, ho, rfl⟩ := kinds hy
          have hv16 : At M0 H16 v d := hat _ _
          have hb16 : ∀ b, At M0 H16 (.bl b) (.bool b) := fun b => .bl b
          have hb1 := hb16 (fitsD d own)
          have hb2 := hb16 (decide (V.str own = .str kind))
          refine s_when (b := !sameD (.bool (fitsD d own)) (.bool (decide (V.str own = .str kind)))) (by walk_at "et") (fun c H17 e17 => ?_) (fun _ H17 e17 => ⟨e16.trans e17, e17 _ _ h16, some (.str own), rfl⟩)
          rw [hbk own ho, same_b] at c
          simp at c
        · rintro pl2 σ' H16 ⟨e16, h16, k4, rfl⟩
          exact ⟨hne, e16 _ _ h15, e15.trans e16, L15, _, _, _, pl_ex hp15 e16, rfl⟩
      · rintro pl σ' H14 ⟨hne, h14, e14, L14, k1, k2, k3, hp14, rfl⟩
        refine k_asg (G := wo H5 p) (ek_add (i := 10 ^ 30) hG (by walk_at "ev") (ek_draw rfl ev_c (by decide) (by decide))) e14 hp14 fun v H15 L15 k15 hp15 ⟨fn, hv, f0, f1⟩ => ?_
        subst hv
        have e15 : Ex (wo H5 p) H15 := ex_keep hG e14 k15
        have hi1 : At M0 H15 (.int (10 ^ 30 + fn)) (.int (10 ^ 30 + fn)) := .int _
        have hi2 : At M0 H15 (.int (0 - (10 ^ 30 + fn))) (.int (0 - (10 ^ 30 + fn))) := .int _
        have hi3 : At M0 H15 .non .none := .non
        refine q_when (b := !decide (fitsD (.int (10 ^ 30 + fn)) "int" = false) || (!decide (fitsD (.int (0 - (10 ^ 30 + fn))) "int" = false) || !decide (fitsD .none "int" = false))) (by walk_at "et") (fun c H16 e16 => ?_) (fun _ H16 e16 => ?_)
        · rw [show fitsD (.int (10 ^ 30 + fn)) "int" = false from far_hi f0, show fitsD (.int (0 - (10 ^ 30 + fn))) "int" = false from far_lo f0, show fitsD .none "int" = false from rfl] at c
          cases c
        have hp16 := pl_ex hp15 e16
        refine k_asg (G := wo H5 p) (ek_joinD (S := few) (m := 12) (by decide) (ek_lcD (P := fun v => ∃ c ∈ few, v = V.str ⟨#[c]⟩) hG (ek_draw rfl ev_c (by decide) (by decide)) (by decide) (fun _ => rfl)
            fun i => ek_ixS (m := 6) hG ev_c (by decide) (by decide) (ek_draw rfl ev_c (by decide) (by decide)))) (e15.trans e16) hp16 fun v H17 L17 k17 hp17 ⟨cz, hv, hzl, hzf⟩ => ?_
        subst hv
        have e17 : Ex (wo H5 p) H17 := ex_keep hG (e15.trans e16) k17
        refine k_asg (G := wo H5 p) (ek_ixN (xs := [V.str (Str.ofString "\""), .str (Str.ofString "\\"), .str (Str.ofString "\n"), .str (Str.ofString "\t")]) (m := 4) hG (el_lst (by walk_at "ea") (by decide)) rfl (ek_draw rfl ev_c (by decide) (by decide))) e17 hp17 fun v H18 L18 k18 hp18 hv => ?_
        obtain ⟨od, oc, rfl, hol, hob⟩ := odd_of hv
        have z1 : (⟨cz.toArray⟩ : Str).length = cz.length := List.size_toArray
        have z2 : od.length = 1 := by rw [← len_l, hol]; rfl
        have l1 : (⟨cz.toArray⟩ : Str).length + od.length ≤ 100000 := by omega
        have l2 : (Str.ofString "abcdefghijkl").length + (⟨cz.toArray⟩ : Str).length ≤ 100000 := by
          rw [show (Str.ofString "abcdefghijkl").length = 12 by decide]
          omega
        have hs1 : At M0 H18 (.str ⟨cz.toArray⟩) (.str ⟨cz.toArray⟩) := .str _ (by omega)
        have hs2 : At M0 H18 (.str (⟨cz.toArray⟩ ++ od)) (.str (⟨cz.toArray⟩ ++ od)) := .str _ (by rw [app_len]; exact l1)
        refine q_when (b := !decide (fitsD (.str ⟨cz.toArray⟩) "text" = true) || !decide (fitsD (.str (⟨cz.toArray⟩ ++ od)) "text" = false)) (by walk_at "et") (fun c H19 e19 => ?_) (fun _ H19 e19 => ?_)
        · rw [show fitsD (.str ⟨cz.toArray⟩) "text" = true from fits_few (by omega) hzf, show fitsD (.str (⟨cz.toArray⟩ ++ od)) "text" = false from fits_odd hol hob] at c
          cases c
        have hs3 : At M0 H19 (.str (Str.ofString "abcdefghijkl" ++ ⟨cz.toArray⟩)) (.str (Str.ofString "abcdefghijkl" ++ ⟨cz.toArray⟩)) := .str _ (by rw [app_len]; exact l2)
        have hb19 : ∀ b, At M0 H19 (.bl b) (.bool b) := fun b => .bl b
        have hb1 := hb19 (fitsD (.str (Str.ofString "abcdefghijkl" ++ ⟨cz.toArray⟩)) "text")
        have hb2 := hb19 (decide (V.str ⟨cz.toArray⟩ = .str (Str.ofString "")))
        refine s_ret (v := .bl true) (ev_is (v := .bl (sameD (.bool (fitsD (.str (Str.ofString "abcdefghijkl" ++ ⟨cz.toArray⟩)) "text")) (.bool (decide (V.str ⟨cz.toArray⟩ = .str (Str.ofString "")))))) (by walk_at "ev") ?_) fun H20 _ => k H20
        rw [same_b, long_few hzf]
        simp
end
theorem walkK {l : PySem.W.OpenLaw} {q : Program} {loose : List Str} {XP : (Str → Option Value) → Heap → Prop} {YP : World → Heap → Prop} {d : DefRec} {K : Params → PySem.W.Frag} (hn : l.most = some 63) (hdf : d.params.defaults = [])
    (hY : ∀ (w : World) (h : Heap), YP w h → (K w.params).In h) (hX : ∀ (mg : Str → Option Value) (h : Heap), XP mg h → ∃ t, mg "LARGEST" = some (.int largest t))
    (F : ∀ (w : World) (mg : Str → Option Value) (fa : Addr) (h : Heap), (K w.params).In h → h.Ns mainGlobals mg → mg d.name = some (.ref fa) → (∃ t, mg "LARGEST" = some (.int largest t)) →
      ∃ fd : FuncData, (∀ (s : Shared) (u : Value), BindsTo s fd ⟨[u], []⟩ [("_law_script", u)]) ∧ ∀ base : Heap, (K w.params).In base → base.Ns mainGlobals mg → FnOk l.prog w (K w.params) mg base CX0 40 fa fd ["_law_script"] (spLaw (K w.params))) :
    PySem.W.WalkO q loose XP YP l.row.toRowW d [] (fun f vs => PySem.call f vs) := by
  refine Att.attach_call hn hdf fun w s₀ s₁ mg mb fa o pm cd doc a vs ns G Y ho hd hcd hmg hobj hints hlen hg => ?_
  obtain ⟨fd, hb, hF⟩ := F w mg fa _ (hY w _ Y) G.T.g hmg (hX _ _ G.X)
  exact law_call (hY w _ Y) G.T.g G.T.b G.T.builtins G.T.nolimit hg hobj hints (Nat.le_trans hlen (by decide)) ⟨rfl, by decide, by decide⟩ hF hb (fun H _ hS => ⟨a, ns, rfl, hS, hlen, fun _ => rfl⟩) fun _ _ _ z => z
end K1
set_option Elab.async false
set_option linter.all false
set_option maxRecDepth 100000
set_option maxHeartbeats 4000000
namespace K1
open PySem PySem.Spec PyProof.Rows L2 LK Evl
theorem vals_len : ∀ {xs : List V} {vs : List Value}, Vals xs vs → vs.length = xs.length
  | _, _, .nil => rfl
  | _, _, .cons _ h => congrArg (· + 1) (vals_len h)
theorem all_mk {P : Program} {w : World} {K : PySem.W.Frag} {h : Heap} {mg : Str → Option Value} {fa : Addr} (X : K.In h) (G : h.Ns mainGlobals mg) (hfa : mg "law" = some (.ref fa)) {tL : Tok} (hL : mg "LARGEST" = some (.int largest tL))
    {f0 : Addr} {od0 an0 : Option Addr} {sl0 : Array (Option Value)} {oc0 kV0 dc0 pm0 cd0 ct0 : Value}
    {f1 : Addr} {od1 an1 : Option Addr} {sl1 : Array (Option Value)} {oc1 kV1 dc1 pm1 cd1 ct1 : Value}
    {f2 : Addr} {od2 an2 : Option Addr} {sl2 : Array (Option Value)} {oc2 kV2 dc2 pm2 cd2 ct2 : Value}
    {f3 : Addr} {od3 an3 : Option Addr} {sl3 : Array (Option Value)} {oc3 kV3 dc3 pm3 cd3 ct3 : Value}
    {f4 : Addr} {od4 an4 : Option Addr} {sl4 : Array (Option Value)} {oc4 kV4 dc4 pm4 cd4 ct4 : Value}
    {f5 : Addr} {od5 an5 : Option Addr} {sl5 : Array (Option Value)} {oc5 kV5 dc5 pm5 cd5 ct5 : Value}
    {f6 : Addr} {od6 an6 : Option Addr} {sl6 : Array (Option Value)} {oc6 kV6 dc6 pm6 cd6 ct6 : Value}
    {f7 : Addr} {od7 an7 : Option Addr} {sl7 : Array (Option Value)} {oc7 kV7 dc7 pm7 cd7 ct7 : Value}
    {f8 : Addr} {od8 an8 : Option Addr} {sl8 : Array (Option Value)} {oc8 kV8 dc8 pm8 cd8 ct8 : Value}
    {f9 : Addr} {od9 an9 : Option Addr} {sl9 : Array (Option Value)} {oc9 kV9 dc9 pm9 cd9 ct9 : Value}
    {f10 : Addr} {od10 an10 : Option Addr} {sl10 : Array (Option Value)} {oc10 kV10 dc10 pm10 cd10 ct10 : Value}
    {f11 : Addr} {od11 an11 : Option Addr} {sl11 : Array (Option Value)} {oc11 kV11 dc11 pm11 cd11 ct11 : Value}
    {f12 : Addr} {od12 an12 : Option Addr} {sl12 : Array (Option Value)} {oc12 kV12 dc12 pm12 cd12 ct12 : Value}
    {f13 : Addr} {od13 an13 : Option Addr} {sl13 : Array (Option Value)} {oc13 kV13 dc13 pm13 cd13 ct13 : Value}
    {f14 : Addr} {od14 an14 : Option Addr} {sl14 : Array (Option Value)} {oc14 kV14 dc14 pm14 cd14 ct14 : Value}
    {f15 : Addr} {od15 an15 : Option Addr} {sl15 : Array (Option Value)} {oc15 kV15 dc15 pm15 cd15 ct15 : Value}
    {f16 : Addr} {od16 an16 : Option Addr} {sl16 : Array (Option Value)} {oc16 kV16 dc16 pm16 cd16 ct16 : Value}
    {C aB : Addr} {t1 t2 : Tok} {nm q : Str} {N : Addr} {bs bm : List Value} {sn : List Str} {sub : List Value} {ab : Bool} {col : Option Bool} {dd : Option Addr} {m0 m1 m2 m3 m5 : Option Value} {cB : Value} {dB : Option Addr} {iB : Array Value} {nB : Nat} {slB : Array (Option Value)}
    (aC : PySem.W.nsIn K mainGlobals "BadKind" = some (some (.ref C)))
    (a0 : PySem.W.findIn K (.ref C) "__init__" = some (some (.ref f0)))
    (l0 : K.lookup f0 = some ⟨oc0, od0, .func (PySem.W.fnOf "__init__" "BadKind.__init__" (defArgs s_BadKind___init__) (defBody s_BadKind___init__) (defScope s_BadKind___init__) .none kV0 dc0 pm0 an0 cd0 ct0), sl0⟩)
    (c0 : PySem.W.codeIn K cd0 "BadKind.__init__" = true)
    (k0 : PySem.W.keepIn K (.ref f0) = true)
    (a1 : PySem.W.nsIn K mainGlobals "is_name" = some (some (.ref f1)))
    (l1 : K.lookup f1 = some ⟨oc1, od1, .func (PySem.W.fnOf "is_name" "is_name" (defArgs s_is_name) (defBody s_is_name) (defScope s_is_name) .none kV1 dc1 pm1 an1 cd1 ct1), sl1⟩)
    (c1 : PySem.W.codeIn K cd1 "is_name" = true)
    (k1 : PySem.W.keepIn K (.ref f1) = true)
    (a2 : PySem.W.nsIn K mainGlobals "is_whole" = some (some (.ref f2)))
    (l2 : K.lookup f2 = some ⟨oc2, od2, .func (PySem.W.fnOf "is_whole" "is_whole" (defArgs s_is_whole) (defBody s_is_whole) (defScope s_is_whole) .none kV2 dc2 pm2 an2 cd2 ct2), sl2⟩)
    (c2 : PySem.W.codeIn K cd2 "is_whole" = true)
    (k2 : PySem.W.keepIn K (.ref f2) = true)
    (a3 : PySem.W.nsIn K mainGlobals "is_row" = some (some (.ref f3)))
    (l3 : K.lookup f3 = some ⟨oc3, od3, .func (PySem.W.fnOf "is_row" "is_row" (defArgs s_is_row) (defBody s_is_row) (defScope s_is_row) .none kV3 dc3 pm3 an3 cd3 ct3), sl3⟩)
    (c3 : PySem.W.codeIn K cd3 "is_row" = true)
    (k3 : PySem.W.keepIn K (.ref f3) = true)
    (a4 : PySem.W.nsIn K mainGlobals "check_couples" = some (some (.ref f4)))
    (l4 : K.lookup f4 = some ⟨oc4, od4, .func (PySem.W.fnOf "check_couples" "check_couples" (defArgs s_check_couples) (defBody s_check_couples) (defScope s_check_couples) .none kV4 dc4 pm4 an4 cd4 ct4), sl4⟩)
    (c4 : PySem.W.codeIn K cd4 "check_couples" = true)
    (k4 : PySem.W.keepIn K (.ref f4) = true)
    (a5 : PySem.W.nsIn K mainGlobals "checked_kind" = some (some (.ref f5)))
    (l5 : K.lookup f5 = some ⟨oc5, od5, .func (PySem.W.fnOf "checked_kind" "checked_kind" (defArgs s_checked_kind) (defBody s_checked_kind) (defScope s_checked_kind) .none kV5 dc5 pm5 an5 cd5 ct5), sl5⟩)
    (c5 : PySem.W.codeIn K cd5 "checked_kind" = true)
    (k5 : PySem.W.keepIn K (.ref f5) = true)
    (a6 : PySem.W.nsIn K mainGlobals "check_kind" = some (some (.ref f6)))
    (l6 : K.lookup f6 = some ⟨oc6, od6, .func (PySem.W.fnOf "check_kind" "check_kind" (defArgs s_check_kind) (defBody s_check_kind) (defScope s_check_kind) .none kV6 dc6 pm6 an6 cd6 ct6), sl6⟩)
    (c6 : PySem.W.codeIn K cd6 "check_kind" = true)
    (k6 : PySem.W.keepIn K (.ref f6) = true)
    (a7 : PySem.W.nsIn K mainGlobals "fits_base" = some (some (.ref f7)))
    (l7 : K.lookup f7 = some ⟨oc7, od7, .func (PySem.W.fnOf "fits_base" "fits_base" (defArgs s_fits_base) (defBody s_fits_base) (defScope s_fits_base) .none kV7 dc7 pm7 an7 cd7 ct7), sl7⟩)
    (c7 : PySem.W.codeIn K cd7 "fits_base" = true)
    (k7 : PySem.W.keepIn K (.ref f7) = true)
    (a8 : PySem.W.nsIn K mainGlobals "_law_pool" = some (some (.ref f8)))
    (l8 : K.lookup f8 = some ⟨oc8, od8, .func (PySem.W.fnOf "_law_pool" "_law_pool" (defArgs s__law_pool) (defBody s__law_pool) (defScope s__law_pool) .none kV8 dc8 pm8 an8 cd8 ct8), sl8⟩)
    (c8 : PySem.W.codeIn K cd8 "_law_pool" = true)
    (k8 : PySem.W.keepIn K (.ref f8) = true)
    (a9 : PySem.W.nsIn K mainGlobals "_law_draw" = some (some (.ref f9)))
    (l9 : K.lookup f9 = some ⟨oc9, od9, .func (PySem.W.fnOf "_law_draw" "_law_draw" (defArgs s__law_draw) (defBody s__law_draw) (defScope s__law_draw) .none kV9 dc9 pm9 an9 cd9 ct9), sl9⟩)
    (c9 : PySem.W.codeIn K cd9 "_law_draw" = true)
    (k9 : PySem.W.keepIn K (.ref f9) = true)
    (a10 : PySem.W.nsIn K mainGlobals "_law_exact" = some (some (.ref f10)))
    (l10 : K.lookup f10 = some ⟨oc10, od10, .func (PySem.W.fnOf "_law_exact" "_law_exact" (defArgs s__law_exact) (defBody s__law_exact) (defScope s__law_exact) .none kV10 dc10 pm10 an10 cd10 ct10), sl10⟩)
    (c10 : PySem.W.codeIn K cd10 "_law_exact" = true)
    (k10 : PySem.W.keepIn K (.ref f10) = true)
    (a11 : PySem.W.nsIn K mainGlobals "_law_base_value" = some (some (.ref f11)))
    (l11 : K.lookup f11 = some ⟨oc11, od11, .func (PySem.W.fnOf "_law_base_value" "_law_base_value" (defArgs s__law_base_value) (defBody s__law_base_value) (defScope s__law_base_value) .none kV11 dc11 pm11 an11 cd11 ct11), sl11⟩)
    (c11 : PySem.W.codeIn K cd11 "_law_base_value" = true)
    (k11 : PySem.W.keepIn K (.ref f11) = true)
    (a12 : PySem.W.nsIn K mainGlobals "_law_bad_kinds" = some (some (.ref f12)))
    (l12 : K.lookup f12 = some ⟨oc12, od12, .func (PySem.W.fnOf "_law_bad_kinds" "_law_bad_kinds" (defArgs s__law_bad_kinds) (defBody s__law_bad_kinds) (defScope s__law_bad_kinds) .none kV12 dc12 pm12 an12 cd12 ct12), sl12⟩)
    (c12 : PySem.W.codeIn K cd12 "_law_bad_kinds" = true)
    (k12 : PySem.W.keepIn K (.ref f12) = true)
    (a13 : PySem.W.nsIn K mainGlobals "_law_good_kinds" = some (some (.ref f13)))
    (l13 : K.lookup f13 = some ⟨oc13, od13, .func (PySem.W.fnOf "_law_good_kinds" "_law_good_kinds" (defArgs s__law_good_kinds) (defBody s__law_good_kinds) (defScope s__law_good_kinds) .none kV13 dc13 pm13 an13 cd13 ct13), sl13⟩)
    (c13 : PySem.W.codeIn K cd13 "_law_good_kinds" = true)
    (k13 : PySem.W.keepIn K (.ref f13) = true)
    (a14 : PySem.W.nsIn K mainGlobals "_law_around" = some (some (.ref f14)))
    (l14 : K.lookup f14 = some ⟨oc14, od14, .func (PySem.W.fnOf "_law_around" "_law_around" (defArgs s__law_around) (defBody s__law_around) (defScope s__law_around) .none kV14 dc14 pm14 an14 cd14 ct14), sl14⟩)
    (c14 : PySem.W.codeIn K cd14 "_law_around" = true)
    (k14 : PySem.W.keepIn K (.ref f14) = true)
    (a15 : PySem.W.nsIn K mainGlobals "_law_let_by" = some (some (.ref f15)))
    (l15 : K.lookup f15 = some ⟨oc15, od15, .func (PySem.W.fnOf "_law_let_by" "_law_let_by" (defArgs s__law_let_by) (defBody s__law_let_by) (defScope s__law_let_by) .none kV15 dc15 pm15 an15 cd15 ct15), sl15⟩)
    (c15 : PySem.W.codeIn K cd15 "_law_let_by" = true)
    (k15 : PySem.W.keepIn K (.ref f15) = true)
    (a16 : PySem.W.nsIn K mainGlobals "law" = some (some (.ref f16)))
    (l16 : K.lookup f16 = some ⟨oc16, od16, .func (PySem.W.fnOf "law" "law" (defArgs s_law) (defBody s_law) (defScope s_law) .none kV16 dc16 pm16 an16 cd16 ct16), sl16⟩)
    (c16 : PySem.W.codeIn K cd16 "law" = true)
    (k16 : PySem.W.keepIn K (.ref f16) = true)
    (z_len : PySem.W.nsIn K mainGlobals "len" = some none)
    (z_isinstance : PySem.W.nsIn K mainGlobals "isinstance" = some none)
    (z_range : PySem.W.nsIn K mainGlobals "range" = some none)
    (z_tuple : PySem.W.nsIn K mainGlobals "tuple" = some none)
    (z_list : PySem.W.nsIn K mainGlobals "list" = some none)
    (z_str : PySem.W.nsIn K mainGlobals "str" = some none)
    (z_int : PySem.W.nsIn K mainGlobals "int" = some none)
    (z_bool : PySem.W.nsIn K mainGlobals "bool" = some none)
    (z_all : PySem.W.nsIn K mainGlobals "all" = some none)
    (z_ord : PySem.W.nsIn K mainGlobals "ord" = some none)
    (xC : K.lookup C = some (excClassObj nm q C N bs bm true sn sub ab col dd m0 m1 m2 m3 m5 "ValueError.__new__"))
    (xb : PySem.HandSPX.refsVE bm = true)
    (sa : PySem.W.findIn K (.ref C) "__setattr__" = some (some (.builtin "object.__setattr__")))
    (ec : PySem.W.subIn K (.ref C) (.type "BaseException") = some true)
    (tc : PySem.W.typeIn K (.ref C) = some (.type "type"))
    (kc : PySem.W.keepIn K (.ref C) = true)
    (nw : PySem.W.findIn K (.ref C) "what" = some none)
    (ti : PySem.W.typeIn K (.ref f0) = some (.type "function"))
    (ga : PySem.W.findIn K (.ref C) "__getattribute__" = some (some (.builtin "BaseException.__getattribute__")))
    (gg : PySem.W.findIn K (.ref C) "__getattr__" = some none)
    (gc : PySem.W.findIn K (.ref C) "__class__" = some (some (.builtin "object.__class__")))
    (sp : PySem.W.specialIn K (.builtin "object.__class__") "__get__" = some (some (.builtin "getset_descriptor.__get__")))
    (tk : PySem.W.takesIn K (.builtin "object.__class__") = some true)
    (ob : PySem.W.mroIn K C (.type "object") = some true)
    (xm : PySem.W.exmOne K (.ref C) (.ref C) = some true)
    (ko : PySem.W.kitOne K (.ref C) (.ref C) = some true)
    (s1 : PySem.W.nsIn K mainGlobals "LETTERS" = some (some (.str (Str.ofString "abcdefghijklmnopqrstuvwxyz") t1)))
    (s2 : PySem.W.nsIn K mainGlobals "SIGNS" = some (some (.str (Str.ofString "abcdefghijklmnopqrstuvwxyz0123456789") t2)))
    (sB : PySem.W.nsIn K mainGlobals "BASES" = some (some (.ref aB)))
    (lB : K.lookup aB = some ⟨cB, dB, .seq iB nB, slB⟩)
    (hB : cB = .type "tuple")
    (vB : Vals [V.str "int", .str "text", .str "truth"] iB.toList)
    : ∃ fd : FuncData, (∀ (s : Shared) (u : Value), BindsTo s fd ⟨[u], []⟩ [("_law_script", u)]) ∧ ∀ base : Heap, K.In base → base.Ns mainGlobals mg → FnOk P w K mg base CX0 40 fa fd ["_law_script"] (spLaw K) := by
  have e := hfa.symm.trans (PySem.W.mg_of X G a16)
  obtain rfl : f16 = fa := by
    cases e
    rfl
  have T : Txt K mg { a_BadKind___init__ := f0, f_BadKind___init__ := (PySem.W.fnOf "__init__" "BadKind.__init__" (defArgs s_BadKind___init__) (defBody s_BadKind___init__) (defScope s_BadKind___init__) .none kV0 dc0 pm0 an0 cd0 ct0), a_is_name := f1, f_is_name := (PySem.W.fnOf "is_name" "is_name" (defArgs s_is_name) (defBody s_is_name) (defScope s_is_name) .none kV1 dc1 pm1 an1 cd1 ct1), a_is_whole := f2, f_is_whole := (PySem.W.fnOf "is_whole" "is_whole" (defArgs s_is_whole) (defBody s_is_whole) (defScope s_is_whole) .none kV2 dc2 pm2 an2 cd2 ct2), a_is_row := f3, f_is_row := (PySem.W.fnOf "is_row" "is_row" (defArgs s_is_row) (defBody s_is_row) (defScope s_is_row) .none kV3 dc3 pm3 an3 cd3 ct3), a_check_couples := f4, f_check_couples := (PySem.W.fnOf "check_couples" "check_couples" (defArgs s_check_couples) (defBody s_check_couples) (defScope s_check_couples) .none kV4 dc4 pm4 an4 cd4 ct4), a_checked_kind := f5, f_checked_kind := (PySem.W.fnOf "checked_kind" "checked_kind" (defArgs s_checked_kind) (defBody s_checked_kind) (defScope s_checked_kind) .none kV5 dc5 pm5 an5 cd5 ct5), a_check_kind := f6, f_check_kind := (PySem.W.fnOf "check_kind" "check_kind" (defArgs s_check_kind) (defBody s_check_kind) (defScope s_check_kind) .none kV6 dc6 pm6 an6 cd6 ct6), a_fits_base := f7, f_fits_base := (PySem.W.fnOf "fits_base" "fits_base" (defArgs s_fits_base) (defBody s_fits_base) (defScope s_fits_base) .none kV7 dc7 pm7 an7 cd7 ct7), a__law_pool := f8, f__law_pool := (PySem.W.fnOf "_law_pool" "_law_pool" (defArgs s__law_pool) (defBody s__law_pool) (defScope s__law_pool) .none kV8 dc8 pm8 an8 cd8 ct8), a__law_draw := f9, f__law_draw := (PySem.W.fnOf "_law_draw" "_law_draw" (defArgs s__law_draw) (defBody s__law_draw) (defScope s__law_draw) .none kV9 dc9 pm9 an9 cd9 ct9), a__law_exact := f10, f__law_exact := (PySem.W.fnOf "_law_exact" "_law_exact" (defArgs s__law_exact) (defBody s__law_exact) (defScope s__law_exact) .none kV10 dc10 pm10 an10 cd10 ct10), a__law_base_value := f11, f__law_base_value := (PySem.W.fnOf "_law_base_value" "_law_base_value" (defArgs s__law_base_value) (defBody s__law_base_value) (defScope s__law_base_value) .none kV11 dc11 pm11 an11 cd11 ct11), a__law_bad_kinds := f12, f__law_bad_kinds := (PySem.W.fnOf "_law_bad_kinds" "_law_bad_kinds" (defArgs s__law_bad_kinds) (defBody s__law_bad_kinds) (defScope s__law_bad_kinds) .none kV12 dc12 pm12 an12 cd12 ct12), a__law_good_kinds := f13, f__law_good_kinds := (PySem.W.fnOf "_law_good_kinds" "_law_good_kinds" (defArgs s__law_good_kinds) (defBody s__law_good_kinds) (defScope s__law_good_kinds) .none kV13 dc13 pm13 an13 cd13 ct13), a__law_around := f14, f__law_around := (PySem.W.fnOf "_law_around" "_law_around" (defArgs s__law_around) (defBody s__law_around) (defScope s__law_around) .none kV14 dc14 pm14 an14 cd14 ct14), a__law_let_by := f15, f__law_let_by := (PySem.W.fnOf "_law_let_by" "_law_let_by" (defArgs s__law_let_by) (defBody s__law_let_by) (defScope s__law_let_by) .none kV15 dc15 pm15 an15 cd15 ct15), a_law := f16, f_law := (PySem.W.fnOf "law" "law" (defArgs s_law) (defBody s_law) (defScope s_law) .none kV16 dc16 pm16 an16 cd16 ct16), c_BadKind := C, t_LETTERS := t1, t_SIGNS := t2, t_LARGEST := tL, a_BASES := aB } := { F_BadKind___init__ := fun_mk (st := s_BadKind___init__) l0 c0 k0, b_BadKind___init__ := (fun_mk (st := s_BadKind___init__) l0 c0 k0).binds (ps := ["self"]) (fun _ _ _ _ _ _ us hl => match us, hl with | [_], _ => rfl), F_is_name := fun_mk (st := s_is_name) l1 c1 k1, b_is_name := (fun_mk (st := s_is_name) l1 c1 k1).binds (ps := ["thing"]) (fun _ _ _ _ _ _ us hl => match us, hl with | [_], _ => rfl), g_is_name := PySem.W.mg_of X G a1, F_is_whole := fun_mk (st := s_is_whole) l2 c2 k2, b_is_whole := (fun_mk (st := s_is_whole) l2 c2 k2).binds (ps := ["thing"]) (fun _ _ _ _ _ _ us hl => match us, hl with | [_], _ => rfl), g_is_whole := PySem.W.mg_of X G a2, F_is_row := fun_mk (st := s_is_row) l3 c3 k3, b_is_row := (fun_mk (st := s_is_row) l3 c3 k3).binds (ps := ["thing", "size"]) (fun _ _ _ _ _ _ us hl => match us, hl with | [_, _], _ => rfl), g_is_row := PySem.W.mg_of X G a3, F_check_couples := fun_mk (st := s_check_couples) l4 c4 k4, b_check_couples := (fun_mk (st := s_check_couples) l4 c4 k4).binds (ps := ["couples", "deep"]) (fun _ _ _ _ _ _ us hl => match us, hl with | [_, _], _ => rfl), g_check_couples := PySem.W.mg_of X G a4, F_checked_kind := fun_mk (st := s_checked_kind) l5 c5 k5, b_checked_kind := (fun_mk (st := s_checked_kind) l5 c5 k5).binds (ps := ["kind", "deep"]) (fun _ _ _ _ _ _ us hl => match us, hl with | [_, _], _ => rfl), g_checked_kind := PySem.W.mg_of X G a5, F_check_kind := fun_mk (st := s_check_kind) l6 c6 k6, b_check_kind := (fun_mk (st := s_check_kind) l6 c6 k6).binds (ps := ["kind"]) (fun _ _ _ _ _ _ us hl => match us, hl with | [_], _ => rfl), g_check_kind := PySem.W.mg_of X G a6, F_fits_base := fun_mk (st := s_fits_base) l7 c7 k7, b_fits_base := (fun_mk (st := s_fits_base) l7 c7 k7).binds (ps := ["value", "kind"]) (fun _ _ _ _ _ _ us hl => match us, hl with | [_, _], _ => rfl), g_fits_base := PySem.W.mg_of X G a7, F__law_pool := fun_mk (st := s__law_pool) l8 c8 k8, b__law_pool := (fun_mk (st := s__law_pool) l8 c8 k8).binds (ps := ["_law_script", "_law_at"]) (fun _ _ _ _ _ _ us hl => match us, hl with | [_, _], _ => rfl), g__law_pool := PySem.W.mg_of X G a8, F__law_draw := fun_mk (st := s__law_draw) l9 c9 k9, b__law_draw := (fun_mk (st := s__law_draw) l9 c9 k9).binds (ps := ["_law_pool_here", "_law_many"]) (fun _ _ _ _ _ _ us hl => match us, hl with | [_, _], _ => rfl), g__law_draw := PySem.W.mg_of X G a9, F__law_exact := fun_mk (st := s__law_exact) l10 c10 k10, b__law_exact := (fun_mk (st := s__law_exact) l10 c10 k10).binds (ps := ["_law_told", "_law_due"]) (fun _ _ _ _ _ _ us hl => match us, hl with | [_, _], _ => rfl), g__law_exact := PySem.W.mg_of X G a10, F__law_base_value := fun_mk (st := s__law_base_value) l11 c11 k11, b__law_base_value := (fun_mk (st := s__law_base_value) l11 c11 k11).binds (ps := ["_law_pool_here", "_law_kind"]) (fun _ _ _ _ _ _ us hl => match us, hl with | [_, _], _ => rfl), g__law_base_value := PySem.W.mg_of X G a11, F__law_bad_kinds := fun_mk (st := s__law_bad_kinds) l12 c12 k12, b__law_bad_kinds := (fun_mk (st := s__law_bad_kinds) l12 c12 k12).binds (ps := []) (fun _ _ _ _ _ _ us hl => match us, hl with | [], _ => rfl), g__law_bad_kinds := PySem.W.mg_of X G a12, F__law_good_kinds := fun_mk (st := s__law_good_kinds) l13 c13 k13, b__law_good_kinds := (fun_mk (st := s__law_good_kinds) l13 c13 k13).binds (ps := []) (fun _ _ _ _ _ _ us hl => match us, hl with | [], _ => rfl), g__law_good_kinds := PySem.W.mg_of X G a13, F__law_around := fun_mk (st := s__law_around) l14 c14 k14, b__law_around := (fun_mk (st := s__law_around) l14 c14 k14).binds (ps := ["_law_pool_here", "_law_kind", "_law_turns"]) (fun _ _ _ _ _ _ us hl => match us, hl with | [_, _, _], _ => rfl), g__law_around := PySem.W.mg_of X G a14, F__law_let_by := fun_mk (st := s__law_let_by) l15 c15 k15, b__law_let_by := (fun_mk (st := s__law_let_by) l15 c15 k15).binds (ps := ["_law_kind"]) (fun _ _ _ _ _ _ us hl => match us, hl with | [_], _ => rfl), g__law_let_by := PySem.W.mg_of X G a15, F_law := fun_mk (st := s_law) l16 c16 k16, b_law := (fun_mk (st := s_law) l16 c16 k16).binds (ps := ["_law_script"]) (fun _ _ _ _ _ _ us hl => match us, hl with | [_], _ => rfl), g_law := PySem.W.mg_of X G a16, b_len := PySem.W.mg_none_of X G z_len, b_isinstance := PySem.W.mg_none_of X G z_isinstance, b_range := PySem.W.mg_none_of X G z_range, b_tuple := PySem.W.mg_none_of X G z_tuple, b_list := PySem.W.mg_none_of X G z_list, b_str := PySem.W.mg_none_of X G z_str, b_int := PySem.W.mg_none_of X G z_int, b_bool := PySem.W.mg_none_of X G z_bool, b_all := PySem.W.mg_none_of X G z_all, b_ord := PySem.W.mg_none_of X G z_ord, g_LETTERS := PySem.W.mg_of X G s1, g_SIGNS := PySem.W.mg_of X G s2, g_LARGEST := hL, g_BASES := PySem.W.mg_of X G sB, x_BadKind := ⟨⟨nm, q, N, bs, bm, sn, sub, ab, col, dd, m0, m1, m2, m3, m5, xC, xb⟩, sa, ec, tc, kc⟩, n_what := nw, i_BadKind := a0, t_BadKind := ti, g_BadKind := PySem.W.mg_of X G aC, m_BadKind := xm, s_BadKind := ⟨(by unfold PySem.W.clsIn; rw [xC]; rfl), ga, gg, ec, gc, sp, tk, ob⟩, o_BadKind := ko, q_BASES := fun H => .inr ⟨_, iB, nB, lB, hB, rfl, (sz_of (by have z := vals_len vB; rw [Array.length_toList] at z; rw [z]; decide)), vB⟩ }
  exact ⟨_, fun s u => .of_eq rfl, fun base _ _ => ok_law T⟩
theorem reads_int {h : Heap} {v : Value} {i : Int} (r : PySem.W.ReadsLit h v (.int i) []) : ∃ t, v = .int i t := by
  cases r
  exact ⟨_, rfl⟩
end K1
open PySem PySem.W PyProof.Rows
set_option maxRecDepth 100000 in
set_option maxHeartbeats 0 in
theorem PySem.Challenge.cw_listasks_k01_kinds_and_values_let_by_or_holds : PySem.Challenge.rw_listasks_k01_kinds_and_values_let_by_or.Holds := by
  w_on; o_law; k_head; (case hw => w_witness2)
  k_fill
  refine K1.walkK (l := PySem.Challenge.rw_listasks_k01_kinds_and_values_let_by_or) rfl rfl (fun w h Y => PySem.W.kIn_of Y) (fun mg h X => ?L) ?F
  case L =>
    obtain ⟨v, hv, hr⟩ := X.2.val (Str.ofString "LARGEST", WData.int (10 ^ 30)) (by first | exact List.mem_cons_self | exact List.mem_cons_self ..)
    obtain ⟨t, rfl⟩ := K1.reads_int hr
    exact ⟨t, hv⟩
  case F =>
    intro w mg fa h KX G hmg ⟨tL, hL⟩
    refine' K1.all_mk KX G hmg hL ?aC ?a0 ?l0 ?c0 ?k0 ?a1 ?l1 ?c1 ?k1 ?a2 ?l2 ?c2 ?k2 ?a3 ?l3 ?c3 ?k3 ?a4 ?l4 ?c4 ?k4 ?a5 ?l5 ?c5 ?k5 ?a6 ?l6 ?c6 ?k6 ?a7 ?l7 ?c7 ?k7 ?a8 ?l8 ?c8 ?k8 ?a9 ?l9 ?c9 ?k9 ?a10 ?l10 ?c10 ?k10 ?a11 ?l11 ?c11 ?k11 ?a12 ?l12 ?c12 ?k12 ?a13 ?l13 ?c13 ?k13 ?a14 ?l14 ?c14 ?k14 ?a15 ?l15 ?c15 ?k15 ?a16 ?l16 ?c16 ?k16 ?z_len ?z_isinstance ?z_range ?z_tuple ?z_list ?z_str ?z_int ?z_bool ?z_all ?z_ord ?xC ?xb ?sa ?ec ?tc ?kc ?nw ?ti ?ga ?gg ?gc ?sp ?tk ?ob ?xm ?ko ?s1 ?s2 ?sB ?lB ?hB ?vB
    (case aC => k_is); (case a0 => k_is); (case l0 => k_is); (case c0 => k_is); (case k0 => k_is); (case a1 => k_is); (case l1 => k_is); (case c1 => k_is); (case k1 => k_is); (case a2 => k_is); (case l2 => k_is); (case c2 => k_is); (case k2 => k_is); (case a3 => k_is); (case l3 => k_is); (case c3 => k_is); (case k3 => k_is); (case a4 => k_is); (case l4 => k_is); (case c4 => k_is); (case k4 => k_is); (case a5 => k_is); (case l5 => k_is); (case c5 => k_is); (case k5 => k_is); (case a6 => k_is); (case l6 => k_is); (case c6 => k_is); (case k6 => k_is); (case a7 => k_is); (case l7 => k_is); (case c7 => k_is); (case k7 => k_is); (case a8 => k_is); (case l8 => k_is); (case c8 => k_is); (case k8 => k_is); (case a9 => k_is); (case l9 => k_is); (case c9 => k_is); (case k9 => k_is); (case a10 => k_is); (case l10 => k_is); (case c10 => k_is); (case k10 => k_is); (case a11 => k_is); (case l11 => k_is); (case c11 => k_is); (case k11 => k_is); (case a12 => k_is); (case l12 => k_is); (case c12 => k_is); (case k12 => k_is); (case a13 => k_is); (case l13 => k_is); (case c13 => k_is); (case k13 => k_is); (case a14 => k_is); (case l14 => k_is); (case c14 => k_is); (case k14 => k_is); (case a15 => k_is); (case l15 => k_is); (case c15 => k_is); (case k15 => k_is); (case a16 => k_is); (case l16 => k_is); (case c16 => k_is); (case k16 => k_is); (case z_len => k_is); (case z_isinstance => k_is); (case z_range => k_is); (case z_tuple => k_is); (case z_list => k_is); (case z_str => k_is); (case z_int => k_is); (case z_bool => k_is); (case z_all => k_is); (case z_ord => k_is); (case xC => k_is); (case xb => (first | rfl | decide)); (case sa => k_is); (case ec => k_is); (case tc => k_is); (case kc => k_is); (case nw => k_is); (case ti => k_is); (case ga => k_is); (case gg => k_is); (case gc => k_is); (case sp => k_is); (case tk => k_is); (case ob => k_is); (case xm => (first | k_is | rfl | decide +kernel)); (case ko => (first | k_is | rfl | decide +kernel)); (case s1 => k_is); (case s2 => k_is); (case sB => k_is); (case lB => k_is); (case hB => rfl); (case vB => exact .cons ⟨_, rfl⟩ (.cons ⟨_, rfl⟩ (.cons ⟨_, rfl⟩ .nil)))
