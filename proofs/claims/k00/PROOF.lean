import PyProof.Rows.All
import Wide.All
import OpenK.AllK
import Wide.FinOn
import KE.KExcIs
import HandS.ForMost
import HandS.ForExc
import HandS.IsInst
import HandS.ExcInit
import HandS.TupAny
import HandS.TupLe
import HandS.Walk
import HandS.Evl
import HandS.ExcField
import PySem.Challenge.RW_listasks_k00_kinds_and_the_places_of_the
set_option Elab.async false
set_option linter.all false
set_option maxRecDepth 100000
set_option maxHeartbeats 4000000
/-! The common ground: operators by any of their kinds, heaps that keep what stood, data as trees. -/
namespace LK
open PySem PySem.Spec PyProof.Rows L2

/-! ### operators whose kind the values tell -/
section
variable {X : Cx} {K : PySem.W.Frag} {k : Nat}
def rAddS : R2 := fun x y H Q => ∃ i j, x = .str i ∧ y = .str j ∧ i.length + j.length ≤ sizeLine ∧ Q (.str (i ++ j)) H
def rAddA (K : PySem.W.Frag) : R2 := fun x y H Q => (rI0 fun i j => .int (i + j)) x y H Q ∨ (rAddS x y H Q ∨ (rCat x y H Q ∨ rCatA K x y H Q))
theorem opAdd (hK : X.K = K := by rfl) : OpR X (binaryOp .Add) (rAddA K) := by
  subst hK
  exact OpR.or op_add (OpR.or op_add_str (OpR.or op_cat op_catA))
def rEqA (K : PySem.W.Frag) : R2 := fun x y H Q => rEq x y H Q ∨ rEqD K x y H Q
theorem opEq (hr : Room k X.A) (hK : X.K = K := by rfl) : OpR X (compareOp .Eq) (rEqA K) := by
  subst hK
  exact OpR.or op_eq (op_eqD hr.units)
def rNeA (K : PySem.W.Frag) : R2 := fun x y H Q => rNe x y H Q ∨ rNeD K x y H Q
theorem opNe (hr : Room k X.A) (hK : X.K = K := by rfl) : OpR X (compareOp .NotEq) (rNeA K) := by
  subst hK
  exact OpR.or op_ne (op_neD hr.units)
def rInC : R2 := fun x y H Q => ∃ (c : Nat) (z : Str), x = .str ⟨#[c]⟩ ∧ y = .str z ∧ Q (.bl (decide (c ∈ z.cps.toList))) H
def rNiC : R2 := fun x y H Q => ∃ (c : Nat) (z : Str), x = .str ⟨#[c]⟩ ∧ y = .str z ∧ Q (.bl (!decide (c ∈ z.cps.toList))) H
def rInA (K : PySem.W.Frag) : R2 := fun x y H Q => rInC x y H Q ∨ rIn K false x y H Q
theorem opIn (hK : X.K = K := by rfl) : OpR X (compareOp .In) (rInA K) := by
  subst hK
  exact OpR.or op_in_sign op_in_seq
def rNiA (K : PySem.W.Frag) : R2 := fun x y H Q => rNiC x y H Q ∨ rIn K true x y H Q
theorem opNotIn (hK : X.K = K := by rfl) : OpR X (compareOp .NotIn) (rNiA K) := by
  subst hK
  exact OpR.or op_notIn_sign op_notIn_seq
/-- two texts, by their code points -/
def rTT (g : List Nat → List Nat → Bool) : R2 := fun x y H Q => ∃ i j, x = .str i ∧ y = .str j ∧ Q (.bl (g i.cps.toList j.cps.toList)) H
def rLtA : R2 := fun x y H Q => (rI0 fun i j => .bl (decide (i < j))) x y H Q ∨ rTT (fun a b => decide (a < b)) x y H Q
theorem opLt : OpR X (compareOp .Lt) rLtA := OpR.or op_lt op_lt_str
def rLeA : R2 := fun x y H Q => (rI0 fun i j => .bl (decide (i ≤ j))) x y H Q ∨ rTT (fun a b => !decide (b < a)) x y H Q
theorem opLe : OpR X (compareOp .LtE) rLeA := OpR.or op_le op_le_str
def rGtA : R2 := fun x y H Q => (rI0 fun i j => .bl (decide (j < i))) x y H Q ∨ rTT (fun a b => decide (b < a)) x y H Q
theorem opGt : OpR X (compareOp .Gt) rGtA := OpR.or op_gt op_gt_str
def rGeA : R2 := fun x y H Q => (rI0 fun i j => .bl (decide (j ≤ i))) x y H Q ∨ rTT (fun a b => !decide (a < b)) x y H Q
theorem opGe : OpR X (compareOp .GtE) rGeA := OpR.or op_ge op_ge_str
theorem slAny (hK : X.K = K := by rfl) : SlR X (fun x lo hi H Q => rSlL K x lo hi H Q ∨ (rSlS x lo hi H Q ∨ rSlT K x lo hi H Q)) := by
  subst hK
  exact SlR.or sl_list (SlR.or sl_str sl_tup)
theorem ixAny (hK : X.K = K := by rfl) : IxR X (rIx K) := by
  subst hK
  exact ix_seq
def rLen (K : PySem.W.Frag) : List V → Hp → VK → Prop := fun xs H Q => ∃ x n, xs = [x] ∧ LenV K x H n ∧ Q (.int (n : Nat)) H
theorem lenAny (hK : X.K = K := by rfl) : CallR X (.builtin "len") (rLen K) := by
  subst hK
  exact call_len
theorem isiOne (hK : X.K = K := by rfl) : CallR X (.builtin "isinstance") (rIsi K) := by
  subst hK
  exact call_isi
theorem isiTup (hK : X.K = K := by rfl) : CallR X (.builtin "isinstance") (rIsiT K) := by
  subst hK
  exact call_isiT
theorem allOf (hc : X.calm = true) (hK : X.K = K := by rfl) : CallR X (.builtin "all") (rAll K) := by
  subst hK
  exact cr_all hc
theorem anyOf (hc : X.calm = true) (hK : X.K = K := by rfl) : CallR X (.builtin "any") (rAny K) := by
  subst hK
  exact cr_any hc
def rTupOf (K : PySem.W.Frag) : List V → Hp → VK → Prop := fun xs H Q => ∃ p ys, xs = [V.ref p] ∧ ((SqL K H p ys ∧ ∀ l, H l = none → Q (.ref l) (upd H l (.tup ys))) ∨ (SqT K H p ys ∧ Q (.ref p) H))
theorem tupOf (hK : X.K = K := by rfl) : CallR X (.type "tuple") (rTupOf K) := by
  subst hK
  exact call_tuple_of
def rInt : List V → Hp → VK → Prop := fun xs H Q => (∃ i, xs = [V.int i] ∧ Q (.int i) H) ∨ ∃ k, xs = [V.bl k] ∧ Q (.int (if k then 1 else 0)) H
theorem intOf : CallR X (.type "int") rInt := call_int1
def rOrd : List V → Hp → VK → Prop := fun xs H Q => ∃ x, xs = [V.str x] ∧ x.length = 1 ∧ Q (.int (x.cps.getD 0 0 : Nat)) H
theorem ordOf : CallR X (.builtin "ord") rOrd := call_ord
def rJoin (K : PySem.W.Frag) : V → List V → Hp → VK → Prop := fun x xs H Q => ∃ a p, ∃ ys : List Str, x = .str a ∧ xs = [.ref p] ∧ (SqL K H p (ys.map V.str) ∨ SqT K H p (ys.map V.str)) ∧
  (ys.map (·.length)).sum + ys.length * a.length ≤ 16777216 ∧ Q (.str (Txt.join a ys)) H
theorem peJoin {o e : Expr} {to te : TE} {apos pos : Pos} (ho : PE X o to) (he : PE X e te) (hK : X.K = K := by rfl) (hs : starEach [e] X.env = [(false, eval e X.env)] := by rfl)
    (hb : attributeBase o "join" X.env (eval o X.env) = eval o X.env := by rfl) (hline : (apos.endLine == pos.line) = true := by rfl) : PE X (.Call (.Attribute o "join" apos) [e] [] pos) (tM1 (rJoin K) to te) := by
  subst hK
  exact pe_join ho he hs hb hline
/-- a value's truth as a test -/
def tTr (K : PySem.W.Frag) (ta : TE) : TT := fun σ H Q => ta σ H fun x H' => ∃ k, TruV K x H' k ∧ Q k H'
theorem ptTr {a : Expr} {ta : TE} (ha : PE X a ta) (hK : X.K = K := by rfl) (he : ∀ whole, isTrue a X.env whole = (do let v ← whole; standAt a.pos; holding [v] (truthy v)) := by intro _; rfl) : PT X a (tTr K ta) := by
  subst hK
  exact pt_truth ha he
end

/-! ### heaps that keep what stood; M: the addresses that may change -/
def Keep (M : Addr → Prop) (H H' : Hp) : Prop := ∀ a o, ¬ M a → H a = some o → H' a = some o
theorem Keep.refl (M : Addr → Prop) (H : Hp) : Keep M H H := fun _ _ _ h => h
theorem Keep.trans {M : Addr → Prop} {H H1 H2 : Hp} (a : Keep M H H1) (b : Keep M H1 H2) : Keep M H H2 := fun x o n h => b x o n (a x o n h)
theorem Keep.of {M : Addr → Prop} {H H1 : Hp} (a : Same H H1) : Keep M H H1 := fun x o _ h => a x o h
theorem Keep.mono {M M' : Addr → Prop} {H H1 : Hp} (a : Keep M H H1) (h : ∀ x, M x → M' x) : Keep M' H H1 := fun x o n e => a x o (fun z => n (h x z)) e
theorem Keep.new {M : Addr → Prop} {H H1 : Hp} {p : Addr} {o : HO} (a : Keep M H H1) (h : H1 p = none) : Keep M H (upd H1 p o) := fun x u n e => by
  have e1 := a x u n e
  rw [upd_ne (ne_of_none e1 h)]
  exact e1
/-- an object that may change is changed -/
theorem Keep.put {M : Addr → Prop} {H H1 : Hp} {p : Addr} {o : HO} (a : Keep M H H1) (h : M p) : Keep M H (upd H1 p o) := fun x u n e => by
  have e1 := a x u n e
  rw [upd_ne (fun z => n (by rw [z]; exact h))]
  exact e1
/-- an object that was not there is changed -/
theorem Keep.own {M : Addr → Prop} {H H1 : Hp} {p : Addr} {o : HO} (a : Keep M H H1) (h : H p = none) : Keep M H (upd H1 p o) := fun x u n e => by
  have e1 := a x u n e
  rw [upd_ne (ne_of_none e h)]
  exact e1
theorem sm_new {H H1 : Hp} {p : Addr} {o : HO} (a : Same H H1) (h : H1 p = none) : Same H (upd H1 p o) := fun x u e => by
  have e1 := a x u e
  rw [upd_ne (ne_of_none e1 h)]
  exact e1
theorem sm_own {H H1 : Hp} {p : Addr} {o : HO} (a : Same H H1) (h : H p = none) : Same H (upd H1 p o) := fun x u e => by
  have e1 := a x u e
  rw [upd_ne (ne_of_none e h)]
  exact e1
theorem fr_back {H H1 : Hp} {p : Addr} (a : Same H H1) (h : H1 p = none) : H p = none := Same.free a h
def Trk (M : Addr → Prop) (H : Hp) : Prop := ∀ a, M a → ∃ o, H a = some o
theorem Trk.fresh {M : Addr → Prop} {H : Hp} {p : Addr} (t : Trk M H) (h : H p = none) : ¬ M p := fun m => by
  obtain ⟨o, e⟩ := t p m
  rw [h] at e
  cases e
theorem Trk.same {M : Addr → Prop} {H H1 : Hp} (t : Trk M H) (a : Same H H1) : Trk M H1 := fun x m => let ⟨o, e⟩ := t x m; ⟨o, a x o e⟩

/-! ### data as trees -/
mutual
inductive At (M : Addr → Prop) (H : Hp) : V → PyData → Prop
  | non : At M H .non .none
  | bl (b : Bool) : At M H (.bl b) (.bool b)
  | int (i : Int) : At M H (.int i) (.int i)
  | str (x : Str) (h : x.length ≤ 100000) : At M H (.str x) (.str x)
  | lst {a : Addr} {xs : List V} {ds : List PyData} (n : ¬ M a) (h : H a = some (.lst xs)) (r : Ats M H xs ds) : At M H (.ref a) (.list ds)
  | tup {a : Addr} {xs : List V} {ds : List PyData} (n : ¬ M a) (h : H a = some (.tup xs)) (r : Ats M H xs ds) : At M H (.ref a) (.tuple ds)
inductive Ats (M : Addr → Prop) (H : Hp) : List V → List PyData → Prop
  | nil : Ats M H [] []
  | cons {x : V} {xs : List V} {d : PyData} {ds : List PyData} (h : At M H x d) (r : Ats M H xs ds) : Ats M H (x :: xs) (d :: ds)
end
mutual
theorem At.keep {M : Addr → Prop} {H H' : Hp} (k : Keep M H H') : ∀ {v : V} {d : PyData}, At M H v d → At M H' v d
  | _, _, .non => .non
  | _, _, .bl b => .bl b
  | _, _, .int i => .int i
  | _, _, .str x h => .str x h
  | _, _, .lst n h r => .lst n (k _ _ n h) (Ats.keep k r)
  | _, _, .tup n h r => .tup n (k _ _ n h) (Ats.keep k r)
theorem Ats.keep {M : Addr → Prop} {H H' : Hp} (k : Keep M H H') : ∀ {vs : List V} {ds : List PyData}, Ats M H vs ds → Ats M H' vs ds
  | _, _, .nil => .nil
  | _, _, .cons h r => .cons (At.keep k h) (Ats.keep k r)
end
mutual
theorem At.weak {M M' : Addr → Prop} {H : Hp} (k : ∀ a, M' a → M a) : ∀ {v : V} {d : PyData}, At M H v d → At M' H v d
  | _, _, .non => .non
  | _, _, .bl b => .bl b
  | _, _, .int i => .int i
  | _, _, .str x h => .str x h
  | _, _, .lst n h r => .lst (fun z => n (k _ z)) h (Ats.weak k r)
  | _, _, .tup n h r => .tup (fun z => n (k _ z)) h (Ats.weak k r)
theorem Ats.weak {M M' : Addr → Prop} {H : Hp} (k : ∀ a, M' a → M a) : ∀ {vs : List V} {ds : List PyData}, Ats M H vs ds → Ats M' H vs ds
  | _, _, .nil => .nil
  | _, _, .cons h r => .cons (At.weak k h) (Ats.weak k r)
end
abbrev M0 : Addr → Prop := fun _ => False
theorem At.zero {M : Addr → Prop} {H : Hp} {v : V} {d : PyData} (h : At M H v d) : At M0 H v d := h.weak fun _ z => z.elim
theorem At.same {M : Addr → Prop} {H H' : Hp} (k : Same H H') {v : V} {d : PyData} (h : At M H v d) : At M H' v d := h.keep (.of k)
theorem Ats.same {M : Addr → Prop} {H H' : Hp} (k : Same H H') {v : List V} {d : List PyData} (h : Ats M H v d) : Ats M H' v d := h.keep (.of k)
theorem Ats.len {M : Addr → Prop} {H : Hp} : ∀ {vs : List V} {ds : List PyData}, Ats M H vs ds → vs.length = ds.length
  | _, _, .nil => rfl
  | _, _, .cons _ r => congrArg (· + 1) (Ats.len r)
theorem Ats.get {M : Addr → Prop} {H : Hp} : ∀ {vs : List V} {ds : List PyData} {i : Nat} {x : V}, Ats M H vs ds → vs[i]? = some x → ∃ d, ds[i]? = some d ∧ At M H x d
  | _, _, i, _, .nil, e => by simp at e
  | _, _, 0, _, .cons h _, e => by
    simp at e
    subst e
    exact ⟨_, rfl, h⟩
  | _, _, i + 1, _, .cons _ r, e => by
    obtain ⟨d, h1, h2⟩ := Ats.get (i := i) r (by simpa using e)
    exact ⟨d, by simpa using h1, h2⟩
theorem Ats.get' {M : Addr → Prop} {H : Hp} : ∀ {vs : List V} {ds : List PyData} {i : Nat} {d : PyData}, Ats M H vs ds → ds[i]? = some d → ∃ x, vs[i]? = some x ∧ At M H x d
  | _, _, i, _, .nil, e => by simp at e
  | _, _, 0, _, .cons h _, e => by
    simp at e
    subst e
    exact ⟨_, rfl, h⟩
  | _, _, i + 1, _, .cons _ r, e => by
    obtain ⟨d, h1, h2⟩ := Ats.get' (i := i) r (by simpa using e)
    exact ⟨d, by simpa using h1, h2⟩
theorem Ats.append {M : Addr → Prop} {H : Hp} : ∀ {vs ws : List V} {ds es : List PyData}, Ats M H vs ds → Ats M H ws es → Ats M H (vs ++ ws) (ds ++ es)
  | _, _, _, _, .nil, s => s
  | _, _, _, _, .cons h r, s => .cons h (Ats.append r s)
theorem Ats.one {M : Addr → Prop} {H : Hp} {v : V} {d : PyData} (h : At M H v d) : Ats M H [v] [d] := .cons h .nil
/-- the type of a datum, as isinstance sees it -/
def tyD : PyData → String
  | .none => "NoneType"
  | .bool _ => "bool"
  | .int _ => "int"
  | .str _ => "str"
  | .list _ => "list"
  | .tuple _ => "tuple"
  | .dict _ => "dict"
theorem At.ty {M : Addr → Prop} {K : PySem.W.Frag} {H : Hp} {v : V} {d : PyData} (h : At M H v d) : TyX K H v (.type (tyD d)) := by
  cases h with
  | non => exact .base .non
  | bl b => exact .base (.bl b)
  | int i => exact .base (.int i)
  | str x h => exact .base (.str x)
  | lst n h r => exact .base (.lst h)
  | tup n h r => exact .base (.tup h)
/-! ### what isinstance says of a datum -/
def isLst : PyData → Bool
  | .list _ => true
  | _ => false
def isTup : PyData → Bool
  | .tuple _ => true
  | _ => false
def isStr : PyData → Bool
  | .str _ => true
  | _ => false
def isBool : PyData → Bool
  | .bool _ => true
  | _ => false
def isInt : PyData → Bool
  | .bool _ => true
  | .int _ => true
  | _ => false
def isSeq : PyData → Bool
  | .list _ => true
  | .tuple _ => true
  | _ => false
theorem kit_lst (d : PyData) : kitB (tyD d) "list" = some (isLst d) := by cases d <;> (simp only [tyD, isLst]; decide +kernel)
theorem kit_tup (d : PyData) : kitB (tyD d) "tuple" = some (isTup d) := by cases d <;> (simp only [tyD, isTup]; decide +kernel)
theorem kit_str (d : PyData) : kitB (tyD d) "str" = some (isStr d) := by cases d <;> (simp only [tyD, isStr]; decide +kernel)
theorem kit_bool (d : PyData) : kitB (tyD d) "bool" = some (isBool d) := by cases d <;> (simp only [tyD, isBool]; decide +kernel)
theorem kit_int (d : PyData) : kitB (tyD d) "int" = some (isInt d) := by cases d <;> (simp only [tyD, isInt]; decide +kernel)
theorem seq_or (d : PyData) : (isLst d || isTup d) = isSeq d := by cases d <;> rfl
end LK
set_option Elab.async false
set_option linter.all false
set_option maxRecDepth 100000
set_option maxHeartbeats 4000000
/-! The law's pool of numbers, as functions. -/
namespace LK
open PySem PySem.Spec PyProof.Rows L2
/-- a pool: what is left of a great number, the last number, the count -/
structure Pool where
  big : Int
  last : Int
  cnt : Int
def cellAt_ (ns : List Int) (at_ : Nat) : Int := if at_ < ns.length then ns.getD at_ 0 else 0
def sizeOf_ (c : Int) : Int := if 0 ≤ c then c * 2 else 1 - c * 2
def poolOf (ns : List Int) (at_ : Nat) : Pool :=
  ⟨if 10 ^ 18 ≤ sizeOf_ (cellAt_ ns at_) then sizeOf_ (cellAt_ ns at_) else 0,
   (sizeOf_ (cellAt_ ns at_) * 48271 + (at_ : Int) * 69621 + (ns.length : Int) * 7919 + 104729) % 2147483647, 0⟩
def Pool.next (p : Pool) : Int := (p.last * 16807 + (p.cnt + 1) * 7919 + 12345) % 2147483647
def Pool.draw (p : Pool) (m : Int) : Int := if 0 < p.big then p.big % m else (p.next / 5 + p.next * 31 / 65537) % m
def Pool.step (p : Pool) (m : Int) : Pool := if 0 < p.big then ⟨p.big / m, p.last, p.cnt⟩ else ⟨p.big, p.next, p.cnt + 1⟩
theorem Pool.draw_lo (p : Pool) {m : Int} (h : 0 < m) : 0 ≤ p.draw m := by
  unfold Pool.draw
  split
  · exact Int.emod_nonneg _ (by omega)
  · exact Int.emod_nonneg _ (by omega)
theorem Pool.draw_hi (p : Pool) {m : Int} (h : 0 < m) : p.draw m < m := by
  unfold Pool.draw
  split
  · exact Int.emod_lt_of_pos _ h
  · exact Int.emod_lt_of_pos _ h
abbrev Pool.its (p : Pool) : List V := [.int p.big, .int p.last, .int p.cnt]
/-- the pool stands at p -/
def PlAt (H : Hp) (p : Addr) (P : Pool) : Prop := H p = some (.lst P.its)
abbrev plO (P : Pool) : HO := .lst P.its
def spPool (K : PySem.W.Frag) : Sp := fun vs H Q _ => ∃ (a : Addr) (ns : List Int) (i : Nat), vs = [.ref a, .int (i : Int)] ∧ SqL K H a (ns.map V.int) ∧ ns.length ≤ 63 ∧ i ≤ 63 ∧
  ∀ p H', H p = none → Same H H' → PlAt H' p (poolOf ns i) → Q (.ref p) H'
def spDraw : Sp := fun vs H Q _ => ∃ (p : Addr) (P : Pool) (m : Int), vs = [.ref p, .int m] ∧ PlAt H p P ∧ 0 < m ∧ m < 1073741824 ∧ ∀ H', Keep (fun a => a = p) H H' → PlAt H' p (P.step m) → Q (.int (P.draw m)) H'
end LK
set_option Elab.async false
set_option linter.all false
set_option maxRecDepth 100000
set_option maxHeartbeats 4000000
/-! What the operators of KA evaluate to, in Evl's words. -/
namespace LK
open PySem PySem.Spec PyProof.Rows L2 Evl
section
variable {K : PySem.W.Frag} {σ : L2.St} {H : Hp} {ta tb te : TE} {x y z v : V} {M : Addr → Prop}
theorem rv_now {r : R2} (h : ∀ H1, Ex H H1 → ∀ Q : VK, Q z H1 → r x y H1 Q) : RV r x y H z := fun H1 e Q q => h H1 e Q (q H1 (Ex.refl H1))
theorem rv_l {r r' : R2} (h : RV r x y H z) : RV (fun x y H Q => r x y H Q ∨ r' x y H Q) x y H z := fun H1 e Q q => .inl (h H1 e Q q)
theorem rv_r {r r' : R2} (h : RV r' x y H z) : RV (fun x y H Q => r x y H Q ∨ r' x y H Q) x y H z := fun H1 e Q q => .inr (h H1 e Q q)
theorem rv_addI {i j : Int} : RV (rAddA K) (.int i) (.int j) H (.int (i + j)) := rv_l rv_I0
theorem rv_addS {i j : Str} (h : i.length + j.length ≤ 100000) : RV (rAddA K) (.str i) (.str j) H (.str (i ++ j)) := rv_r (rv_l (rv_now fun _ _ _ q => ⟨i, j, rfl, rfl, sz_of h, q⟩))
theorem rv_eqS (h : scal x y = true) : RV (rEqA K) x y H (.bl (decide (x = y))) := rv_l (rv_eq h)
theorem rv_neS (h : scal x y = true) : RV (rNeA K) x y H (.bl (!decide (x = y))) := rv_l (rv_ne h)
theorem rv_ltI {i j : Int} : RV rLtA (.int i) (.int j) H (.bl (decide (i < j))) := rv_l rv_I0
theorem rv_leI {i j : Int} : RV rLeA (.int i) (.int j) H (.bl (decide (i ≤ j))) := rv_l rv_I0
theorem rv_gtI {i j : Int} : RV rGtA (.int i) (.int j) H (.bl (decide (j < i))) := rv_l rv_I0
theorem rv_geI {i j : Int} : RV rGeA (.int i) (.int j) H (.bl (decide (j ≤ i))) := rv_l rv_I0
theorem rv_tt {g : List Nat → List Nat → Bool} {i j : Str} : RV (rTT g) (.str i) (.str j) H (.bl (g i.cps.toList j.cps.toList)) := rv_now fun _ _ _ q => ⟨i, j, rfl, rfl, q⟩
theorem rv_ltS {i j : Str} : RV rLtA (.str i) (.str j) H (.bl (decide (i.cps.toList < j.cps.toList))) := rv_r rv_tt
theorem rv_leS {i j : Str} : RV rLeA (.str i) (.str j) H (.bl (!decide (j.cps.toList < i.cps.toList))) := rv_r rv_tt
theorem rv_inC {c : Nat} {t : Str} : RV (rInA K) (.str ⟨#[c]⟩) (.str t) H (.bl (decide (c ∈ t.cps.toList))) := rv_l (rv_now fun _ _ _ q => ⟨c, t, rfl, rfl, q⟩)
theorem rv_niC {c : Nat} {t : Str} : RV (rNiA K) (.str ⟨#[c]⟩) (.str t) H (.bl (!decide (c ∈ t.cps.toList))) := rv_l (rv_now fun _ _ _ q => ⟨c, t, rfl, rfl, q⟩)
theorem rv_inA {p : Addr} {xs : List V} (h : SqT K H p xs) (hx : flatV x = true) (ha : xs.all flatV = true) : RV (rInA K) x (.ref p) H (.bl (inV x xs)) := rv_r (rv_isT h hx ha)
theorem rv_xL {p : Addr} {xs : List V} {i : Int} (h : SqL K H p xs) (ha : atI xs i = some v) : RV (rIx K) (.ref p) (.int i) H v := rv_l (rv_ixL h ha)
theorem rv_xT {p : Addr} {xs : List V} {i : Int} (h : SqT K H p xs) (ha : atI xs i = some v) : RV (rIx K) (.ref p) (.int i) H v := rv_r (rv_l (rv_ixT h ha))
theorem rv_xS {w : Str} {i : Int} {c : Nat} (h : w.length ≤ 100000) (ha : atI w.cps.toList i = some c) : RV (rIx K) (.str w) (.int i) H (.str ⟨#[c]⟩) := rv_r (rv_r (rv_ixS h ha))
theorem rv_isBl {a b : Bool} : RV (fun x y H Q => ∃ a b, x = V.bl a ∧ y = V.bl b ∧ Q (.bl (decide (a = b))) H) (.bl a) (.bl b) H (.bl (decide (a = b))) := rv_now fun _ _ _ q => ⟨a, b, rfl, rfl, q⟩
theorem rv_isntBl {a b : Bool} : RV (fun x y H Q => ∃ a b, x = V.bl a ∧ y = V.bl b ∧ Q (.bl (!decide (a = b))) H) (.bl a) (.bl b) H (.bl (!decide (a = b))) := rv_now fun _ _ _ q => ⟨a, b, rfl, rfl, q⟩
theorem rv_isN : RV (fun x y H Q => y = V.non ∧ Q (.bl (decide (x = .non))) H) x .non H (.bl (decide (x = .non))) := rv_now fun _ _ _ q => ⟨rfl, q⟩
theorem rv_isntN : RV (fun x y H Q => y = V.non ∧ Q (.bl (!decide (x = .non))) H) x .non H (.bl (!decide (x = .non))) := rv_now fun _ _ _ q => ⟨rfl, q⟩

/-- a value's truth where it is not read off the heap -/
def truV : V → Bool
  | .bl b => b
  | .int i => i != 0
  | .str y => (y.length : Int) != 0
  | _ => false
theorem et_tru {k : Bool} (h : Ev ta σ H x) (ht : ∀ H1, Ex H H1 → TruV K x H1 k) : EvT (tTr K ta) σ H k := fun H1 e Q q =>
  h H1 e _ fun H2 e2 => ⟨k, ht H2 (e.trans e2), q H2 e2⟩
theorem tr_bl {b : Bool} : ∀ H1, Ex H H1 → TruV K (.bl b) H1 b := fun _ _ => rfl
theorem tr_L {p : Addr} {xs : List V} (h : SqL K H p xs) : ∀ H1, Ex H H1 → TruV K (.ref p) H1 (!xs.isEmpty) := fun _ e => .inl ⟨xs, ex_l e h, rfl⟩
theorem tr_T {p : Addr} {xs : List V} (h : SqT K H p xs) : ∀ H1, Ex H H1 → TruV K (.ref p) H1 (!xs.isEmpty) := fun _ e => .inr (.inl ⟨xs, ex_t e h, rfl⟩)

/-! ### data-valued, and what may raise: none where it raises as is wished -/
def EvO (M : Addr → Prop) (te : TE) (σ : L2.St) (H : Hp) (o : Option PyData) : Prop := ∀ H1, Ex H H1 → ∀ Q : VK, (∀ d v H2, o = some d → Ex H1 H2 → At M H2 v d → Q v H2) → te σ H1 Q
def EvOs (M : Addr → Prop) (ta : TA) (σ : L2.St) (H : Hp) (o : Option (List PyData)) : Prop := ∀ H1, Ex H H1 → ∀ Q : List V → Hp → Prop, (∀ ds vs H2, o = some ds → Ex H1 H2 → Ats M H2 vs ds → Q vs H2) → ta σ H1 Q
theorem At.ex {H1 : Hp} {d : PyData} (e : Ex H H1) (h : At M H v d) : At M H1 v d := h.same e
theorem Ats.ex {H1 : Hp} {vs : List V} {ds : List PyData} (e : Ex H H1) (h : Ats M H vs ds) : Ats M H1 vs ds := h.same e
theorem EvO.mono {H' : Hp} {o : Option PyData} (e : Ex H H') (h : EvO M ta σ H o) : EvO M ta σ H' o := fun H1 a Q q => h H1 (e.trans a) Q q
theorem eo_of {d : PyData} (h : Ev ta σ H v) (hd : At M H v d) : EvO M ta σ H (some d) := fun H1 e Q q => h H1 e Q fun H2 e2 => q d v H2 rfl e2 (hd.ex (e.trans e2))
theorem es_nil : EvOs M tNil σ H (some []) := fun H1 _ Q q => q [] [] H1 rfl (Ex.refl H1) .nil
theorem es_cons {tr : TA} {o : Option PyData} {os : Option (List PyData)} (h : EvO M ta σ H o) (hr : EvOs M tr σ H os) : EvOs M (tCons ta tr) σ H (o.bind fun d => os.map (d :: ·)) := fun H1 e Q q =>
  h H1 e _ fun d v H2 hd e2 a2 => hr H2 (e.trans e2) _ fun ds vs H3 hds e3 a3 => q (d :: ds) (v :: vs) H3 (by rw [hd, hds] <;> rfl) (e2.trans e3) (.cons (a2.ex e3) a3)
theorem eo_tup {ta : TA} {os : Option (List PyData)} (h : EvOs M ta σ H os) (hM : Trk M H) (hz : ∀ ds, os = some ds → ds.length ≤ 100000) : EvO M (tTup ta) σ H (os.map .tuple) := fun H1 e Q q =>
  h H1 e _ fun ds vs H2 hds e2 a2 => ⟨sz_of (by rw [a2.len]; exact hz ds hds), fun p hp => q (.tuple ds) (.ref p) _ (by rw [hds] <;> rfl) (e2.trans (Ex.new hp)) (.tup (Trk.fresh (hM.same (e.trans e2)) hp) upd_same (a2.ex (Ex.new hp)))⟩
theorem eo_lst {ta : TA} {os : Option (List PyData)} (h : EvOs M ta σ H os) (hM : Trk M H) (hz : ∀ ds, os = some ds → ds.length ≤ 100000) : EvO M (tLst ta) σ H (os.map .list) := fun H1 e Q q =>
  h H1 e _ fun ds vs H2 hds e2 a2 => ⟨sz_of (by rw [a2.len]; exact hz ds hds), fun p hp => q (.list ds) (.ref p) _ (by rw [hds] <;> rfl) (e2.trans (Ex.new hp)) (.lst (Trk.fresh (hM.same (e.trans e2)) hp) upd_same (a2.ex (Ex.new hp)))⟩
variable {D : Ends} {tz : TS}
theorem o_ret {o : Option PyData} (h : EvO M ta σ H o) (k : ∀ d v H1, o = some d → Ex H H1 → At M H1 v d → D.rt v H1) : tRet ta D σ H := h H (Ex.refl H) _ k
theorem o_asg {o : Option PyData} {i : Nat} (h : EvO M ta σ H o) (k : ∀ d v H1, o = some d → Ex H H1 → At M H1 v d → tz D (σ.set i (some v)) H1) : tSeq (tAsg ta (gName i)) tz D σ H := h H (Ex.refl H) _ k

/-! ### calls of built-ins -/
theorem rc_now {r : List V → Hp → VK → Prop} {vs : List V} (h : ∀ H1, Ex H H1 → ∀ Q : VK, Q z H1 → r vs H1 Q) : RC r vs H z := fun H1 e Q q => h H1 e Q (q H1 (Ex.refl H1))
theorem rc_int {i : Int} : RC rInt [.int i] H (.int i) := rc_now fun _ _ _ q => .inl ⟨i, rfl, q⟩
theorem rc_ord {c : Nat} : RC rOrd [.str ⟨#[c]⟩] H (.int (c : Nat)) := rc_now fun _ _ _ q => ⟨⟨#[c]⟩, rfl, rfl, q⟩
theorem rc_lenS {t : Str} (h : t.length ≤ 100000) : RC (rLen K) [.str t] H (.int (t.length : Nat)) := rc_now fun _ _ _ q => ⟨_, _, rfl, ⟨sz_of h, rfl⟩, q⟩
theorem rc_lenL {p : Addr} {xs : List V} (h : SqL K H p xs) : RC (rLen K) [.ref p] H (.int (xs.length : Nat)) := rc_now fun _ e _ q => ⟨_, _, rfl, .inl ⟨xs, ex_l e h, rfl⟩, q⟩
theorem rc_lenT {p : Addr} {xs : List V} (h : SqT K H p xs) : RC (rLen K) [.ref p] H (.int (xs.length : Nat)) := rc_now fun _ e _ q => ⟨_, _, rfl, .inr ⟨xs, ex_t e h, rfl⟩, q⟩
theorem rc_isi {d : PyData} {t : String} {b : Bool} (h : At M H v d) (ht : kitB (tyD d) t = some b) : RC (rIsi K) [v, .ty t] H (.bl b) :=
  rc_now fun _ e _ q => ⟨v, .ty t, _, _, _, rfl, .ty t, (h.ex e).ty, kit_ty ht, q⟩
theorem rc_isiS {d : PyData} (h : At M H v d) : RC (rIsi K) [v, .ty "str"] H (.bl (isStr d)) := rc_isi h (kit_str d)
theorem rc_isiI {d : PyData} (h : At M H v d) : RC (rIsi K) [v, .ty "int"] H (.bl (isInt d)) := rc_isi h (kit_int d)
theorem rc_isiB {d : PyData} (h : At M H v d) : RC (rIsi K) [v, .ty "bool"] H (.bl (isBool d)) := rc_isi h (kit_bool d)
theorem rc_isiL {d : PyData} (h : At M H v d) : RC (rIsi K) [v, .ty "list"] H (.bl (isLst d)) := rc_isi h (kit_lst d)
theorem rc_isiT {d : PyData} (h : At M H v d) : RC (rIsi K) [v, .ty "tuple"] H (.bl (isTup d)) := rc_isi h (kit_tup d)
theorem kit_LT {d : PyData} : PySem.W.kitAny K (.type (tyD d)) [.type "list", .type "tuple"] = some (isSeq d) := by
  rw [← seq_or]
  exact kitAny_cons (kit_ty (kit_lst d)) (fun e => by
    rw [e, Bool.false_or]
    exact kitAny_cons (kit_ty (kit_tup d)) (fun e2 => by
      rw [e2]
      exact kitAny_nil) fun e2 => e2) fun e => by
    rw [e]
    rfl
/-- isinstance(x, (list, tuple)) -/
theorem ev_isiLT {d : PyData} (ha : Ev ta σ H v) (h : At M H v d) : Ev (tCB (rIsiT K) (tCons ta (tCons (tTup (tCons (tC (.ty "list")) (tCons (tC (.ty "tuple")) tNil))) tNil))) σ H (.bl (isSeq d)) := fun H1 e Q q =>
  ha H1 e _ fun H2 e2 => ⟨by show 2 ≤ sizeLine; decide, fun p hp => ⟨v, p, [.ty "list", .ty "tuple"], _, [.type "list", .type "tuple"], _, rfl, upd_same, .cons (.ty _) (.cons (.ty _) .nil), (h.ex ((e.trans e2).trans (Ex.new hp))).ty, kit_LT, q _ (e2.trans (Ex.new hp))⟩⟩
/-- and, or that end early -/
theorem ev_and0 (h1 : Ev ta σ H (.bl false)) : Ev (tAndV ta tb) σ H (.bl false) := ev_andV (b := false) h1 fun e => by cases e
theorem ev_or1 (h1 : Ev ta σ H (.bl true)) : Ev (tOrV ta tb) σ H (.bl true) := ev_orV (b := true) h1 fun e => by cases e
theorem ev_and1 {b : Bool} (h1 : Ev ta σ H (.bl true)) (h2 : Ev tb σ H (.bl b)) : Ev (tAndV ta tb) σ H (.bl b) := ev_andV (b := b) h1 fun _ => h2
theorem ev_or0 {b : Bool} (h1 : Ev ta σ H (.bl false)) (h2 : Ev tb σ H (.bl b)) : Ev (tOrV ta tb) σ H (.bl b) := ev_orV (b := b) h1 fun _ => h2
variable {t u : TT}
theorem et_and0 (h1 : EvT t σ H false) : EvT (tAnd t u) σ H false := et_and (b := false) h1 fun e => by cases e
theorem et_and1 {b : Bool} (h1 : EvT t σ H true) (h2 : EvT u σ H b) : EvT (tAnd t u) σ H b := et_and h1 fun _ => h2
theorem et_or1 (h1 : EvT t σ H true) : EvT (tOr t u) σ H true := et_or (b := true) h1 fun e => by cases e
theorem et_or0 {b : Bool} (h1 : EvT t σ H false) (h2 : EvT u σ H b) : EvT (tOr t u) σ H b := et_or h1 fun _ => h2
theorem et_no (h : EvT t σ H true) : EvT (tNot t) σ H false := et_not h
theorem et_ya (h : EvT t σ H false) : EvT (tNot t) σ H true := et_not h
end
end LK
set_option Elab.async false
set_option linter.all false
set_option maxRecDepth 100000
/-! What the kinds' own functions say of data, in plain Lean. -/
namespace LK
open PySem
def lettersL : List Nat := (Str.ofString "abcdefghijklmnopqrstuvwxyz").cps.toList
def signsL : List Nat := (Str.ofString "abcdefghijklmnopqrstuvwxyz0123456789").cps.toList
/-- is_name of a text -/
def nameL (s : List Nat) : Bool := decide (1 ≤ s.length ∧ s.length ≤ 8) && (decide (s.headD 0 ∈ lettersL) && s.all fun c => decide (c ∈ signsL))
def nameD : PyData → Bool
  | .str s => nameL s.cps.toList
  | _ => false
def lenD : PyData → Nat
  | .list ds => ds.length
  | .tuple ds => ds.length
  | .str s => s.length
  | _ => 0
def rowD (d : PyData) (n : Int) : Bool := isSeq d && decide ((lenD d : Int) = n)
def wholeD (d : PyData) : Bool := isInt d && !isBool d
def largest : Int := 10 ^ 30
def signOk (c : Nat) : Bool := !decide ([c] < [32]) && !decide ([126] < [c]) && (!decide (c ∈ ([34, 92] : List Nat)) && !decide ((c : Int) = 37))
def intOkD : PyData → Bool
  | .int i => decide (-largest < i) && decide (i < largest)
  | _ => false
def textOk (s : Str) : Bool := decide (s.length ≤ 12) && s.cps.toList.all signOk
def textOkD : PyData → Bool
  | .str s => textOk s
  | _ => false
/-- fits_base of a datum -/
def fitsD (d : PyData) (kind : Str) : Bool := if kind = "truth" then isBool d else if kind = "int" then intOkD d else textOkD d
/-! ### kinds -/
def itemsD : PyData → List PyData
  | .list ds => ds
  | .tuple ds => ds
  | _ => []
def isBaseS (s : Str) : Bool := decide (s = "int") || (decide (s = "text") || decide (s = "truth"))
def lastOk (acc : List PyData) (s : Str) : Bool :=
  match acc.getLast? with
  | none => true
  | some (.tuple (.str p :: _)) => decide (p.cps.toList < s.cps.toList)
  | some _ => false
/-- one couple of a record, behind those of acc; f: the kinds within -/
def cplPair (f : PyData → Option PyData) (acc : List PyData) : List PyData → Option (List PyData)
  | [.str s, k] => if nameL s.cps.toList && lastOk acc s then (f k).map fun k' => acc ++ [.tuple [.str s, k']] else none
  | _ => none
def cplStep (f : PyData → Option PyData) (acc : List PyData) (c : PyData) : Option (List PyData) := if isSeq c then cplPair f acc (itemsD c) else none
def cplAll (f : PyData → Option PyData) (acc : List PyData) : List PyData → Option (List PyData)
  | [] => some acc
  | c :: cs => (cplStep f acc c).bind fun acc' => cplAll f acc' cs
def cplD (f : PyData → Option PyData) (x : PyData) : Option (List PyData) := if isSeq x && decide ((itemsD x).length ≤ 5) then cplAll f [] (itemsD x) else none
def geD : PyData → Bool
  | .int i => decide (0 ≤ i)
  | _ => false
def anyD (d : PyData) : Option PyData := if wholeD d && geD d then some (.tuple [.str "any", d]) else none
def chk2 (f : PyData → Option PyData) (w : Str) (x : PyData) : Option PyData :=
  if w = "list" then (f x).map fun y => .tuple [.str "list", y] else if w = "record" then (cplD f x).map fun ys => .tuple [.str "record", .tuple ys] else if w = "any" then anyD x else none
def chk3 (f : PyData → Option PyData) (w : Str) (x y : PyData) : Option PyData := if w = "function" then (f x).bind fun a => (f y).map fun b => .tuple [.str "function", a, b] else none
def chkSeq (f : PyData → Option PyData) : List PyData → Option PyData
  | [.str w, x] => chk2 f w x
  | [.str w, x, y] => chk3 f w x y
  | _ => none
def chkStep (f : PyData → Option PyData) : PyData → Option PyData
  | .str s => if isBaseS s then some (.str s) else none
  | .list ds => chkSeq f ds
  | .tuple ds => chkSeq f ds
  | _ => none
/-- checked_kind where n levels are left -/
def chk : Nat → PyData → Option PyData
  | 0 => fun _ => none
  | n + 1 => chkStep (chk n)
end LK
set_option Elab.async false
set_option linter.all false
set_option maxRecDepth 100000
set_option maxHeartbeats 4000000
/-! An own exception whose __init__ takes nothing but self; isinstance of it where it was caught. -/
namespace LK
open PySem PySem.Spec PyProof.Rows L2
/-- C(), C's own __init__ keeping sp -/
def tMk0 (C : Addr) (sp : Sp) : L2.St → Hp → XK → Prop := fun _ H Q => ∀ a, H a = none → sp [.ref a] (upd H a (exo a C none))
  (fun v H2 => v = .non ∧ ∃ (d : Addr) (fs : List (Str × V)), H2 a = some (exo a C (some d)) ∧ H2 d = some (exd d fs) ∧ H d = none ∧ Q (.ref C) (some d) (upd (del H2 a) d (.xd fs))) (fun _ _ _ => False)
theorem pmk0 {X : Cx} {cx : CXT} {x : Str} {C fi : Addr} {k : Nat} {fd : FuncData} {ps : List Str} {sp : Sp} {p pos : Pos}
    (T : OexC X.K C) (ic : PySem.W.findIn X.K (.ref C) "__init__" = some (some (.ref fi))) (ti : PySem.W.typeIn X.K (.ref fi) = some (.type "function"))
    (F1 : FnOk X.prog X.w X.K X.mg X.base cx k fi fd ps sp) (room : Room (k + 1) X.A) (bd : Binds X.K fd ps []) (pass : Passes cx X (fun _ _ _ => False))
    (gl : Gl X x) (mgx : X.mg x = some (.ref C)) (dbg : (x == ("__debug__" : Str)) = false := by decide) : PMk X (.Call (.Name x p) [] [] pos) (tMk0 C sp) := by
  intro pn s st H Q I want
  obtain ⟨c1, c2, c3, c4, bm, c6, c7, c8, c9, c10, d0, d1, d2, d3, d5, hC, hbm⟩ := T.cls
  refine wpAny_Call_Name_kw (ld_glob I gl mgx ?_ dbg)
  refine PySem.W.callWith_K0 I.kIn T.kC ?_
  obtain ⟨hp, g, dr, tk, os⟩ := s
  have old : ∀ b o, hp.get? b = some o → ((hp.push (PySem.W.kdv_tup [])).push (PySem.HandSPX.excO C hp.objs.size)).get? b = some o := fun b o e =>
    Heap.get?_push_of_some _ (Heap.get?_push_of_some _ e)
  have new : ((hp.push (PySem.W.kdv_tup [])).push (PySem.HandSPX.excO C hp.objs.size)).get? (hp.objs.size + 1) = some (PySem.HandSPX.excO C hp.objs.size) := by
    heap_get
  have le : hp.objs.size ≤ hp.objs.size + 1 := Nat.le_succ _
  have fr : H (hp.objs.size + 1) = none := I.hok.fresh le
  have hq := want (hp.objs.size + 1) fr
  have J : Inv X pn st (upd H (hp.objs.size + 1) (exo (hp.objs.size + 1) C none))
      ⟨(hp.push (PySem.W.kdv_tup [])).push (PySem.HandSPX.excO C hp.objs.size), g, dr, tk, os⟩ :=
    I.laid (t' := tk) (a := hp.objs.size + 1) (o := exo (hp.objs.size + 1) C none) (h' := (hp.push (PySem.W.kdv_tup [])).push (PySem.HandSPX.excO C hp.objs.size)) old le (exo_ok new)
  have rv : Vals [V.ref (hp.objs.size + 1)] [Value.ref (hp.objs.size + 1)] := .cons rfl .nil
  have hl : ([Value.ref (hp.objs.size + 1)] ++ ([] : List Value)).length = ps.length := (F1.len _ _ _ _ hq).symm ▸ rfl
  refine wpAny_call (PySem.HandSPX.call_own F.excBase_ValueError (fun Y => PySem.HandSPX.refsVE_contains Y bm hbm) (I.kIn _ _ hC)
    (PySem.W.looks_findIn I.kIn ic) (fun self => PySem.W.bind_fn I.kIn self ti) (Nat.zero_le _) ?_)
  have bb := bd _ [Value.ref (hp.objs.size + 1)] J.kIn hl
  rw [List.append_nil] at bb
  refine codeAny_mono (F1.run _ X.stack _ _ ⟨[Value.ref (hp.objs.size + 1)], []⟩ [Value.ref (hp.objs.size + 1)] _ _ (fun _ _ _ => False)
    (room.make C [] []) (J.env0.make C [] []) bb rv hq) fun r s' z => ?_
  cases r with
  | error er => exact pass pn st _ _ er s' J z
  | ok fl =>
    cases fl with
    | ret u =>
      obtain ⟨v, H2, os2, bare, un, hok, r2, ev, d, fs, ea, ed, hd, q⟩ := z
      subst ev
      obtain ⟨h2, g2, dr2, tk2, os'⟩ := s'
      exact ⟨r2, mk_end (raises_own T.exC T.tyC) I le old un hok os2 bare ea ed hd q⟩
    | next => exact False.elim z
    | brk => exact False.elim z
    | cont => exact False.elim z
/-- raise C() -/
theorem psRaise0 {X : Cx} {cx : CXT} {W : WX} {x : Str} {C fi : Addr} {k : Nat} {fd : FuncData} {ps : List Str} {sp : Sp} {p pos pos2 : Pos} (calm : X.calm = true) (tk : Takes X W)
    (T : OexC X.K C) (ic : PySem.W.findIn X.K (.ref C) "__init__" = some (some (.ref fi))) (ti : PySem.W.typeIn X.K (.ref fi) = some (.type "function"))
    (F1 : FnOk X.prog X.w X.K X.mg X.base cx k fi fd ps sp) (room : Room (k + 1) X.A) (bd : Binds X.K fd ps []) (pass : Passes cx X (fun _ _ _ => False))
    (gl : Gl X x) (mgx : X.mg x = some (.ref C)) (dbg : (x == ("__debug__" : Str)) = false := by decide) :
    PS X (.Raise (some (.Call (.Name x p) [] [] pos)) none pos2) (fun _ σ H => tMk0 C sp σ H fun cls d H' => W cls d σ H') :=
  ps_raise calm tk (pmk0 T ic ti F1 room bd pass gl mgx dbg)
/-- what isinstance asks of the class of a caught exception -/
structure ExIs (K : PySem.W.Frag) (D : Addr) : Prop where
  cl : (PySem.W.clsIn K D).isSome = true
  ga : PySem.W.findIn K (.ref D) "__getattribute__" = some (some (.builtin "BaseException.__getattribute__"))
  gg : PySem.W.findIn K (.ref D) "__getattr__" = some none
  sb : PySem.W.subIn K (.ref D) (.type "BaseException") = some true
  ca : PySem.W.findIn K (.ref D) "__class__" = some (some (.builtin "object.__class__"))
  sp : PySem.W.specialIn K (.builtin "object.__class__") "__get__" = some (some (.builtin "getset_descriptor.__get__"))
  tk : PySem.W.takesIn K (.builtin "object.__class__") = some true
  ob : PySem.W.mroIn K D (.type "object") = some true
/-- isinstance(e, c), e the exception in hand (class cls, dict at d) -/
def rIsX (K : PySem.W.Frag) (D a : Addr) (cls : Value) (d : Option Addr) : List V → Hp → VK → Prop := fun xs H Q => cls = .ref D ∧ ∃ (dd : Addr) (c : V) (cv : Value) (b : Bool) (fs : List (Str × V)),
  d = some dd ∧ xs = [.ref a, c] ∧ ClsV c cv ∧ H dd = some (.xd fs) ∧ PySem.W.kitOne K (.ref D) cv = some b ∧ Q (.bl b) H
theorem isiExc {X : Cx} {K : PySem.W.Frag} {a D : Addr} {cls : Value} {d : Option Addr} {oe : Obj} {pn : List (Addr × Obj)} (C : ExIs K D) (hz : Zc cls d oe) (hf : ∃ vs, oe.data = .fields vs) (hK : X.K = K := by rfl) :
    CallR (X.suite a ((a, oe) :: pn)) (.builtin "isinstance") (rIsX K D a cls d) := by
  subst hK
  intro pins s σ H xs us Q I r h
  obtain ⟨rfl, dd, c, cv, b, fs, rfl, rfl, hc, hd, e, q⟩ := h
  obtain ⟨u1, u2, rfl, r1, r2⟩ := vals2 r
  cases (show u1 = Value.ref a from r1)
  have ec := hc.eq r2
  subst ec
  obtain ⟨here, _⟩ := I.pin (a, oe) (List.mem_append.mpr (.inl List.mem_cons_self))
  obtain ⟨vs, hv⟩ := hf
  obtain ⟨mA, hns, _⟩ := (show ObjOk X.prog X.w H s.heap dd (.xd fs) from I.hok dd _ hd)
  obtain ⟨od, ho, _⟩ := lookIn_ns hns
  have J : PySem.W.InstAt s.heap a oe D (some od) := ⟨here, hz.1, by unfold PySem.W.notCls; rw [hv] <;> rfl, by rw [hz.2]; exact ho⟩
  exact PySem.W.kia_one (PySem.W.kitx_exc (od := some od) C.cl C.ga C.gg C.sb C.ca C.sp C.tk C.ob) I.kIn J e (fun z => nomatch z) fun tk => ⟨.bl b, H, I.tok tk, rfl, q⟩
end LK
set_option Elab.async false
set_option linter.all false
set_option maxRecDepth 100000
set_option maxHeartbeats 4000000
/-! Comprehensions that change nothing, told by their lists; all, any, join. -/
namespace LK
open PySem PySem.Spec PyProof.Rows L2 Evl
section
variable {K : PySem.W.Frag} {σ : L2.St} {H : Hp} {tl te : TE} {ta : TA} {M : Addr → Prop} {j : Nat} {vs : List Nat}
theorem at_nat {α : Type} {l : List α} {j : Nat} {x : α} (h : l[j]? = some x) : atI l (j : Int) = some x := by
  have hj : j < l.length := (List.getElem?_eq_some_iff.mp h).1
  unfold atI
  rw [ixN_nat hj]
  exact h
theorem at_head {l : List Nat} (h : 0 < l.length) : atI l 0 = some (l.headD 0) := by
  cases l with
  | nil => exact absurd h (Nat.lt_irrefl 0)
  | cons c r => exact at_nat (j := 0) rfl
theorem At.strOf {H : Hp} {v : V} {d : PyData} (h : At M H v d) (hs : isStr d = true) : ∃ x : Str, x.length ≤ 100000 ∧ v = .str x ∧ d = .str x := by
  cases h with
  | str x hx => exact ⟨x, hx, rfl, rfl⟩
  | _ => cases hs
/-- a list or a tuple, whichever -/
def SqA (K : PySem.W.Frag) (H : Hp) (a : Addr) (xs : List V) : Prop := SqL K H a xs ∨ SqT K H a xs
theorem SqA.ex {H1 : Hp} {a : Addr} {xs : List V} (e : Ex H H1) (h : SqA K H a xs) : SqA K H1 a xs := h.imp (ex_l e) (ex_t e)
theorem rv_xA {p : Addr} {xs : List V} {i : Int} {v : V} (h : SqA K H p xs) (ha : atI xs i = some v) : RV (rIx K) (.ref p) (.int i) H v := h.elim (fun h => rv_xL h ha) fun h => rv_xT h ha
theorem rc_lenA {p : Addr} {xs : List V} (h : SqA K H p xs) : RC (rLen K) [.ref p] H (.int (xs.length : Nat)) := h.elim rc_lenL rc_lenT
theorem tr_A {p : Addr} {xs : List V} (h : SqA K H p xs) : ∀ H1, Ex H H1 → TruV K (.ref p) H1 (!xs.isEmpty) := h.elim tr_L tr_T
theorem At.seqOf {H : Hp} {v : V} {d : PyData} (h : At M H v d) (hs : isSeq d = true) : ∃ (a : Addr) (xs : List V), v = .ref a ∧ SqA K H a xs ∧ Ats M H xs (itemsD d) := by
  cases h with
  | lst n h r => exact ⟨_, _, rfl, .inl (.of h), r⟩
  | tup n h r => exact ⟨_, _, rfl, .inr (.of h), r⟩
  | _ => cases hs
theorem given_all {n : Nat} {v : Nat → V} : Evl.given n (fun _ => true) v = (List.range n).map v := by
  unfold Evl.given
  rw [List.filter_eq_self.mpr (fun _ _ => rfl)]
theorem range_map_get {α : Type} (l : List α) (d : α) (f : α → V) : (List.range l.length).map (fun i => f (l.getD i d)) = l.map f := by
  refine List.ext_getElem (by simp) fun i h1 h2 => ?_
  have hi : i < l.length := by simpa using h1
  simp [List.getD_eq_getElem?_getD, hi]
theorem et_yes : EvT tYes σ H true := fun H1 _ _ q => q H1 (Ex.refl H1)
/-- [e for c in a text] -/
theorem el_lcS {z : Str} (f : Nat → V) (h : Ev tl σ H (.str z)) (hz : z.length ≤ 40000) (hw : ∀ x, wipe ((wipe σ vs).set j (some x)) vs = wipe σ vs)
    (he : ∀ (c : Nat) H1, Ex H H1 → c ∈ z.cps.toList → Ev te ((wipe σ vs).set j (some (.str ⟨#[c]⟩))) H1 (f c)) : EvL (tLc (iStr tl) (gName j) tYes te vs) σ H (z.cps.toList.map f) := fun H0 e Q q => by
  refine h H0 e _ fun H1 e1 => ⟨z, rfl, fun Dl hD => ?_⟩
  refine lc_it walk_str (Cw H1 (fun _ => true) (fun i => f (z.cps.toList.getD i 0)) Dl) ⟨hD, Ex.new hD, upd_same⟩ (fun _ _ _ _ => trivial) (fun i x H2 H3 hi p y => ?_) (fun H' p => ?_)
  · obtain ⟨rfl, c, hc, rfl⟩ := y
    have hc' : z.cps.toList[i]? = some c := by simpa using hc
    have hm : c ∈ z.cps.toList := List.mem_of_getElem? hc'
    have hg : z.cps.toList.getD i 0 = c := by simp [List.getD_eq_getElem?_getD, hc']
    refine ⟨hw _, cw_turn p (by unfold Str.length at hz; omega) et_yes fun _ => ?_⟩
    show Ev te _ H1 (f (z.cps.toList.getD i 0))
    rw [hg]
    exact he c H1 (e.trans e1) hm
  · have p3 := p.2.2
    have hl : z.cps.size = z.cps.toList.length := by simp
    rw [given_all, hl, range_map_get z.cps.toList 0 f] at p3
    exact q Dl H' (fresh_back e1 p.1) (e1.trans p.2.1) p3
/-- [e for x in a list] -/
theorem el_lcM {a : Addr} {xs : List V} (f : V → V) (h : Ev tl σ H (.ref a)) (hx : SqL K H a xs) (hz : xs.length ≤ 40000) (hw : ∀ x, wipe ((wipe σ vs).set j (some x)) vs = wipe σ vs)
    (he : ∀ (x : V) H1, Ex H H1 → x ∈ xs → Ev te ((wipe σ vs).set j (some x)) H1 (f x)) : EvL (tLc (iList K tl) (gName j) tYes te vs) σ H (xs.map f) := by
  have q := el_lcL (K := K) (t := tYes) (te := te) (j := j) (vs := vs) (fun _ => true) (fun i => f (xs.getD i .non)) h hx hz hw (fun _ _ _ _ _ => et_yes) (fun i x H1 e hi _ => by
    have hg : xs.getD i .non = x := by simp [List.getD_eq_getElem?_getD, hi]
    rw [hg]
    exact he x H1 e (List.mem_of_getElem? hi))
  rw [given_all, range_map_get xs .non f] at q
  exact q
theorem ev_all {bs : List Bool} (h : EvL te σ H (bs.map V.bl)) : Ev (tCB (rAll K) (tCons te tNil)) σ H (.bl (bs.all id)) := fun H1 e Q q =>
  h H1 e _ fun p H2 _ e2 hp => ⟨p, bs, rfl, .of hp, q H2 e2⟩
theorem ev_any {bs : List Bool} (h : EvL te σ H (bs.map V.bl)) : Ev (tCB (rAny K) (tCons te tNil)) σ H (.bl (bs.any id)) := fun H1 e Q q =>
  h H1 e _ fun p H2 _ e2 hp => ⟨p, bs, rfl, .of hp, q H2 e2⟩
/-- a op b op' c -/
theorem ev_chain {r r' : R2} {ta tb tc : TE} {x y z : V} {a b : Bool} (ha : Ev ta σ H x) (hb : Ev tb σ H y) (hr : RV r x y H (.bl a)) (hc : Ev tc σ H z) (hr' : RV r' y z H (.bl b)) : Ev (tChain r r' ta tb tc) σ H (.bl (a && b)) := fun H1 e Q q =>
  ha H1 e _ fun H2 e2 => hb H2 (e.trans e2) _ fun H3 e3 => hr H3 ((e.trans e2).trans e3) _ fun H4 e4 => ⟨a, rfl, by
    cases a with
    | true =>
      rw [if_pos rfl]
      exact hc H4 (((e.trans e2).trans e3).trans e4) _ fun H5 e5 => hr' H5 ((((e.trans e2).trans e3).trans e4).trans e5) Q fun H6 e6 => q H6 ((((e2.trans e3).trans e4).trans e5).trans e6)
    | false =>
      rw [if_neg Bool.false_ne_true]
      exact q H4 ((e2.trans e3).trans e4)⟩
theorem ev_allP {α : Type} {l : List α} {p : α → Bool} (h : EvL te σ H (l.map fun c => V.bl (p c))) : Ev (tCB (rAll K) (tCons te tNil)) σ H (.bl (l.all p)) := by
  have q : EvL te σ H ((l.map p).map V.bl) := by
    rw [List.map_map]
    exact h
  have z := ev_all (K := K) q
  rw [List.all_map] at z
  exact z
theorem ev_anyP {α : Type} {l : List α} {p : α → Bool} (h : EvL te σ H (l.map fun c => V.bl (p c))) : Ev (tCB (rAny K) (tCons te tNil)) σ H (.bl (l.any p)) := by
  have q : EvL te σ H ((l.map p).map V.bl) := by
    rw [List.map_map]
    exact h
  have z := ev_any (K := K) q
  rw [List.any_map] at z
  exact z
theorem all_map {α : Type} (l : List α) (p : α → Bool) : (l.map p).all id = l.all p := by simp [List.all_map]
end
end LK
set_option Elab.async false
set_option linter.all false
set_option maxRecDepth 100000
set_option maxHeartbeats 4000000
/-! Loops over a list or a tuple, whichever; appending what may raise. -/
namespace LK
open PySem PySem.Spec PyProof.Rows L2 Evl
def iSeq (K : PySem.W.Frag) (tl : TE) : TI := fun σ H R => tl σ H fun x H1 => ∃ a, x = .ref a ∧ (((∃ xs, SqL K H1 a xs) ∧ R (Itl K a) H1) ∨ ((∃ xs, SqT K H1 a xs) ∧ R (Itt K a) H1))
theorem pi_seq {X : Cx} {K : PySem.W.Frag} {tg l : Expr} {tl : TE} (hl : PE X l tl) (hK : X.K = K := by rfl) : PI X tg l (iSeq K tl) := by
  subst hK
  refine ⟨fun pn st σ H R I want => ?_⟩
  refine thn (hl.run pn st σ H _ I want) fun v s1 ⟨x, H1, I1, r1, a, e, q⟩ => ?_
  subst e
  cases r1
  have fp : ∀ b ∈ [s1.heap.objs.size], FpOk X pn H1 b := fun b hb => by
    obtain rfl : b = s1.heap.objs.size := by simpa using hb
    exact I1.fpOk (Nat.le_refl _) (I1.hok.fresh (Nat.le_refl _))
  rcases q with ⟨⟨xs, hq⟩, q⟩ | ⟨⟨xs, hq⟩, q⟩
  · obtain ⟨its, rv, p, _⟩ := I1.list hq
    exact wpAny_pyIter_list p.isList ⟨_, [_], _, _, H1, rfl, I1.kept (t' := s1.toks) fun b o e => Heap.get?_push_of_some _ e, turn_list a _,
      ⟨_, Heap.get?_push_size _ rfl, rfl, rfl⟩, fp, q⟩
  · obtain ⟨its, rv, p, _⟩ := I1.tuple hq
    exact wpAny_pyIter_tuple (show s1.heap.IsTuple a its.toArray from p) ⟨_, [_], _, _, H1, rfl, I1.kept (t' := s1.toks) fun b o e => Heap.get?_push_of_some _ e, turn_tuple a _,
      ⟨_, Heap.get?_push_size _ rfl, rfl, rfl⟩, fp, q⟩
section
variable {K : PySem.W.Frag} {σ : L2.St} {H Hb : Hp} {tl te ta : TE} {M : Addr → Prop} {tu tz : TS} {D : Ends} {g : TG}
/-- for x in a list or a tuple that stood in Hb and stands -/
theorem s_forA {a : Addr} {xs : List V} (h : Ev tl σ H (.ref a)) (hx : SqA K Hb a xs) (Pv : Nat → L2.St → Hp → Prop) (h0 : ∀ H1, Ex H H1 → Pv 0 σ H1) (hl : ∀ i σ' H', Pv i σ' H' → Ex Hb H')
    (hs : ∀ i x σ' H', xs[i]? = some x → Pv i σ' H' → g x σ' H' fun σ2 H2 => tu { D with nx := Pv (i + 1), ct := Pv (i + 1), bk := D.nx } σ2 H2) (hd : ∀ σ' H', Pv xs.length σ' H' → D.nx σ' H') : tFor (iSeq K tl) g tu D σ H :=
  h H (Ex.refl H) _ fun H1 e => by
    have e1 := hl 0 σ H1 (h0 H1 e)
    rcases hx with hx | hx
    · exact ⟨a, rfl, .inl ⟨⟨xs, ex_l e1 hx⟩, for_list Pv (h0 H1 e) (fun i σ' H' _ p => ex_l (hl i σ' H' p) hx) hs hd⟩⟩
    · exact ⟨a, rfl, .inr ⟨⟨xs, ex_t e1 hx⟩, for_tup Pv (h0 H1 e) (fun i σ' H' _ p => ex_t (hl i σ' H' p) hx) hs hd⟩⟩
theorem q_forA {a : Addr} {xs : List V} (h : Ev tl σ H (.ref a)) (hx : SqA K Hb a xs) (Pv : Nat → L2.St → Hp → Prop) (h0 : ∀ H1, Ex H H1 → Pv 0 σ H1) (hl : ∀ i σ' H', Pv i σ' H' → Ex Hb H')
    (hs : ∀ i x σ' H', xs[i]? = some x → Pv i σ' H' → g x σ' H' fun σ2 H2 => tu { D with nx := Pv (i + 1), ct := Pv (i + 1), bk := tz D } σ2 H2) (hd : ∀ σ' H', Pv xs.length σ' H' → tz D σ' H') : tSeq (tFor (iSeq K tl) g tu) tz D σ H :=
  s_forA (D := { D with nx := tz D }) h hx Pv h0 hl hs hd
/-- xs.append(e), e data or raising -/
theorem o_app {l : Addr} {xs : List V} {o : Option PyData} (hl : H l = some (.lst xs)) (ha : Ev ta σ H (.ref l)) (h : EvO M te σ H o) (hz : xs.length < 100000)
    (k : ∀ d v H1, o = some d → Ex H H1 → At M H1 v d → D.nx σ (upd H1 l (.lst (xs ++ [v])))) : tDrop (tBM K "list" rAppend ta (tCons te tNil)) D σ H := ha H (Ex.refl H) _ fun H1 e1 =>
  ⟨.inl ⟨rfl, xs, .of (e1 l _ hl)⟩, h H1 e1 _ fun d v H2 hd e2 a2 => ⟨l, xs, v, rfl, rfl, e2 l _ (e1 l _ hl), sz_lt hz, k d v H2 hd (e1.trans e2) a2⟩⟩
theorem qo_app {l : Addr} {xs : List V} {o : Option PyData} (hl : H l = some (.lst xs)) (ha : Ev ta σ H (.ref l)) (h : EvO M te σ H o) (hz : xs.length < 100000)
    (k : ∀ d v H1, o = some d → Ex H H1 → At M H1 v d → tz D σ (upd H1 l (.lst (xs ++ [v])))) : tSeq (tDrop (tBM K "list" rAppend ta (tCons te tNil))) tz D σ H := o_app (D := { D with nx := tz D }) hl ha h hz k
/-- tuple(a list) -/
theorem s_tupOf {l : Addr} {xs : List V} (ha : Ev te σ H (.ref l)) (hl : SqL K H l xs) (k : ∀ p H1, H p = none → Ex H H1 → H1 p = some (.tup xs) → D.rt (.ref p) H1) : tRet (tCB (rTupOf K) (tCons te tNil)) D σ H := ha H (Ex.refl H) _ fun H1 e1 =>
  ⟨l, xs, rfl, .inl ⟨ex_l e1 hl, fun p hp => k p _ (fresh_back e1 hp) (e1.trans (Ex.new hp)) upd_same⟩⟩
end
/-- one more address that may change -/
abbrev And1 (M : Addr → Prop) (q : Addr) : Addr → Prop := fun a => M a ∨ a = q
mutual
theorem At.add {M : Addr → Prop} {H : Hp} {q : Addr} (f : H q = none) : ∀ {v : V} {d : PyData}, At M H v d → At (And1 M q) H v d
  | _, _, .non => .non
  | _, _, .bl b => .bl b
  | _, _, .int i => .int i
  | _, _, .str x h => .str x h
  | _, _, .lst n h r => .lst (fun z => z.elim n (ne_of_none h f)) h (Ats.add f r)
  | _, _, .tup n h r => .tup (fun z => z.elim n (ne_of_none h f)) h (Ats.add f r)
theorem Ats.add {M : Addr → Prop} {H : Hp} {q : Addr} (f : H q = none) : ∀ {vs : List V} {ds : List PyData}, Ats M H vs ds → Ats (And1 M q) H vs ds
  | _, _, .nil => .nil
  | _, _, .cons h r => .cons (At.add f h) (Ats.add f r)
end
theorem Ats.concat {M : Addr → Prop} {H : Hp} {d : PyData} : ∀ {ds : List PyData} {vs : List V}, Ats M H vs (ds ++ [d]) → ∃ ws w, vs = ws ++ [w] ∧ Ats M H ws ds ∧ At M H w d
  | [], _, .cons h .nil => ⟨[], _, rfl, .nil, h⟩
  | _ :: _, _, .cons h r => by
    obtain ⟨ws, w, e, r2, h2⟩ := Ats.concat r
    exact ⟨_ :: ws, w, by rw [e]; rfl, .cons h r2, h2⟩
theorem Trk.add {M : Addr → Prop} {H : Hp} {q : Addr} {o : HO} (t : Trk M H) (h : H q = some o) : Trk (And1 M q) H := fun a m => m.elim (t a) fun e => by
  rw [e]
  exact ⟨o, h⟩
end LK
set_option Elab.async false
set_option linter.all false
set_option maxRecDepth 100000
set_option maxHeartbeats 4000000
/-! The law's own «equal, and of the same sorts»: words for it. -/
namespace LK
open PySem PySem.Spec PyProof.Rows L2 Evl
noncomputable def sameD (a b : PyData) : Bool := @decide (a = b) (Classical.propDecidable _)
theorem sameD_iff {a b : PyData} : sameD a b = true ↔ a = b := by
  unfold sameD
  exact @decide_eq_true_iff _ (Classical.propDecidable _)
theorem sameD_of {a b : PyData} {c : Bool} (h : c = true ↔ a = b) : sameD a b = c := by
  cases c with
  | true => exact sameD_iff.mpr (h.mp rfl)
  | false =>
    cases e : sameD a b with
    | false => rfl
    | true => exact absurd (h.mpr (sameD_iff.mp e)) (by simp)
/-- nested at most that deep -/
def DepLe : Nat → PyData → Prop
  | 0, d => isSeq d = false
  | n + 1, d => (itemsD d).length ≤ 10000 ∧ ∀ x ∈ itemsD d, DepLe n x
theorem items_flat {d : PyData} (h : isSeq d = false) : itemsD d = [] := by
  cases d <;> first | rfl | (cases h; done)
theorem DepLe.up : ∀ {n : Nat} {d : PyData}, DepLe n d → DepLe (n + 1) d
  | 0, d, h => by
    have e := items_flat (show isSeq d = false from h)
    refine ⟨by rw [e]; exact Nat.zero_le _, fun x hx => ?_⟩
    rw [e] at hx
    cases hx
  | n + 1, d, h => ⟨h.1, fun x hx => DepLe.up (h.2 x hx)⟩
theorem DepLe.flat {n : Nat} {d : PyData} (h : isSeq d = false) : DepLe n d := by
  induction n with
  | zero => exact h
  | succ n ih => exact ih.up
def spExact (n : Nat) : Sp := fun vs H Q _ => ∃ (v1 v2 : V) (d1 d2 : PyData), vs = [v1, v2] ∧ At M0 H v1 d1 ∧ At M0 H v2 d2 ∧ DepLe n d2 ∧ ∀ H1, Same H H1 → Q (.bl (sameD d1 d2)) H1
theorem seq_ext {a b : PyData} (ha : isSeq a = true) (hb : isSeq b = true) (hl : isLst a = isLst b) (hi : itemsD a = itemsD b) : a = b := by
  cases a with
  | list xs => cases b with
    | list ys => exact congrArg _ hi
    | tuple ys => cases hl
    | _ => cases hb
  | tuple xs => cases b with
    | list ys => cases hl
    | tuple ys => exact congrArg _ hi
    | _ => cases hb
  | _ => cases ha
theorem seq_lt {a b : PyData} (hb : isSeq b = true) (hl : isLst b = isLst a) (ht : isTup b = isTup a) : isSeq a = true := by
  rw [← seq_or, ← hl, ← ht, seq_or]
  exact hb
/-- the places where two sequences differ -/
noncomputable def diffs (l r : List PyData) : List Nat := (List.range r.length).filter fun i => !sameD (l.getD i .none) (r.getD i .none)
theorem diffs_nil {l r : List PyData} (hl : l.length = r.length) : (diffs l r).isEmpty = true ↔ l = r := by
  unfold diffs
  rw [List.isEmpty_iff, List.filter_eq_nil_iff]
  constructor
  · intro h
    refine List.ext_getElem hl fun i h1 h2 => ?_
    have q := h i (List.mem_range.mpr h2)
    have e := sameD_iff.mp (by simpa using q)
    simpa [List.getD_eq_getElem?_getD, h1, h2] using e
  · rintro rfl i _
    simp [sameD_iff]
section
variable {K : PySem.W.Frag} {σ : L2.St} {H : Hp}
theorem sv_exact {n : Nat} {v1 v2 : V} {d1 d2 : PyData} (h1 : At M0 H v1 d1) (h2 : At M0 H v2 d2) (h3 : DepLe n d2) : SpV (spExact n) [v1, v2] H (.bl (sameD d1 d2)) := fun H1 e Q q E =>
  ⟨v1, v2, d1, d2, rfl, h1.ex e, h2.ex e, h3, q⟩
theorem dp_ints : ∀ is : List Int, DpAll K H (is.map V.int) (is.map PyData.int)
  | [] => .nil
  | i :: is => .cons (.int i) (dp_ints is)
theorem lay_ints : ∀ is : List Int, PyData.canLayAll0 (is.map PyData.int) = true
  | [] => rfl
  | i :: is => by
    simp only [List.map_cons, PyData.canLayAll0, PyData.canLay0, lay_ints is, Bool.and_self]
theorem depth_ints : ∀ is : List Int, PyData.depthAll (is.map PyData.int) = 0
  | [] => rfl
  | i :: is => by
    simp only [List.map_cons, PyData.depthAll, PyData.depth, depth_ints is, Nat.max_self]
theorem shaped_ints (is : List Int) : SeqAt.shaped (.list (is.map PyData.int)) = true := by
  unfold SeqAt.shaped
  simp only [PyData.canLay0, lay_ints, PyData.depth, depth_ints]
  decide
theorem eqv_nil (is : List Int) : PyData.eqv (.list (is.map PyData.int)) (.list []) = is.isEmpty := by
  cases is with
  | nil => simp only [List.map_nil, PyData.eqv, PyData.eqvAll, List.isEmpty_nil]
  | cons i is => simp only [List.map_cons, PyData.eqv, PyData.eqvAll, List.isEmpty_cons]
theorem given_ints (n : Nat) (f : Nat → Bool) : Evl.given n f (fun i => .int (i : Int)) = (((List.range n).filter f).map (fun i : Nat => (i : Int))).map V.int := by
  unfold Evl.given
  rw [List.map_map]
  rfl
/-- a list of ints == [] -/
theorem rv_eqNil {is : List Int} {p q : Addr} (hp : H p = some (.lst (is.map V.int))) (hq : H q = some (.lst [])) : RV (rEqA K) (.ref p) (.ref q) H (.bl is.isEmpty) := by
  refine rv_r (rv_now fun H1 e Q k => ⟨_, _, .lst (.of (e p _ hp)) (dp_ints is), .lst (.of (e q _ hq)) .nil, shaped_ints is, ?_, ?_⟩)
  · exact shaped_ints []
  · rw [eqv_nil]
    exact k
end
end LK
set_option Elab.async false
set_option linter.all false
set_option maxRecDepth 100000
set_option maxHeartbeats 4000000
/-! Where a pool at p is drawn from: G holds what stands, without the pool. -/
namespace LK
open PySem PySem.Spec PyProof.Rows L2 Evl TL
/-- the heap without the pool -/
abbrev wo (H : Hp) (p : Addr) : Hp := del H p
theorem wo_none {H : Hp} {p : Addr} : wo H p p = none := del_same
theorem wo_ne {H : Hp} {p b : Addr} (h : b ≠ p) : wo H p b = H b := del_ne h
theorem wo_ex {H : Hp} {p : Addr} : Ex (wo H p) H := fun a o h => by
  by_cases e : a = p
  · rw [e, wo_none] at h
    cases h
  · rw [wo_ne e] at h
    exact h
theorem ex_wo {G H : Hp} {p : Addr} (hG : G p = none) (e : Ex G H) : Ex G (wo H p) := fun a o h => by
  rw [wo_ne (ne_of_none h hG)]
  exact e a o h
abbrev Mp (p : Addr) : Addr → Prop := fun a => a = p
abbrev KeepP (p : Addr) (H H' : Hp) : Prop := Keep (Mp p) H H'
theorem ex_keep {G H H' : Hp} {p : Addr} (hG : G p = none) (e : Ex G H) (k : KeepP p H H') : Ex G H' := fun a o h => k a o (ne_of_none h hG) (e a o h)
mutual
theorem At.wo {p : Addr} {H : Hp} : ∀ {v : V} {d : PyData}, At (Mp p) H v d → At (Mp p) (wo H p) v d
  | _, _, .non => .non
  | _, _, .bl b => .bl b
  | _, _, .int i => .int i
  | _, _, .str x h => .str x h
  | _, _, .lst n h r => .lst n (by rw [wo_ne n]; exact h) (Ats.wo r)
  | _, _, .tup n h r => .tup n (by rw [wo_ne n]; exact h) (Ats.wo r)
theorem Ats.wo {p : Addr} {H : Hp} : ∀ {vs : List V} {ds : List PyData}, Ats (Mp p) H vs ds → Ats (Mp p) (wo H p) vs ds
  | _, _, .nil => .nil
  | _, _, .cons h r => .cons (At.wo h) (Ats.wo r)
end
theorem pl_ex {H H' : Hp} {p : Addr} {L : Pool} (h : PlAt H p L) (e : Ex H H') : PlAt H' p L := e _ _ h
theorem pl_trk {H : Hp} {p : Addr} {L : Pool} (h : PlAt H p L) : Trk (Mp p) H := fun a e => ⟨plO L, by
  have e' : a = p := e
  rw [e']
  exact h⟩
section
variable {K : PySem.W.Frag} {σ : L2.St} {G H : Hp} {p : Addr} {te ta tb : TE} {tt tu : TT} {v : V} {L : Pool}
def EvK (p : Addr) (te : TE) (σ : L2.St) (G : Hp) (P : V → Hp → Prop) : Prop := ∀ H1 L, Ex G H1 → PlAt H1 p L → ∀ Q : VK, (∀ v H2 L', KeepP p H1 H2 → PlAt H2 p L' → P v H2 → Q v H2) → te σ H1 Q
def EtK (p : Addr) (tt : TT) (σ : L2.St) (G : Hp) : Prop := ∀ H1 L, Ex G H1 → PlAt H1 p L → ∀ Q : Bool → Hp → Prop, (∀ b H2 L', KeepP p H1 H2 → PlAt H2 p L' → Q b H2) → tt σ H1 Q
theorem ek_of (h : Ev te σ G v) : EvK p te σ G (fun x _ => x = v) := fun H1 L e hp Q q => h H1 e Q fun H2 e2 => q v H2 L (.of e2) (pl_ex hp e2) rfl
theorem ek_imp {P P' : V → Hp → Prop} (h : EvK p te σ G P) (i : ∀ v H, P v H → P' v H) : EvK p te σ G P' := fun H1 L e hp Q q => h H1 L e hp Q fun v H2 L' k hp2 z => q v H2 L' k hp2 (i v H2 z)
/-- a drawn number -/
abbrev Drawn (m : Int) : V → Hp → Prop := fun v _ => ∃ n : Int, v = .int n ∧ 0 ≤ n ∧ n < m
theorem ek_draw {i : Nat} {m : Int} (hi : σ[i]? = some (some (.ref p))) (hm : Ev te σ G (.int m)) (h0 : 0 < m) (h1 : m < 1073741824) : EvK p (tCall spDraw [] E0 (tCons (tVar i) (tCons te tNil))) σ G (Drawn m) := fun H1 L e hp Q q =>
  ⟨_, hi, hm H1 e _ fun H2 e2 => ⟨p, L, m, rfl, pl_ex hp e2, h0, h1, fun H3 k hp3 => q _ H3 _ ((Keep.of e2).trans k) hp3 ⟨_, rfl, L.draw_lo h0, L.draw_hi h0⟩⟩⟩
/-- an operator on a drawn thing and a plain one -/
theorem ek_opL {r : R2} {P : V → Hp → Prop} {P' : V → Hp → Prop} {y : V} (hG : G p = none) (ha : EvK p ta σ G P) (hb : Ev tb σ G y) (hr : ∀ x H1 L, Ex G H1 → PlAt H1 p L → P x H1 → ∀ H2, Ex H1 H2 → ∃ z, P' z H2 ∧ RV r x y H2 z)
    (hP : ∀ z H1 H2, P' z H1 → Ex H1 H2 → P' z H2) : EvK p (tOp r ta tb) σ G P' := fun H1 L e hp Q q =>
  ha H1 L e hp _ fun x H2 L2 k2 hp2 px => hb H2 (ex_keep hG e k2) _ fun H3 e3 => by
    obtain ⟨z, hz, hv⟩ := hr x H2 L2 (ex_keep hG e k2) hp2 px H3 e3
    exact hv H3 (Ex.refl _) Q fun H4 e4 => q z H4 L2 (k2.trans (.of (e3.trans e4))) (pl_ex hp2 (e3.trans e4)) (hP z H3 H4 hz e4)
/-- draw(..) == c -/
theorem ek_eq {m c : Int} (hG : G p = none) (ha : EvK p ta σ G (Drawn m)) : EvK p (tOp (rEqA K) ta (tC (.int c))) σ G (fun v _ => ∃ b, v = .bl b) :=
  ek_opL hG ha ev_c (fun x H1 L e hp ⟨n, hn, _⟩ H2 e2 => ⟨.bl (decide (V.int n = .int c)), ⟨_, rfl⟩, by rw [hn]; exact rv_eqS rfl⟩) fun _ _ _ h _ => h
theorem tk_test (h : EvK p te σ G (fun v _ => ∃ b, v = .bl b)) : EtK p (tTest te) σ G := fun H1 L e hp Q q => h H1 L e hp _ fun v H2 L' k hp2 ⟨b, hb⟩ => ⟨b, hb, q b H2 L' k hp2⟩
theorem ek_if {P : V → Hp → Prop} (hG : G p = none) (ht : EtK p tt σ G) (ha : EvK p ta σ G P) (hb : EvK p tb σ G P) : EvK p (tIf tt ta tb) σ G P := fun H1 L e hp Q q =>
  ht H1 L e hp _ fun b H2 L2 k2 hp2 => by
    have e2 := ex_keep hG e k2
    cases b with
    | true => exact ha H2 L2 e2 hp2 Q fun v H3 L3 k3 hp3 z => q v H3 L3 (k2.trans k3) hp3 z
    | false => exact hb H2 L2 e2 hp2 Q fun v H3 L3 k3 hp3 z => q v H3 L3 (k2.trans k3) hp3 z
/-- xs[draw(..)] -/
theorem ek_ix {i : Nat} {a : Addr} {xs : List V} {m : Int} (hG : G p = none) (hi : σ[i]? = some (some (.ref a))) (hx : SqL K G a xs) (hm : m = xs.length) (hd : EvK p tb σ G (Drawn m)) :
    EvK p (tOp (rIx K) (tVar i) tb) σ G (fun v _ => v ∈ xs) := fun H1 L e hp Q q =>
  ⟨_, hi, hd H1 L e hp _ fun y H2 L2 k2 hp2 ⟨n, hn, h0, h1⟩ => by
    subst hn
    have hl : n.toNat < xs.length := by omega
    refine rv_xL (v := xs[n.toNat]) (ex_l (ex_keep hG e k2) hx) ?_ H2 (Ex.refl _) Q fun H3 e3 => q _ H3 L2 (k2.trans (.of e3)) (pl_ex hp2 e3) (List.getElem_mem hl)
    have z := at_nat (List.getElem?_eq_getElem hl)
    rw [Int.toNat_of_nonneg h0] at z
    exact z⟩
/-- a text's sign at a drawn place -/
theorem ek_ixS {z : Str} {m : Int} (hG : G p = none) (ha : Ev ta σ G (.str z)) (hz : z.length ≤ 100000) (hm : m = z.length) (hd : EvK p tb σ G (Drawn m)) :
    EvK p (tOp (rIx K) ta tb) σ G (fun v _ => ∃ c ∈ z.cps.toList, v = .str ⟨#[c]⟩) := fun H1 L e hp Q q =>
  ha H1 e _ fun H2 e2 => hd H2 L (e.trans e2) (pl_ex hp e2) _ fun y H3 L3 k3 hp3 ⟨n, hn, h0, h1⟩ => by
    subst hn
    have hl : n.toNat < z.cps.toList.length := by
      have : z.cps.toList.length = z.length := by simp [Str.length]
      omega
    refine rv_xS (c := z.cps.toList[n.toNat]) hz ?_ H3 (Ex.refl _) Q fun H4 e4 => q _ H4 L3 (((Keep.of e2).trans k3).trans (.of e4)) (pl_ex hp3 e4) ⟨_, List.getElem_mem hl, rfl⟩
    have z := at_nat (List.getElem?_eq_getElem hl)
    rw [Int.toNat_of_nonneg h0] at z
    exact z
/-! ### statements -/
variable {D : Ends} {tz tc : TS}
theorem k_asg {P : V → Hp → Prop} {i : Nat} (h : EvK p te σ G P) (e : Ex G H) (hp : PlAt H p L) (k : ∀ v H2 L', KeepP p H H2 → PlAt H2 p L' → P v H2 → tz D (σ.set i (some v)) H2) : tSeq (tAsg te (gName i)) tz D σ H := h H L e hp _ k
theorem k_ret {P : V → Hp → Prop} (h : EvK p te σ G P) (e : Ex G H) (hp : PlAt H p L) (k : ∀ v H2 L', KeepP p H H2 → PlAt H2 p L' → P v H2 → D.rt v H2) : tRet te D σ H := h H L e hp _ k
theorem k_if (h : EtK p tt σ G) (e : Ex G H) (hp : PlAt H p L) (k1 : ∀ H2 L', KeepP p H H2 → PlAt H2 p L' → tc { D with nx := tz D } σ H2) (k2 : ∀ H2 L', KeepP p H H2 → PlAt H2 p L' → tz D σ H2) : tSeq (tIfS tt tc tNext) tz D σ H := h H L e hp _ fun b H2 L' k hp2 => by
  cases b with
  | true => exact k1 H2 L' k hp2
  | false => exact k2 H2 L' k hp2
/-- [e for i in range(n)], e drawn: what is made, by a word of each item -/
theorem ek_lc {j : Nat} {vs : List Nat} {n : Int} {P : V → Prop} (hG : G p = none) (hn : Ev tb σ G (.int n)) (h0 : 0 ≤ n) (h1 : n ≤ 40000) (hw : ∀ x, wipe ((wipe σ vs).set j (some x)) vs = wipe σ vs)
    (he : ∀ i : Nat, EvK p te ((wipe σ vs).set j (some (.int (i : Int)))) G (fun v _ => P v)) :
    EvK p (tLc (iRng1 (tCons tb tNil)) (gName j) tYes te vs) σ G (fun v H2 => ∃ (a : Addr) (xs : List V), v = .ref a ∧ a ≠ p ∧ H2 a = some (.lst xs) ∧ xs.length = n.toNat ∧ ∀ x ∈ xs, P x) := fun H1 L e hp Q q =>
  hn H1 e _ fun H2 e2 => ⟨n, rfl, by omega, by omega, fun Dl hD => by
    have hp2 := pl_ex hp e2
    have e12 := e.trans e2
    have hDp : Dl ≠ p := fun z => by
      rw [z, show H2 p = _ from hp2] at hD
      cases hD
    refine lc_it (w := walk_range (lo := 0) (n := n.toNat)) (fun i H' => ∃ L' xs, KeepP p H2 H' ∧ PlAt H' p L' ∧ H' Dl = some (.lst xs) ∧ xs.length = i ∧ ∀ x ∈ xs, P x)
      ⟨L, [], (Keep.refl _ _).own hD, by unfold PlAt; rw [upd_ne hDp.symm]; exact hp2, upd_same, rfl, by simp⟩ (fun _ _ _ _ => trivial) (fun i x Ha Hb hi pv y => ?_) (fun H' pv => ?_)
    · obtain ⟨L', xs, k, hpa, hl, hlen, hP⟩ := pv
      obtain ⟨rfl, rfl⟩ := y
      refine ⟨hw _, ?_⟩
      show te ((wipe σ vs).set j (some (.int ((0 : Int) + (i : Int))))) Hb _
      rw [show (0 : Int) + (i : Int) = (i : Int) from Int.zero_add _]
      refine he i Hb L' (ex_keep hG e12 k) hpa _ fun v Hc L2 k2 hpc hv => ⟨xs, k2 _ _ hDp hl, sz_lt (by omega), L2, xs ++ [v], (k.trans k2).own hD, ?_, upd_same, by simp [hlen], fun x hx => ?_⟩
      · unfold PlAt
        rw [upd_ne hDp.symm]
        exact hpc
      · rcases List.mem_append.mp hx with hx | hx
        · exact hP x hx
        · rw [List.mem_singleton.mp hx]
          exact hv
    · obtain ⟨L', xs, k, hpa, hl, hlen, hP⟩ := pv
      exact q _ H' L' ((Keep.of e2).trans k) hpa ⟨Dl, xs, rfl, hDp, hl, hlen, hP⟩⟩
theorem joinL_signs : ∀ cs : List Nat, joinL [] (cs.map fun c => [c]) = cs
  | [] => rfl
  | [c] => rfl
  | c :: d :: r => by
    show [c] ++ ([] ++ joinL [] ((d :: r).map fun c => [c])) = c :: d :: r
    rw [joinL_signs (d :: r)]
    rfl
theorem str_ext {a b : Str} (h : a.cps.toList = b.cps.toList) : a = b := by
  obtain ⟨⟨l⟩⟩ := a
  obtain ⟨⟨m⟩⟩ := b
  have h' : l = m := h
  rw [h']
theorem join_signs (cs : List Nat) : Txt.join Str.empty (cs.map fun c => (⟨#[c]⟩ : Str)) = ⟨cs.toArray⟩ := by
  refine str_ext ?_
  rw [join_eq]
  have h := tl_join Str.empty (cs.map fun c => (⟨#[c]⟩ : Str))
  rw [List.map_map] at h
  exact h.trans (joinL_signs cs)
theorem signs_of {S : List Nat} : ∀ {xs : List V}, (∀ x ∈ xs, ∃ c ∈ S, x = V.str ⟨#[c]⟩) → ∃ cs : List Nat, xs = (cs.map fun c => (⟨#[c]⟩ : Str)).map V.str ∧ cs.length = xs.length ∧ ∀ c ∈ cs, c ∈ S
  | [], _ => ⟨[], rfl, rfl, by simp⟩
  | x :: xs, h => by
    obtain ⟨c, hc, rfl⟩ := h x (by simp)
    obtain ⟨cs, e, l, hS⟩ := signs_of (xs := xs) fun y hy => h y (by simp [hy])
    exact ⟨c :: cs, by rw [e]; rfl, by simp [l], fun d hd => (List.mem_cons.mp hd).elim (fun z => z ▸ hc) (hS d)⟩
/-- "".join of a made list of signs -/
theorem ek_join {n : Nat} {S : List Nat} (hz : n ≤ 10000) (h : EvK p te σ G (fun v H2 => ∃ (a : Addr) (xs : List V), v = .ref a ∧ a ≠ p ∧ H2 a = some (.lst xs) ∧ xs.length = n ∧ ∀ x ∈ xs, ∃ c ∈ S, x = V.str ⟨#[c]⟩)) :
    EvK p (tM1 (rJoin K) (tC (.str Str.empty)) te) σ G (fun v _ => ∃ cs : List Nat, v = .str ⟨cs.toArray⟩ ∧ cs.length = n ∧ ∀ c ∈ cs, c ∈ S) := fun H1 L e hp Q q =>
  ⟨⟨_, rfl⟩, h H1 L e hp _ fun v H2 L2 k2 hp2 ⟨a, xs, hv, _, hl, hn, hx⟩ => by
    subst hv
    obtain ⟨cs, rfl, hcl, hS⟩ := signs_of hx
    refine ⟨Str.empty, a, cs.map fun c => (⟨#[c]⟩ : Str), rfl, rfl, .inl (.of hl), ?_, ?_⟩
    · have e1 : ((cs.map fun c => (⟨#[c]⟩ : Str)).map (·.length)).sum = cs.length := by
        rw [List.map_map]
        have : ∀ l : List Nat, (l.map ((fun z : Str => z.length) ∘ fun c => (⟨#[c]⟩ : Str))).sum = l.length := fun l => by
          induction l with
          | nil => rfl
          | cons c l ih =>
            rw [List.map_cons, List.sum_cons, ih, List.length_cons]
            show 1 + l.length = _
            omega
        exact this cs
      rw [e1, List.length_map]
      have e2 : Str.empty.length = 0 := rfl
      rw [e2]
      have := hcl.trans hn
      omega
    · rw [join_signs]
      exact q _ H2 L2 k2 hp2 ⟨cs, rfl, hcl.trans hn, hS⟩⟩
end
end LK
set_option Elab.async false
set_option linter.all false
set_option maxRecDepth 100000
set_option maxHeartbeats 4000000
/-! Data that is made: literals, comprehensions, sums; tests and data where a pool is drawn from. -/
namespace LK
open PySem PySem.Spec PyProof.Rows L2 Evl TL
abbrev EvD (M : Addr → Prop) (te : TE) (σ : L2.St) (H : Hp) (d : PyData) : Prop := LK.EvO M te σ H (some d)
abbrev EvDs (M : Addr → Prop) (ta : TA) (σ : L2.St) (H : Hp) (ds : List PyData) : Prop := LK.EvOs M ta σ H (some ds)
section
variable {K : PySem.W.Frag} {σ : L2.St} {H : Hp} {te ta tb tl : TE} {tr : TA} {M : Addr → Prop} {v : V} {d : PyData} {ds es : List PyData} {D : Ends} {tz : TS}
theorem ed_non : EvD M (tC .non) σ H .none := eo_of ev_c .non
theorem ed_bl {b : Bool} : EvD M (tC (.bl b)) σ H (.bool b) := eo_of ev_c (.bl b)
theorem ed_int {i : Int} : EvD M (tC (.int i)) σ H (.int i) := eo_of ev_c (.int i)
theorem ed_str {s : Str} (h : s.length ≤ 100000 := by decide) : EvD M (tC (.str s)) σ H (.str s) := eo_of ev_c (.str s h)
theorem ed_num {i : Int} (h : Ev te σ H (.int i)) : EvD M te σ H (.int i) := eo_of h (.int i)
theorem ed_var {i : Nat} (h : σ[i]? = some (some v)) (a : At M H v d) : EvD M (tVar i) σ H d := eo_of (ev_var h) a
theorem eds_nil : EvDs M tNil σ H [] := es_nil
theorem eds_cons (h : EvD M te σ H d) (hr : EvDs M tr σ H ds) : EvDs M (tCons te tr) σ H (d :: ds) := es_cons h hr
theorem ed_tup (h : EvDs M tr σ H ds) (hM : Trk M H) (hz : ds.length ≤ 100000 := by decide) : EvD M (tTup tr) σ H (.tuple ds) := eo_tup h hM fun ds' e => by
  cases e
  exact hz
theorem ed_lst (h : EvDs M tr σ H ds) (hM : Trk M H) (hz : ds.length ≤ 100000 := by decide) : EvD M (tLst tr) σ H (.list ds) := eo_lst h hM fun ds' e => by
  cases e
  exact hz
theorem ed_is {e : PyData} (h : EvD M te σ H d) (q : d = e) : EvD M te σ H e := q ▸ h
theorem d_ret (h : EvD M te σ H d) (k : ∀ v H1, Ex H H1 → At M H1 v d → D.rt v H1) : tRet te D σ H := o_ret h fun d' v H1 e e1 a => by
  cases e
  exact k v H1 e1 a
theorem d_asg {i : Nat} (h : EvD M te σ H d) (k : ∀ v H1, Ex H H1 → At M H1 v d → tz D (σ.set i (some v)) H1) : tSeq (tAsg te (gName i)) tz D σ H := o_asg h fun d' v H1 e e1 a => by
  cases e
  exact k v H1 e1 a
theorem d_sasg {i : Nat} (h : EvD M te σ H d) (k : ∀ v H1, Ex H H1 → At M H1 v d → D.nx (σ.set i (some v)) H1) : tAsg te (gName i) D σ H := h H (Ex.refl H) _ fun d' v H1 e e1 a => by
  cases e
  exact k v H1 e1 a
theorem ed_to {P : VK} (h : EvD M te σ H d) (k : ∀ v H1, Ex H H1 → At M H1 v d → P v H1) : te σ H P := h H (Ex.refl H) P fun d' v H1 e e1 a => by
  cases e
  exact k v H1 e1 a
theorem At.lst_inv {a : V} {ds : List PyData} (h : At M H a (.list ds)) : ∃ p xs, a = .ref p ∧ ¬ M p ∧ H p = some (.lst xs) ∧ Ats M H xs ds := by
  cases h with
  | lst n h r => exact ⟨_, _, rfl, n, h, r⟩
theorem At.tup_inv {a : V} {ds : List PyData} (h : At M H a (.tuple ds)) : ∃ p xs, a = .ref p ∧ ¬ M p ∧ H p = some (.tup xs) ∧ Ats M H xs ds := by
  cases h with
  | tup n h r => exact ⟨_, _, rfl, n, h, r⟩
/-- tuple(a list) -/
theorem ed_tupOf (h : EvD M te σ H (.list ds)) (hM : Trk M H) : EvD M (tCB (rTupOf K) (tCons te tNil)) σ H (.tuple ds) := fun H1 e Q q =>
  h H1 e _ fun d' v H2 hd e2 a => by
    cases hd
    obtain ⟨p, xs, rfl, np, hp, r⟩ := a.lst_inv
    exact ⟨p, xs, rfl, .inl ⟨.of hp, fun l hl => q _ (.ref l) _ rfl (e2.trans (Ex.new hl)) (.tup (Trk.fresh (hM.same (e.trans e2)) hl) upd_same (r.ex (Ex.new hl)))⟩⟩
/-- list + list -/
theorem ed_cat (ha : EvD M ta σ H (.list ds)) (hb : EvD M tb σ H (.list es)) (hM : Trk M H) (hz : ds.length + es.length ≤ 100000) : EvD M (tOp (rAddA K) ta tb) σ H (.list (ds ++ es)) := fun H1 e Q q =>
  ha H1 e _ fun d' x H2 hd e2 a => by
    cases hd
    refine hb H2 (e.trans e2) _ fun d' y H3 hd e3 b => ?_
    cases hd
    obtain ⟨p, xs, rfl, np, hp, r⟩ := (a.ex e3).lst_inv
    obtain ⟨p', ys, rfl, np', hp', r'⟩ := b.lst_inv
    exact .inr (.inr (.inl ⟨p, p', xs, ys, rfl, rfl, hp, hp', sz_of (by rw [r.len, r'.len]; exact hz), fun l hl => q _ (.ref l) _ rfl ((e2.trans e3).trans (Ex.new hl))
      (.lst (Trk.fresh (hM.same ((e.trans e2).trans e3)) hl) upd_same ((r.ex (Ex.new hl)).append (r'.ex (Ex.new hl))))⟩))
/-- [e for x in a list of data] -/
theorem ed_lc {j : Nat} {vs : List Nat} (f : PyData → PyData) (h : EvD M tl σ H (.list ds)) (hM : Trk M H) (hz : ds.length ≤ 40000) (hw : ∀ x, wipe ((wipe σ vs).set j (some x)) vs = wipe σ vs)
    (he : ∀ (M' : Addr → Prop) (x : V) (d : PyData) H1, Ex H H1 → d ∈ ds → Trk M' H1 → At M' H1 x d → EvD M' te ((wipe σ vs).set j (some x)) H1 (f d)) : EvD M (tLc (iList K tl) (gName j) tYes te vs) σ H (.list (ds.map f)) := fun H0 e Q q =>
  h H0 e _ fun d' v H1 hd e1 a => by
    cases hd
    obtain ⟨p, xs, rfl, np, hp, r⟩ := a.lst_inv
    refine ⟨p, rfl, ⟨xs, .of hp⟩, fun Dl hD => ?_⟩
    have rD := r.add hD
    refine lc_it walk_list (fun i H' => Ex H1 H' ∧ ∃ ws, H' Dl = some (.lst ws) ∧ Ats (And1 M Dl) H' ws ((ds.take i).map f)) ⟨Ex.new hD, [], upd_same, .nil⟩ (fun i H' _ pv => .of (pv.1 _ _ hp)) (fun i x Ha Hb hi pv y => ?_) (fun H' pv => ?_)
    · obtain ⟨e3, ws, hws, aws⟩ := pv
      obtain ⟨rfl, hx⟩ := y
      obtain ⟨di, hdi, ai⟩ := rD.get hx
      refine ⟨hw _, ?_⟩
      show te _ Hb _
      refine he (And1 M Dl) x di Hb ((e.trans e1).trans e3) (List.mem_of_getElem? hdi) ((hM.same ((e.trans e1).trans e3)).add hws) (ai.ex e3) Hb (Ex.refl _) _ fun d' y H4 hd e4 ay => ⟨ws, e4 _ _ hws, sz_lt ?_, Ex.mut (e3.trans e4) hD, ws ++ [y], upd_same, ?_⟩
      · rw [aws.len, List.length_map, List.length_take]
        omega
      · cases hd
        have kp : Keep (And1 M Dl) H4 (upd H4 Dl (.lst (ws ++ [y]))) := (Keep.refl _ _).put (.inr rfl)
        rw [List.take_add_one, hdi, Option.toList_some, List.map_append]
        exact ((aws.ex e4).keep kp).append (.one (ay.keep kp))
    · obtain ⟨e3, ws, hws, aws⟩ := pv
      rw [r.len, List.take_length] at aws
      exact q _ (.ref Dl) H' rfl (e1.trans e3) (.lst (Trk.fresh (hM.same (e.trans e1)) hD) hws (aws.weak fun _ z => .inl z))
/-! ### where a pool is drawn from -/
variable {G : Hp} {p : Addr} {L : Pool} {tt tu : TT} {tc : TS}
abbrev EvP (p : Addr) (te : TE) (σ : L2.St) (G : Hp) (v : V) : Prop := EvK p te σ G fun x _ => x = v
def EtP (p : Addr) (tt : TT) (σ : L2.St) (G : Hp) (b : Bool) : Prop := ∀ H1 L, Ex G H1 → PlAt H1 p L → ∀ Q : Bool → Hp → Prop, (∀ H2 L', KeepP p H1 H2 → PlAt H2 p L' → Q b H2) → tt σ H1 Q
theorem tp_test {b : Bool} (h : EvP p te σ G (.bl b)) : EtP p (tTest te) σ G b := fun H1 L e hp Q q => h H1 L e hp _ fun v H2 L' k hp2 z => ⟨b, z, q H2 L' k hp2⟩
theorem tp_of {b : Bool} (h : EvT tt σ G b) : EtP p tt σ G b := fun H1 L e hp Q q => h H1 e Q fun H2 e2 => q H2 L (.of e2) (pl_ex hp e2)
theorem tp_tru {b : Bool} (h : EvP p te σ G (.bl b)) : EtP p (tTr K te) σ G b := fun H1 L e hp Q q => h H1 L e hp _ fun v H2 L' k hp2 z => ⟨b, by rw [z]; rfl, q H2 L' k hp2⟩
theorem tp_not {b : Bool} (h : EtP p tt σ G b) : EtP p (tNot tt) σ G (!b) := fun H1 L e hp Q q => h H1 L e hp _ q
theorem tp_or {a b : Bool} (hG : G p = none) (h : EtP p tt σ G a) (h2 : a = false → EtP p tu σ G b) : EtP p (tOr tt tu) σ G (a || b) := fun H1 L e hp Q q => h H1 L e hp _ fun H2 L2 k2 hp2 => by
  cases a with
  | true => exact q H2 L2 k2 hp2
  | false => exact h2 rfl H2 L2 (ex_keep hG e k2) hp2 Q fun H3 L3 k3 hp3 => q H3 L3 (k2.trans k3) hp3
theorem tp_and {a b : Bool} (hG : G p = none) (h : EtP p tt σ G a) (h2 : a = true → EtP p tu σ G b) : EtP p (tAnd tt tu) σ G (a && b) := fun H1 L e hp Q q => h H1 L e hp _ fun H2 L2 k2 hp2 => by
  cases a with
  | false => exact q H2 L2 k2 hp2
  | true => exact h2 rfl H2 L2 (ex_keep hG e k2) hp2 Q fun H3 L3 k3 hp3 => q H3 L3 (k2.trans k3) hp3
/-- a test told beforehand -/
theorem p_when {b : Bool} (h : EtP p tt σ G b) (e : Ex G H) (hp : PlAt H p L) (k1 : b = true → ∀ H2 L', KeepP p H H2 → PlAt H2 p L' → tc { D with nx := tz D } σ H2) (k2 : b = false → ∀ H2 L', KeepP p H H2 → PlAt H2 p L' → tz D σ H2) : tSeq (tIfS tt tc tNext) tz D σ H := h H L e hp _ fun H2 L' k hp2 => by
  cases b with
  | true => exact k1 rfl H2 L' k hp2
  | false => exact k2 rfl H2 L' k hp2
/-- data, the pool drawn from on the way -/
abbrev EvKD (p : Addr) (te : TE) (σ : L2.St) (G : Hp) (P : PyData → Prop) : Prop := EvK p te σ G fun v H2 => ∃ d, P d ∧ At (Mp p) H2 v d
theorem At.keepP {H2 : Hp} (k : KeepP p H H2) (a : At (Mp p) H v d) : At (Mp p) H2 v d := a.keep k
/-- one more call around what was drawn -/
theorem ek_call1 {sp : Sp} {dvs : List V} {E : XK} {P P' : V → Hp → Prop} (hG : G p = none) (h : EvK p te σ G P) (hs : ∀ v H1 L, Ex G H1 → PlAt H1 p L → P v H1 → ∀ Q : VK, (∀ v' H2 L', KeepP p H1 H2 → PlAt H2 p L' → P' v' H2 → Q v' H2) → sp (v :: dvs) H1 Q E) :
    EvK p (tCall sp dvs E (tCons te tNil)) σ G P' := fun H1 L e hp Q q =>
  h H1 L e hp _ fun v H2 L2 k2 hp2 pv => hs v H2 L2 (ex_keep hG e k2) hp2 pv Q fun v' H3 L3 k3 hp3 pv' => q v' H3 L3 (k2.trans k3) hp3 pv'
end
end LK
set_option Elab.async false
set_option linter.all false
set_option maxRecDepth 100000
set_option maxHeartbeats 4000000
/-! More where a pool is drawn from. -/
namespace LK
open PySem PySem.Spec PyProof.Rows L2 Evl TL
section
variable {K : PySem.W.Frag} {σ : L2.St} {G H : Hp} {p : Addr} {te ta tb : TE} {tt tu : TT} {v x : V} {L : Pool} {d : PyData} {M : Addr → Prop} {D : Ends} {tz tc : TS}
theorem Ats.mem {xs : List V} {ds : List PyData} (r : Ats M H xs ds) (h : v ∈ xs) : ∃ d ∈ ds, At M H v d := by
  obtain ⟨i, hi, e⟩ := List.getElem_of_mem h
  obtain ⟨d, hd, a⟩ := r.get (i := i) (x := v) (by rw [← e]; exact List.getElem?_eq_getElem hi)
  exact ⟨d, List.mem_of_getElem? hd, a⟩
theorem ek_ex {P : V → Hp → Prop} (hG : G p = none) (h : EvK p te σ G P) : EvK p te σ G fun v H => P v H ∧ Ex G H := fun H1 L e hp Q q => h H1 L e hp Q fun v H2 L2 k2 hp2 z => q v H2 L2 k2 hp2 ⟨z, ex_keep hG e k2⟩
/-- a plain operand, then a drawn one -/
theorem ek_opR {r : R2} {P P' : V → Hp → Prop} (hG : G p = none) (ha : Ev ta σ G x) (hb : EvK p tb σ G P) (hr : ∀ y H2, Ex G H2 → P y H2 → ∃ z, (∀ H3, Ex H2 H3 → P' z H3) ∧ RV r x y H2 z) : EvK p (tOp r ta tb) σ G P' := fun H1 L e hp Q q =>
  ha H1 e _ fun H2 e2 => hb H2 L (e.trans e2) (pl_ex hp e2) _ fun y H3 L3 k3 hp3 py => by
    obtain ⟨z, hz, rv⟩ := hr y H3 (ex_keep hG (e.trans e2) k3) py
    exact rv H3 (Ex.refl _) Q fun H4 e4 => q z H4 L3 (((Keep.of e2).trans k3).trans (.of e4)) (pl_ex hp3 e4) (hz H4 e4)
theorem ek_add {i m : Int} (hG : G p = none) (ha : Ev ta σ G (.int i)) (hb : EvK p tb σ G (Drawn m)) : EvK p (tOp (rAddA K) ta tb) σ G fun v _ => ∃ n : Int, v = .int (i + n) ∧ 0 ≤ n ∧ n < m :=
  ek_opR hG ha hb fun y H2 e ⟨n, hn, h0, h1⟩ => ⟨.int (i + n), fun _ _ => ⟨n, rfl, h0, h1⟩, by rw [hn]; exact rv_addI⟩
/-- a new list's item at a drawn place -/
theorem ek_ixN {xs : List V} {m : Int} (hG : G p = none) (ha : EvL ta σ G xs) (hm : m = xs.length) (hd : EvK p tb σ G (Drawn m)) : EvK p (tOp (rIx K) ta tb) σ G (fun v _ => v ∈ xs) := fun H1 L e hp Q q =>
  ha H1 e _ fun a H2 na e2 ha2 => hd H2 L (e.trans e2) (pl_ex hp e2) _ fun y H3 L3 k3 hp3 ⟨n, hn, h0, h1⟩ => by
    subst hn
    have hl : n.toNat < xs.length := by omega
    have ne : a ≠ p := fun z => by
      rw [z, show H1 p = _ from hp] at na
      cases na
    refine rv_xL (v := xs[n.toNat]) (.of (k3 a _ ne ha2)) ?_ H3 (Ex.refl _) Q fun H4 e4 => q _ H4 L3 (((Keep.of e2).trans k3).trans (.of e4)) (pl_ex hp3 e4) (List.getElem_mem hl)
    have z := at_nat (List.getElem?_eq_getElem hl)
    rw [Int.toNat_of_nonneg h0] at z
    exact z
/-- [e for i in range(a drawn number)], e drawn -/
theorem ek_lcD {j : Nat} {vs : List Nat} {m : Int} {P : V → Prop} (hG : G p = none) (hn : EvK p tb σ G (Drawn m)) (h1 : m ≤ 40000) (hw : ∀ x, wipe ((wipe σ vs).set j (some x)) vs = wipe σ vs)
    (he : ∀ i : Nat, EvK p te ((wipe σ vs).set j (some (.int (i : Int)))) G (fun v _ => P v)) :
    EvK p (tLc (iRng1 (tCons tb tNil)) (gName j) tYes te vs) σ G (fun v H2 => ∃ (a : Addr) (xs : List V), v = .ref a ∧ a ≠ p ∧ H2 a = some (.lst xs) ∧ (xs.length : Int) < m ∧ ∀ x ∈ xs, P x) := fun H1 L e hp Q q =>
  hn H1 L e hp _ fun y H2 L2 k2 hp2 ⟨n, hn, h0, hm⟩ => ⟨n, by rw [hn], by omega, by omega, fun Dl hD => by
    have e12 := ex_keep hG e k2
    have hDp : Dl ≠ p := fun z => by
      rw [z, show H2 p = _ from hp2] at hD
      cases hD
    refine lc_it (w := walk_range (lo := 0) (n := n.toNat)) (fun i H' => ∃ L' xs, KeepP p H2 H' ∧ PlAt H' p L' ∧ H' Dl = some (.lst xs) ∧ xs.length = i ∧ ∀ x ∈ xs, P x)
      ⟨L2, [], (Keep.refl _ _).own hD, by unfold PlAt; rw [upd_ne hDp.symm]; exact hp2, upd_same, rfl, by simp⟩ (fun _ _ _ _ => trivial) (fun i x Ha Hb hi pv y => ?_) (fun H' pv => ?_)
    · obtain ⟨L', xs, k, hpa, hl, hlen, hP⟩ := pv
      obtain ⟨rfl, rfl⟩ := y
      refine ⟨hw _, ?_⟩
      show te ((wipe σ vs).set j (some (.int ((0 : Int) + (i : Int))))) Hb _
      rw [show (0 : Int) + (i : Int) = (i : Int) from Int.zero_add _]
      refine he i Hb L' (ex_keep hG e12 k) hpa _ fun v Hc L2 k2 hpc hv => ⟨xs, k2 _ _ hDp hl, sz_lt (by omega), L2, xs ++ [v], (k.trans k2).own hD, ?_, upd_same, by simp [hlen], fun x hx => ?_⟩
      · unfold PlAt
        rw [upd_ne hDp.symm]
        exact hpc
      · rcases List.mem_append.mp hx with hx | hx
        · exact hP x hx
        · rw [List.mem_singleton.mp hx]
          exact hv
    · obtain ⟨L', xs, k, hpa, hl, hlen, hP⟩ := pv
      exact q _ H' L' (k2.trans k) hpa ⟨Dl, xs, rfl, hDp, hl, by omega, hP⟩⟩
/-- "".join of a made list of signs -/
theorem ek_joinD {m : Int} {S : List Nat} (hz : m ≤ 10000) (h : EvK p te σ G (fun v H2 => ∃ (a : Addr) (xs : List V), v = .ref a ∧ a ≠ p ∧ H2 a = some (.lst xs) ∧ (xs.length : Int) < m ∧ ∀ x ∈ xs, ∃ c ∈ S, x = V.str ⟨#[c]⟩)) :
    EvK p (tM1 (rJoin K) (tC (.str Str.empty)) te) σ G (fun v _ => ∃ cs : List Nat, v = .str ⟨cs.toArray⟩ ∧ (cs.length : Int) < m ∧ ∀ c ∈ cs, c ∈ S) := fun H1 L e hp Q q =>
  ⟨⟨_, rfl⟩, h H1 L e hp _ fun v H2 L2 k2 hp2 ⟨a, xs, hv, hne, hl, hn, hx⟩ => by
    exact (ek_join (K := K) (p := p) (te := fun _ H Q => Q (.ref a) H) (σ := σ) (G := del H2 p) (n := xs.length) (S := S) (by omega) (fun H3 L3 e3 hp3 Q3 q3 => q3 _ H3 L3 (Keep.refl _ _) hp3 ⟨a, xs, rfl, hne, e3 _ _ (by rw [del_ne hne]; exact hl), rfl, hx⟩) H2 L2 wo_ex hp2 Q
      fun v' H4 L4 k4 hp4 ⟨cs, e1, e2, e3⟩ => q v' H4 L4 (k2.trans k4) hp4 ⟨cs, e1, by omega, e3⟩).2.elim fun a' z => by
        obtain ⟨b, ys, h1, h2, h3⟩ := z
        exact ⟨a', b, ys, h1, by rw [hv]; exact h2, h3⟩⟩
/-- a call whose one argument is made -/
theorem ev_call1 {sp : Sp} {dvs : List V} {E : XK} {z : V} (h : EvD M te σ H d) (hs : ∀ v H1, Ex H H1 → At M H1 v d → SpV sp (v :: dvs) H1 z) : Ev (tCall sp dvs E (tCons te tNil)) σ H z := fun H1 e Q q =>
  h H1 e _ fun d' v H2 hd e2 a => by
    cases hd
    exact hs v H2 (e.trans e2) a H2 (Ex.refl _) Q (fun H3 e3 => q H3 (e2.trans e3)) E
theorem s_forNLn {xs : List V} {tl : TE} {j : Nat} {tu : TS} (h : EvL tl σ H xs) (Pv : Addr → Nat → L2.St → Hp → Prop) (h0 : ∀ p H1, H p = none → Ex H H1 → H1 p = some (.lst xs) → Pv p 0 σ H1) (hl : ∀ p i σ' H', i ≤ xs.length → Pv p i σ' H' → SqL K H' p xs)
    (hs : ∀ p i x σ' H', xs[i]? = some x → Pv p i σ' H' → tu { D with nx := Pv p (i + 1), ct := Pv p (i + 1), bk := D.nx } (σ'.set j (some x)) H') (hd : ∀ p σ' H', Pv p xs.length σ' H' → D.nx σ' H') : tFor (iList K tl) (gName j) tu D σ H := s_forNL h Pv h0 hl hs hd
/-- a text's part -/
theorem ev_slS {tl th : TO} {z : Str} {lo hi : Option Int} (h : Ev te σ H (.str z)) (hz : z.length ≤ 100000) (h1 : Evl.EvO tl σ H lo) (h2 : Evl.EvO th σ H hi) :
    Ev (tSl (fun x lo hi H Q => rSlL K x lo hi H Q ∨ (rSlS x lo hi H Q ∨ rSlT K x lo hi H Q)) te tl th) σ H (.str (cutS z lo hi)) := fun H1 e Q q =>
  h H1 e _ fun H2 e2 => h1 H2 (e.trans e2) _ fun H3 e3 => h2 H3 ((e.trans e2).trans e3) _ fun H4 e4 => .inr (.inl ⟨z, rfl, sz_of hz, q H4 ((e2.trans e3).trans e4)⟩)
end
end LK
set_option Elab.async false
set_option linter.all false
set_option maxRecDepth 100000
set_option maxHeartbeats 4000000
/-! Functions from data to data: their promise, and expressions read by data alone. -/
namespace LK
open PySem PySem.Spec PyProof.Rows L2 Evl TL
def spD1 (good : PyData → Prop) (F : PyData → PyData) : Sp := fun vs H Q _ => ∃ (M : Addr → Prop) (v : V) (d : PyData), vs = [v] ∧ At M H v d ∧ Trk M H ∧ good d ∧ ∀ v' H', Same H H' → At M H' v' (F d) → Q v' H'
def spD2 (good : PyData → PyData → Prop) (F : PyData → PyData → PyData) : Sp := fun vs H Q _ => ∃ (M : Addr → Prop) (v w : V) (d e : PyData), vs = [v, w] ∧ At M H v d ∧ At M H w e ∧ Trk M H ∧ good d e ∧ ∀ v' H', Same H H' → At M H' v' (F d e) → Q v' H'
section
variable {K : PySem.W.Frag} {σ : L2.St} {H : Hp} {te ta tb tl : TE} {tr : TA} {tt tu : TT} {M : Addr → Prop} {v : V} {d e a b : PyData} {ds es : List PyData} {D : Ends} {tz : TS} {E : XK}
theorem ed_call1 {good : PyData → Prop} {F : PyData → PyData} (h : EvD M te σ H d) (hM : Trk M H) (hg : good d) : EvD M (tCall (spD1 good F) [] E (tCons te tNil)) σ H (F d) := fun H1 e Q q =>
  h H1 e _ fun d' v H2 hd e2 a => by
    cases hd
    exact ⟨M, v, d, rfl, a, hM.same (e.trans e2), hg, fun v' H3 s3 a3 => q _ v' H3 rfl (e2.trans s3) a3⟩
theorem ed_call2 {good : PyData → PyData → Prop} {F : PyData → PyData → PyData} (h : EvD M ta σ H a) (h2 : EvD M tb σ H b) (hM : Trk M H) (hg : good a b) : EvD M (tCall (spD2 good F) [] E (tCons ta (tCons tb tNil))) σ H (F a b) := fun H1 e Q q =>
  h H1 e _ fun d' v H2 hd e2 a2 => by
    cases hd
    refine h2 H2 (e.trans e2) _ fun d' w H3 hd e3 a3 => ?_
    cases hd
    exact ⟨M, v, w, a, b, rfl, a2.ex e3, a3, hM.same ((e.trans e2).trans e3), hg, fun v' H4 s4 a4 => q _ v' H4 rfl ((e2.trans e3).trans s4) a4⟩
/-- an operator told by data -/
theorem ed_op {r : R2} (h : EvD M ta σ H a) (h2 : EvD M tb σ H b) (hr : ∀ x y H1, Ex H H1 → At M H1 x a → At M H1 y b → ∃ z, RV r x y H1 z ∧ At M H1 z d) : EvD M (tOp r ta tb) σ H d := fun H1 e Q q =>
  h H1 e _ fun d' v H2 hd e2 a2 => by
    cases hd
    refine h2 H2 (e.trans e2) _ fun d' w H3 hd e3 a3 => ?_
    cases hd
    obtain ⟨z, rv, az⟩ := hr v w H3 ((e.trans e2).trans e3) (a2.ex e3) a3
    exact rv H3 (Ex.refl _) _ fun H4 e4 => q _ z H4 rfl ((e2.trans e3).trans e4) (az.ex e4)
theorem At.str_inv {x : V} {s : Str} (h : At M H x (.str s)) : x = .str s ∧ s.length ≤ 100000 := by
  cases h with
  | str _ hl => exact ⟨rfl, hl⟩
theorem At.int_inv {x : V} {i : Int} (h : At M H x (.int i)) : x = .int i := by
  cases h
  rfl
theorem At.bl_inv {x : V} {i : Bool} (h : At M H x (.bool i)) : x = .bl i := by
  cases h
  rfl
theorem At.non_inv {x : V} (h : At M H x .none) : x = .non := by
  cases h
  rfl
theorem ed_ix {i : Int} (h : EvD M ta σ H a) (h2 : EvD M tb σ H (.int i)) (hs : isSeq a = true) (hi : atI (itemsD a) i = some d) : EvD M (tOp (rIx K) ta tb) σ H d :=
  ed_op h h2 fun x y H1 e ax ay => by
    rw [ay.int_inv]
    obtain ⟨p, xs, rfl, hq, rs⟩ := ax.seqOf (K := K) hs
    unfold atI at hi
    cases hn : ixN (itemsD a).length i with
    | none =>
      rw [hn] at hi
      cases hi
    | some n =>
      rw [hn] at hi
      obtain ⟨z, hz, az⟩ := rs.get' (i := n) hi
      refine ⟨z, rv_xA hq ?_, az⟩
      unfold atI
      rw [rs.len, hn]
      exact hz
theorem ed_eqS {s t : Str} (h : EvD M ta σ H (.str s)) (h2 : EvD M tb σ H (.str t)) : EvD M (tOp (rEqA K) ta tb) σ H (.bool (decide (s = t))) :=
  ed_op h h2 fun x y H1 e ax ay => by
    rw [ax.str_inv.1, ay.str_inv.1]
    refine ⟨.bl (decide (V.str s = .str t)), rv_eqS rfl, ?_⟩
    rw [show decide (V.str s = .str t) = decide (s = t) by simp]
    exact .bl _
theorem ed_neS {s t : Str} (h : EvD M ta σ H (.str s)) (h2 : EvD M tb σ H (.str t)) : EvD M (tOp (rNeA K) ta tb) σ H (.bool (!decide (s = t))) :=
  ed_op h h2 fun x y H1 e ax ay => by
    rw [ax.str_inv.1, ay.str_inv.1]
    refine ⟨.bl (!decide (V.str s = .str t)), rv_neS rfl, ?_⟩
    rw [show decide (V.str s = .str t) = decide (s = t) by simp]
    exact .bl _
theorem ed_eqI {s t : Int} (h : EvD M ta σ H (.int s)) (h2 : EvD M tb σ H (.int t)) : EvD M (tOp (rEqA K) ta tb) σ H (.bool (decide (s = t))) :=
  ed_op h h2 fun x y H1 e ax ay => by
    rw [ax.int_inv, ay.int_inv]
    refine ⟨.bl (decide (V.int s = .int t)), rv_eqS rfl, ?_⟩
    rw [show decide (V.int s = .int t) = decide (s = t) by simp]
    exact .bl _
theorem ed_isiS (h : EvD M ta σ H a) : EvD M (tCB (rIsi K) (tCons ta (tCons (tC (.ty "str")) tNil))) σ H (.bool (isStr a)) := fun H1 e Q q =>
  h H1 e _ fun d' v H2 hd e2 a2 => by
    cases hd
    exact rc_isiS a2 H2 (Ex.refl _) _ fun H3 e3 => q _ _ H3 rfl (e2.trans e3) (.bl _)
theorem ed_isiT (h : EvD M ta σ H a) : EvD M (tCB (rIsi K) (tCons ta (tCons (tC (.ty "tuple")) tNil))) σ H (.bool (isTup a)) := fun H1 e Q q =>
  h H1 e _ fun d' v H2 hd e2 a2 => by
    cases hd
    exact rc_isiT a2 H2 (Ex.refl _) _ fun H3 e3 => q _ _ H3 rfl (e2.trans e3) (.bl _)
theorem ed_len (h : EvD M ta σ H a) (hs : isSeq a = true := by rfl) : EvD M (tCB (rLen K) (tCons ta tNil)) σ H (.int ((itemsD a).length : Nat)) := fun H1 e Q q =>
  h H1 e _ fun d' v H2 hd e2 a2 => by
    cases hd
    obtain ⟨p, xs, rfl, hq, rs⟩ := a2.seqOf (K := K) hs
    exact rc_lenA hq H2 (Ex.refl _) _ fun H3 e3 => q _ _ H3 rfl (e2.trans e3) (by rw [rs.len]; exact .int _)
theorem ev_D {b : Bool} (h : EvD M te σ H (.bool b)) : Ev te σ H (.bl b) := fun H1 e Q q => h H1 e _ fun d' v H2 hd e2 a => by
  cases hd
  rw [a.bl_inv]
  exact q H2 e2
theorem ed_V {b : Bool} (h : Ev te σ H (.bl b)) : EvD M te σ H (.bool b) := eo_of h (.bl b)
theorem et_DT {b : Bool} (h : EvD M te σ H (.bool b)) : EvT (tTest te) σ H b := et_test (ev_D h)
theorem et_DB {b : Bool} (h : EvD M te σ H (.bool b)) : EvT (tB te) σ H b := et_B (ev_D h)
theorem et_D {b : Bool} (h : EvD M te σ H (.bool b)) : EvT (tTr K te) σ H b := et_tru (ev_D h) tr_bl
theorem ed_not {b : Bool} (h : EvD M te σ H (.bool b)) : EvD M (tNotV te) σ H (.bool (!b)) := ed_V (ev_notV (ev_D h))
theorem ed_and {b c : Bool} (h : EvD M ta σ H (.bool b)) (h2 : b = true → EvD M tb σ H (.bool c)) : EvD M (tAndV ta tb) σ H (.bool (b && c)) := ed_V (ev_andV (ev_D h) fun z => ev_D (h2 z))
theorem ed_or {b c : Bool} (h : EvD M ta σ H (.bool b)) (h2 : b = false → EvD M tb σ H (.bool c)) : EvD M (tOrV ta tb) σ H (.bool (b || c)) := ed_V (ev_orV (ev_D h) fun z => ev_D (h2 z))
/-- tuple + tuple -/
theorem ed_catT (ha : EvD M ta σ H (.tuple ds)) (hb : EvD M tb σ H (.tuple es)) (hM : Trk M H) (hz : ds.length + es.length ≤ 100000) : EvD M (tOp (rAddA K) ta tb) σ H (.tuple (ds ++ es)) := fun H1 e Q q =>
  ha H1 e _ fun d' x H2 hd e2 a => by
    cases hd
    refine hb H2 (e.trans e2) _ fun d' y H3 hd e3 b => ?_
    cases hd
    have a' := a.ex e3
    obtain ⟨p, xs, rfl, np, hp, r⟩ := a'.tup_inv
    obtain ⟨p', ys, rfl, np', hp', r'⟩ := b.tup_inv
    refine .inr (.inr (.inr ⟨p, p', xs, ys, rfl, rfl, .of hp, .of hp', sz_of (by rw [r.len, r'.len]; exact hz), fun z => ?_, fun z z2 => ?_, fun _ _ l hl => ?_⟩))
    · have : ds = [] := List.eq_nil_of_length_eq_zero (by rw [← r.len, z]; rfl)
      subst this
      exact q _ _ H3 rfl (e2.trans e3) b
    · have : es = [] := List.eq_nil_of_length_eq_zero (by rw [← r'.len, z2]; rfl)
      subst this
      rw [List.append_nil] at q
      exact q _ _ H3 rfl (e2.trans e3) a'
    · exact q _ (.ref l) _ rfl ((e2.trans e3).trans (Ex.new hl)) (.tup (Trk.fresh (hM.same ((e.trans e2).trans e3)) hl) upd_same ((r.ex (Ex.new hl)).append (r'.ex (Ex.new hl))))
/-- what is made by turns: an item is kept where t says so -/
theorem Ats.snoc {xs : List V} {x : V} (r : Ats M H xs ds) (h : At M H x d) : Ats M H (xs ++ [x]) (ds ++ [d]) := r.append (.one h)
/-- [e for t in a list or a tuple if ..], told by data -/
theorem ed_lcG {g : TG} {vs : List Nat} (t : PyData → Bool) (f : PyData → PyData) (h : EvD M tl σ H a) (hs : isSeq a = true) (hM : Trk M H) (hz : (itemsD a).length ≤ 40000)
    (hg : ∀ (M' : Addr → Prop) (x : V) (d : PyData) H1, Ex H H1 → d ∈ itemsD a → Trk M' H1 → At M' H1 x d → ∃ σ2, wipe σ2 vs = wipe σ vs ∧ (∀ Q : L2.St → Hp → Prop, Q σ2 H1 → g x (wipe σ vs) H1 Q) ∧ EvT tt σ2 H1 (t d) ∧ (t d = true → EvD M' te σ2 H1 (f d))) :
    EvD M (tLc (iSeq K tl) g tt te vs) σ H (.list (((itemsD a).filter t).map f)) := fun H0 e Q q => h H0 e _ fun d' v H1 hd e1 a1 => by
  cases hd
  obtain ⟨p, xs, rfl, hq, r⟩ := a1.seqOf (K := K) hs
  have e01 := e.trans e1
  have fin : ∀ Dl, H1 Dl = none → ∀ H', (Ex H1 H' ∧ ∃ ws, H' Dl = some (.lst ws) ∧ Ats (And1 M Dl) H' ws ((((itemsD a).take xs.length).filter t).map f)) → Q (.ref Dl) H' := fun Dl hD H' ⟨e3, ws, hws, aws⟩ => by
    rw [r.len, List.take_length] at aws
    exact q _ (.ref Dl) H' rfl (e1.trans e3) (.lst (Trk.fresh (hM.same e01) hD) hws (aws.weak fun _ z => .inl z))
  have stp : ∀ Dl, H1 Dl = none → ∀ i x Ha Hb, i < xs.length → (Ex H1 Ha ∧ ∃ ws, Ha Dl = some (.lst ws) ∧ Ats (And1 M Dl) Ha ws ((((itemsD a).take i).filter t).map f)) → YAt xs i Ha x Hb →
      g x (wipe σ vs) Hb fun σ2 H2 => wipe σ2 vs = wipe σ vs ∧ tt σ2 H2 fun b H3 => if b = true then te σ2 H3 fun y H4 => ∃ acc, H4 Dl = some (.lst acc) ∧ acc.length < sizeLine ∧
        (Ex H1 (upd H4 Dl (.lst (acc ++ [y]))) ∧ ∃ ws, upd H4 Dl (.lst (acc ++ [y])) Dl = some (.lst ws) ∧ Ats (And1 M Dl) (upd H4 Dl (.lst (acc ++ [y]))) ws ((((itemsD a).take (i + 1)).filter t).map f)) else
        (Ex H1 H3 ∧ ∃ ws, H3 Dl = some (.lst ws) ∧ Ats (And1 M Dl) H3 ws ((((itemsD a).take (i + 1)).filter t).map f)) := fun Dl hD i x Ha Hb hi ⟨e3, ws, hws, aws⟩ y => by
    obtain ⟨rfl, hx⟩ := y
    have rD : Ats (And1 M Dl) H1 xs (itemsD a) := r.add hD
    obtain ⟨di, hdi, ai⟩ := rD.get hx
    obtain ⟨σ2, h1, h2, h3, h4⟩ := hg (And1 M Dl) x di Hb (e01.trans e3) (List.mem_of_getElem? hdi) ((hM.same (e01.trans e3)).add hws) (ai.ex e3)
    refine h2 _ ⟨h1, h3 Hb (Ex.refl _) _ fun H3 e4 => ?_⟩
    have hlen : ws.length < 100000 := by
      rw [aws.len, List.length_map]
      have := List.length_filter_le t ((itemsD a).take i)
      rw [List.length_take] at this
      omega
    rw [List.take_add_one, hdi, Option.toList_some, List.filter_append, List.map_append]
    cases ht : t di with
    | false =>
      rw [if_neg Bool.false_ne_true]
      refine ⟨e3.trans e4, ws, e4 _ _ hws, ?_⟩
      rw [List.filter_cons, if_neg (by rw [ht]; simp), List.filter_nil, List.map_nil, List.append_nil]
      exact aws.ex e4
    | true =>
      rw [if_pos rfl]
      refine h4 ht H3 e4 _ fun d' y H4 hd e5 ay => ⟨ws, e5 _ _ (e4 _ _ hws), sz_lt hlen, Ex.mut ((e3.trans e4).trans e5) hD, ws ++ [y], upd_same, ?_⟩
      cases hd
      have kp : Keep (And1 M Dl) H4 (upd H4 Dl (.lst (ws ++ [y]))) := (Keep.refl _ _).put (.inr rfl)
      rw [List.filter_cons, if_pos ht, List.filter_nil, List.map_cons, List.map_nil]
      exact ((aws.ex (e4.trans e5)).keep kp).append (.one (ay.keep kp))
  rcases hq with hq | hq
  · exact ⟨p, rfl, .inl ⟨⟨xs, hq⟩, fun Dl hD => lc_it walk_list (fun i H' => Ex H1 H' ∧ ∃ ws, H' Dl = some (.lst ws) ∧ Ats (And1 M Dl) H' ws ((((itemsD a).take i).filter t).map f)) ⟨Ex.new hD, [], upd_same, .nil⟩ (fun i H' _ pv => ex_l pv.1 hq) (stp Dl hD) (fin Dl hD)⟩⟩
  · exact ⟨p, rfl, .inr ⟨⟨xs, hq⟩, fun Dl hD => lc_it walk_tup (fun i H' => Ex H1 H' ∧ ∃ ws, H' Dl = some (.lst ws) ∧ Ats (And1 M Dl) H' ws ((((itemsD a).take i).filter t).map f)) ⟨Ex.new hD, [], upd_same, .nil⟩ (fun i H' _ pv => ex_t pv.1 hq) (stp Dl hD) (fin Dl hD)⟩⟩
/-- the same, the items told by things of another sort -/
theorem ed_lcA {α : Type} {as : List α} {gd : α → PyData} {g : TG} {vs : List Nat} (t : α → Bool) (f : α → PyData) (h : EvD M tl σ H a) (hs : isSeq a = true) (ha : itemsD a = as.map gd) (hM : Trk M H) (hz : as.length ≤ 40000)
    (hg : ∀ (M' : Addr → Prop) (x : V) (y : α) H1, Ex H H1 → y ∈ as → Trk M' H1 → At M' H1 x (gd y) → ∃ σ2, wipe σ2 vs = wipe σ vs ∧ (∀ Q : L2.St → Hp → Prop, Q σ2 H1 → g x (wipe σ vs) H1 Q) ∧ EvT tt σ2 H1 (t y) ∧ (t y = true → EvD M' te σ2 H1 (f y))) :
    EvD M (tLc (iSeq K tl) g tt te vs) σ H (.list ((as.filter t).map f)) := fun H0 e Q q => h H0 e _ fun d' v H1 hd e1 a1 => by
  cases hd
  obtain ⟨p, xs, rfl, hq, r⟩ := a1.seqOf (K := K) hs
  rw [ha] at r
  have e01 := e.trans e1
  have fin : ∀ Dl, H1 Dl = none → ∀ H', (Ex H1 H' ∧ ∃ ws, H' Dl = some (.lst ws) ∧ Ats (And1 M Dl) H' ws (((as.take xs.length).filter t).map f)) → Q (.ref Dl) H' := fun Dl hD H' ⟨e3, ws, hws, aws⟩ => by
    rw [r.len, List.length_map, List.take_length] at aws
    exact q _ (.ref Dl) H' rfl (e1.trans e3) (.lst (Trk.fresh (hM.same e01) hD) hws (aws.weak fun _ z => .inl z))
  have stp : ∀ Dl, H1 Dl = none → ∀ i x Ha Hb, i < xs.length → (Ex H1 Ha ∧ ∃ ws, Ha Dl = some (.lst ws) ∧ Ats (And1 M Dl) Ha ws (((as.take i).filter t).map f)) → YAt xs i Ha x Hb →
      g x (wipe σ vs) Hb fun σ2 H2 => wipe σ2 vs = wipe σ vs ∧ tt σ2 H2 fun b H3 => if b = true then te σ2 H3 fun y H4 => ∃ acc, H4 Dl = some (.lst acc) ∧ acc.length < sizeLine ∧
        (Ex H1 (upd H4 Dl (.lst (acc ++ [y]))) ∧ ∃ ws, upd H4 Dl (.lst (acc ++ [y])) Dl = some (.lst ws) ∧ Ats (And1 M Dl) (upd H4 Dl (.lst (acc ++ [y]))) ws (((as.take (i + 1)).filter t).map f)) else
        (Ex H1 H3 ∧ ∃ ws, H3 Dl = some (.lst ws) ∧ Ats (And1 M Dl) H3 ws (((as.take (i + 1)).filter t).map f)) := fun Dl hD i x Ha Hb hi ⟨e3, ws, hws, aws⟩ y => by
    obtain ⟨rfl, hx⟩ := y
    have rD : Ats (And1 M Dl) H1 xs (as.map gd) := r.add hD
    obtain ⟨di, hdi, ai⟩ := rD.get hx
    rw [List.getElem?_map] at hdi
    obtain ⟨yi, hyi, rfl⟩ := Option.map_eq_some_iff.mp hdi
    obtain ⟨σ2, h1, h2, h3, h4⟩ := hg (And1 M Dl) x yi Hb (e01.trans e3) (List.mem_of_getElem? hyi) ((hM.same (e01.trans e3)).add hws) (ai.ex e3)
    refine h2 _ ⟨h1, h3 Hb (Ex.refl _) _ fun H3 e4 => ?_⟩
    have hlen : ws.length < 100000 := by
      rw [aws.len, List.length_map]
      have := List.length_filter_le t (as.take i)
      rw [List.length_take] at this
      omega
    rw [List.take_add_one, hyi, Option.toList_some, List.filter_append, List.map_append]
    cases ht : t yi with
    | false =>
      rw [if_neg Bool.false_ne_true]
      refine ⟨e3.trans e4, ws, e4 _ _ hws, ?_⟩
      rw [List.filter_cons, if_neg (by rw [ht]; simp), List.filter_nil, List.map_nil, List.append_nil]
      exact aws.ex e4
    | true =>
      rw [if_pos rfl]
      refine h4 ht H3 e4 _ fun d' y H4 hd e5 ay => ⟨ws, e5 _ _ (e4 _ _ hws), sz_lt hlen, Ex.mut ((e3.trans e4).trans e5) hD, ws ++ [y], upd_same, ?_⟩
      cases hd
      have kp : Keep (And1 M Dl) H4 (upd H4 Dl (.lst (ws ++ [y]))) := (Keep.refl _ _).put (.inr rfl)
      rw [List.filter_cons, if_pos ht, List.filter_nil, List.map_cons, List.map_nil]
      exact ((aws.ex (e4.trans e5)).keep kp).append (.one (ay.keep kp))
  rcases hq with hq | hq
  · exact ⟨p, rfl, .inl ⟨⟨xs, hq⟩, fun Dl hD => lc_it walk_list (fun i H' => Ex H1 H' ∧ ∃ ws, H' Dl = some (.lst ws) ∧ Ats (And1 M Dl) H' ws (((as.take i).filter t).map f)) ⟨Ex.new hD, [], upd_same, .nil⟩ (fun i H' _ pv => ex_l pv.1 hq) (stp Dl hD) (fin Dl hD)⟩⟩
  · exact ⟨p, rfl, .inr ⟨⟨xs, hq⟩, fun Dl hD => lc_it walk_tup (fun i H' => Ex H1 H' ∧ ∃ ws, H' Dl = some (.lst ws) ∧ Ats (And1 M Dl) H' ws (((as.take i).filter t).map f)) ⟨Ex.new hD, [], upd_same, .nil⟩ (fun i H' _ pv => ex_t pv.1 hq) (stp Dl hD) (fin Dl hD)⟩⟩
/-- all of them -/
theorem ed_lcB {α : Type} {as : List α} {gd : α → PyData} {g : TG} {vs : List Nat} (f : α → PyData) (h : EvD M tl σ H a) (hs : isSeq a = true) (ha : itemsD a = as.map gd) (hM : Trk M H) (hz : as.length ≤ 40000)
    (hg : ∀ (M' : Addr → Prop) (x : V) (y : α) H1, Ex H H1 → y ∈ as → Trk M' H1 → At M' H1 x (gd y) → ∃ σ2, wipe σ2 vs = wipe σ vs ∧ (∀ Q : L2.St → Hp → Prop, Q σ2 H1 → g x (wipe σ vs) H1 Q) ∧ EvD M' te σ2 H1 (f y)) :
    EvD M (tLc (iSeq K tl) g tYes te vs) σ H (.list (as.map f)) := by
  have z := ed_lcA (K := K) (tt := tYes) (te := te) (g := g) (vs := vs) (fun _ => true) f h hs ha hM hz fun M' x y H1 e hy hM' ax => (let ⟨σ2, h1, h2, h3⟩ := hg M' x y H1 e hy hM' ax; ⟨σ2, h1, h2, et_yes, fun _ => h3⟩)
  rw [List.filter_eq_self.mpr (fun _ _ => rfl)] at z
  exact z
/-- a function of things of any sort -/
def spX {α : Type} (dom : α → List PyData) (good : α → Prop) (F : α → PyData) : Sp := fun vs H Q _ => ∃ (M : Addr → Prop) (x : α), Ats M H vs (dom x) ∧ Trk M H ∧ good x ∧ ∀ v' H', Same H H' → At M H' v' (F x) → Q v' H'
theorem ed_callX {α : Type} {dom : α → List PyData} {good : α → Prop} {F : α → PyData} (x : α) (h : EvDs M tr σ H (dom x)) (hM : Trk M H) (hg : good x) : EvD M (tCall (spX dom good F) [] E tr) σ H (F x) := fun H1 e Q q =>
  h H1 e _ fun ds vs H2 hd e2 a => by
    cases hd
    rw [List.append_nil]
    exact ⟨M, x, a, hM.same (e.trans e2), hg, fun v' H3 s3 a3 => q _ v' H3 rfl (e2.trans s3) a3⟩
/-! ### a list of one's own that grows -/
def OutAt (M : Addr → Prop) (q : Addr) (H : Hp) (acc : List PyData) : Prop := ∃ ws, H q = some (.lst ws) ∧ Ats (And1 M q) H ws acc
theorem out_new {q : Addr} (h : H q = some (.lst [])) : OutAt M q H [] := ⟨[], h, .nil⟩
theorem OutAt.ex {q : Addr} {acc : List PyData} {H1 : Hp} (o : OutAt M q H acc) (e : Ex H H1) : OutAt M q H1 acc := let ⟨ws, h, a⟩ := o; ⟨ws, e _ _ h, a.ex e⟩
theorem OutAt.trk {q : Addr} {acc : List PyData} {G : Hp} (o : OutAt M q H acc) (t : Trk M G) (e : Ex G H) : Trk (And1 M q) H := let ⟨ws, h, a⟩ := o; (t.same e).add h
section
variable {q : Addr} {acc : List PyData} {G : Hp}
theorem q_appD {i : Nat} (hi : σ[i]? = some (some (.ref q))) (hq : G q = none) (e : Ex G H) (o : OutAt M q H acc) (h : EvD (And1 M q) te σ H d) (hz : acc.length < 100000)
    (k : ∀ H1, Ex G H1 → OutAt M q H1 (acc ++ [d]) → tz D σ H1) : tSeq (tDrop (tBM K "list" rAppend (tVar i) (tCons te tNil))) tz D σ H := by
  obtain ⟨ws, hw, aw⟩ := o
  refine ⟨_, hi, .inl ⟨rfl, ws, .of hw⟩, h H (Ex.refl H) _ fun d' v H2 hd e2 a2 => ?_⟩
  cases hd
  have kp : Keep (And1 M q) H2 (upd H2 q (.lst (ws ++ [v]))) := (Keep.refl _ _).put (.inr rfl)
  exact ⟨q, ws, v, rfl, rfl, e2 _ _ hw, sz_lt (by rw [aw.len]; exact hz), k _ (Ex.mut (e.trans e2) hq) ⟨_, upd_same, ((aw.ex e2).keep kp).append (.one (a2.keep kp))⟩⟩
theorem s_extD {i : Nat} (hi : σ[i]? = some (some (.ref q))) (hq : G q = none) (e : Ex G H) (o : OutAt M q H acc) (h : EvD (And1 M q) te σ H (.list ds)) (hz : acc.length + ds.length ≤ 100000)
    (k : ∀ H1, Ex G H1 → OutAt M q H1 (acc ++ ds) → D.nx σ H1) : tDrop (tBM K "list" rExtend (tVar i) (tCons te tNil)) D σ H := by
  obtain ⟨ws, hw, aw⟩ := o
  refine ⟨_, hi, .inl ⟨rfl, ws, .of hw⟩, h H (Ex.refl H) _ fun d' v H2 hd e2 a2 => ?_⟩
  cases hd
  obtain ⟨b, zs, rfl, nb, hb, rb⟩ := a2.lst_inv
  have kp : Keep (And1 M q) H2 (upd H2 q (.lst (ws ++ zs))) := (Keep.refl _ _).put (.inr rfl)
  exact ⟨q, b, ws, zs, rfl, rfl, e2 _ _ hw, hb, sz_of (by rw [aw.len, rb.len]; exact hz), k _ (Ex.mut (e.trans e2) hq) ⟨_, upd_same, ((aw.ex e2).keep kp).append (rb.keep kp)⟩⟩
theorem q_extD {i : Nat} (hi : σ[i]? = some (some (.ref q))) (hq : G q = none) (e : Ex G H) (o : OutAt M q H acc) (h : EvD (And1 M q) te σ H (.list ds)) (hz : acc.length + ds.length ≤ 100000)
    (k : ∀ H1, Ex G H1 → OutAt M q H1 (acc ++ ds) → tz D σ H1) : tSeq (tDrop (tBM K "list" rExtend (tVar i) (tCons te tNil))) tz D σ H := s_extD (D := { D with nx := tz D }) hi hq e o h hz k
/-- return tuple(out) -/
theorem s_retOut {i : Nat} (hi : σ[i]? = some (some (.ref q))) (e : Ex G H) (t : Trk M G) (o : OutAt M q H acc) (k : ∀ v H1, Ex G H1 → At M H1 v (.tuple acc) → D.rt v H1) : tRet (tCB (rTupOf K) (tCons (tVar i) tNil)) D σ H := by
  obtain ⟨ws, hw, aw⟩ := o
  exact ⟨_, hi, q, ws, rfl, .inl ⟨.of hw, fun l hl => k _ _ (e.trans (Ex.new hl)) (.tup (Trk.fresh (t.same e) hl) upd_same ((aw.ex (Ex.new hl)).weak fun _ z => .inl z))⟩⟩
end
/-- a tuple of targets, the written part named -/
theorem pgTup {X : Cx} {es : List Expr} {n k : Nat} {pos : Pos} {t : TGs} (hc : X.calm = true) (h : PGs X es t) (hK : X.K = K := by rfl)
    (hn : (assignEach es X.env).length = n := by rfl) (hst : (assignEach es X.env).findIdx? (·.1) = none := by rfl) : PG X (.Tuple es k pos) (gTup K n t) := by
  subst hK
  exact pg_tup hc h hn hst
/-- a name takes the item -/
theorem tk_name {j : Nat} {x : V} {σ0 : L2.St} {H : Hp} : ∀ Q : L2.St → Hp → Prop, Q (σ0.set j (some x)) H → gName j x σ0 H Q := fun _ q => q
/-- two names take a pair apart -/
theorem tk_two {i j : Nat} {x : V} {σ0 : L2.St} {c d : PyData} (hx : At M H x (.tuple [c, d])) : ∃ y z, At M H y c ∧ At M H z d ∧ ∀ Q : L2.St → Hp → Prop, Q ((σ0.set i (some y)).set j (some z)) H → gTup K 2 (gCons (gName i) (gCons (gName j) gNil)) x σ0 H Q := by
  obtain ⟨p, xs, rfl, np, hp, r⟩ := hx.tup_inv
  cases r with
  | cons h1 r => cases r with
    | cons h2 r =>
    cases r
    exact ⟨_, _, h1, h2, fun Q q => ⟨p, _, rfl, .of hp, rfl, _, _, rfl, _, _, rfl, rfl, q⟩⟩
theorem ed_lcN {α : Type} {as : List α} {gd : α → PyData} {j : Nat} {vs : List Nat} (f : α → PyData) (h : EvD M tl σ H a) (hs : isSeq a = true) (ha : itemsD a = as.map gd) (hM : Trk M H) (hz : as.length ≤ 40000)
    (hw : ∀ x, wipe ((wipe σ vs).set j (some x)) vs = wipe σ vs)
    (hg : ∀ (M' : Addr → Prop) (x : V) (y : α) H1, Ex H H1 → y ∈ as → Trk M' H1 → At M' H1 x (gd y) → EvD M' te ((wipe σ vs).set j (some x)) H1 (f y)) : EvD M (tLc (iSeq K tl) (gName j) tYes te vs) σ H (.list (as.map f)) :=
  ed_lcB f h hs ha hM hz fun M' x y H1 e hy hM' ax => ⟨_, hw x, tk_name, hg M' x y H1 e hy hM' ax⟩
/-- two names for each -/
theorem ed_lcT {α : Type} {as : List α} {gd : α → PyData} {g1 g2 : α → PyData} {i j : Nat} {vs : List Nat} (f : α → PyData) (h : EvD M tl σ H a) (hs : isSeq a = true) (ha : itemsD a = as.map gd) (hp : ∀ y, gd y = .tuple [g1 y, g2 y]) (hM : Trk M H) (hz : as.length ≤ 40000)
    (hw : ∀ x y, wipe (((wipe σ vs).set i (some x)).set j (some y)) vs = wipe σ vs)
    (hg : ∀ (M' : Addr → Prop) (x x2 : V) (y : α) H1, Ex H H1 → y ∈ as → Trk M' H1 → At M' H1 x (g1 y) → At M' H1 x2 (g2 y) → EvD M' te (((wipe σ vs).set i (some x)).set j (some x2)) H1 (f y)) :
    EvD M (tLc (iSeq K tl) (gTup K 2 (gCons (gName i) (gCons (gName j) gNil))) tYes te vs) σ H (.list (as.map f)) :=
  ed_lcB f h hs ha hM hz fun M' x y H1 e hy hM' ax => by
    rw [hp] at ax
    obtain ⟨x1, x2, a1, a2, tk⟩ := tk_two (K := K) (i := i) (j := j) (σ0 := wipe σ vs) ax
    exact ⟨_, hw x1 x2, tk, hg M' x1 x2 y H1 e hy hM' a1 a2⟩
/-- the same, those that t lets by -/
theorem ed_lcTt {α : Type} {as : List α} {gd : α → PyData} {g1 g2 : α → PyData} {i j : Nat} {vs : List Nat} (t : α → Bool) (f : α → PyData) (h : EvD M tl σ H a) (hs : isSeq a = true) (ha : itemsD a = as.map gd) (hp : ∀ y, gd y = .tuple [g1 y, g2 y]) (hM : Trk M H) (hz : as.length ≤ 40000)
    (hw : ∀ x y, wipe (((wipe σ vs).set i (some x)).set j (some y)) vs = wipe σ vs)
    (hg : ∀ (M' : Addr → Prop) (x x2 : V) (y : α) H1, Ex H H1 → y ∈ as → Trk M' H1 → At M' H1 x (g1 y) → At M' H1 x2 (g2 y) → EvT tt (((wipe σ vs).set i (some x)).set j (some x2)) H1 (t y) ∧ EvD M' te (((wipe σ vs).set i (some x)).set j (some x2)) H1 (f y)) :
    EvD M (tLc (iSeq K tl) (gTup K 2 (gCons (gName i) (gCons (gName j) gNil))) tt te vs) σ H (.list ((as.filter t).map f)) :=
  ed_lcA t f h hs ha hM hz fun M' x y H1 e hy hM' ax => by
    rw [hp] at ax
    obtain ⟨x1, x2, a1, a2, tk⟩ := tk_two (K := K) (i := i) (j := j) (σ0 := wipe σ vs) ax
    have z := hg M' x1 x2 y H1 e hy hM' a1 a2
    exact ⟨_, hw x1 x2, tk, z.1, fun _ => z.2⟩
theorem ats_bools {α : Type} {p : α → Bool} {H : Hp} : ∀ {ds : List α} {xs : List V}, Ats M H xs (ds.map fun d => PyData.bool (p d)) → xs = (ds.map p).map V.bl
  | [], _, .nil => rfl
  | _ :: _, _, .cons h r => by
    rw [h.bl_inv, ats_bools r]
    rfl
/-- any([..]) of what is told -/
theorem ed_any {α : Type} {as : List α} {p : α → Bool} (h : EvD M te σ H (.list (as.map fun d => .bool (p d)))) : EvD M (tCB (rAny K) (tCons te tNil)) σ H (.bool (as.any p)) := fun H1 e Q q =>
  h H1 e _ fun d' v H2 hd e2 a => by
    cases hd
    obtain ⟨a', xs, rfl, _, ha, r⟩ := a.lst_inv
    refine ⟨a', as.map p, rfl, .of ?_, ?_⟩
    · rw [ha, ats_bools r]
    · rw [show (as.map p).any id = as.any p by rw [List.any_map]; rfl]
      exact q _ _ H2 rfl e2 (.bl _)
theorem Ats.drop : ∀ {vs : List V} {ds : List PyData} (n : Nat), Ats M H vs ds → Ats M H (vs.drop n) (ds.drop n)
  | _, _, 0, h => h
  | _, _, _ + 1, .nil => .nil
  | _, _, n + 1, .cons _ r => Ats.drop n r
theorem Ats.take : ∀ {vs : List V} {ds : List PyData} (n : Nat), Ats M H vs ds → Ats M H (vs.take n) (ds.take n)
  | _, _, 0, _ => .nil
  | _, _, _ + 1, .nil => .nil
  | _, _, n + 1, .cons h r => .cons h (Ats.take n r)
/-- t[lo:], t[:hi] of data, not the whole -/
theorem ed_slT {tl' th' : TO} {lo hi : Option Int} (h : EvD M te σ H (.tuple ds)) (hM : Trk M H) (h1 : Evl.EvO tl' σ H lo) (h2 : Evl.EvO th' σ H hi) (hz : ds.length ≤ 100000) (hn : ¬ (HT.sIx ds.length 0 lo = 0 ∧ HT.sIx ds.length ds.length hi = ds.length)) :
    EvD M (tSl (fun x lo hi H Q => rSlL K x lo hi H Q ∨ (rSlS x lo hi H Q ∨ rSlT K x lo hi H Q)) te tl' th') σ H (.tuple ((ds.drop (HT.sIx ds.length 0 lo)).take (HT.sIx ds.length ds.length hi - HT.sIx ds.length 0 lo))) := fun H1 e Q q =>
  h H1 e _ fun d' v H2 hd e2 a => by
    cases hd
    refine h1 H2 (e.trans e2) _ fun H3 e3 => h2 H3 ((e.trans e2).trans e3) _ fun H4 e4 => ?_
    obtain ⟨p, xs, rfl, np, hp, r⟩ := (a.ex (e3.trans e4)).tup_inv
    have hl := r.len
    rw [← hl] at hn
    refine .inr (.inr ⟨p, xs, rfl, .of hp, hn, fun l hf => q _ (.ref l) _ rfl (((e2.trans e3).trans e4).trans (Ex.new hf)) (.tup (Trk.fresh (hM.same (((e.trans e2).trans e3).trans e4)) hf) upd_same (Ats.ex (Ex.new hf) ?_))⟩)
    unfold cutV
    rw [hl]
    exact (r.drop _).take _
end
end LK
set_option Elab.async false
set_option linter.all false
set_option maxRecDepth 100000
set_option maxHeartbeats 4000000
/-! Kinds as trees: places of lists, flat paths, what is reached, words; plain Lean. -/
namespace LK
open PySem
abbrev S (s : String) : PyData := .str s
abbrev T2 (a b : PyData) : PyData := .tuple [a, b]
abbrev T3 (a b c : PyData) : PyData := .tuple [a, b, c]
mutual
inductive Kd where
  | base (s : Str)
  | any (i : Int)
  | lst (k : Kd)
  | fn (a b : Kd)
  | rcd (ls : Kl)
inductive Kl where
  | nil
  | cons (l : Str) (k : Kd) (r : Kl)
end
mutual
def Kd.D : Kd → PyData
  | .base s => .str s
  | .any i => T2 (S "any") (.int i)
  | .lst k => T2 (S "list") k.D
  | .fn a b => T3 (S "function") a.D b.D
  | .rcd ls => T2 (S "record") (.tuple ls.Ds)
def Kl.Ds : Kl → List PyData
  | .nil => []
  | .cons l k r => T2 (.str l) k.D :: r.Ds
end
def Kl.toL : Kl → List (Str × Kd)
  | .nil => []
  | .cons l k r => (l, k) :: r.toL
def coupD (p : Str × Kd) : PyData := T2 (.str p.1) p.2.D
theorem Kl.Ds_eq : ∀ ls : Kl, ls.Ds = ls.toL.map coupD
  | .nil => rfl
  | .cons l k r => by rw [Kl.Ds, Kl.toL, List.map_cons, Kl.Ds_eq r]; rfl
mutual
def Kd.dep : Kd → Nat
  | .base _ => 0
  | .any _ => 0
  | .lst k => k.dep + 1
  | .fn a b => max a.dep b.dep + 1
  | .rcd ls => ls.dep + 1
def Kl.dep : Kl → Nat
  | .nil => 0
  | .cons _ k r => max k.dep r.dep
end
mutual
def Kd.sz : Kd → Nat
  | .base _ => 1
  | .any _ => 1
  | .lst k => k.sz + 1
  | .fn a b => a.sz + b.sz + 1
  | .rcd ls => ls.sz + 1
def Kl.sz : Kl → Nat
  | .nil => 0
  | .cons _ k r => k.sz + r.sz
end
mutual
def Kd.wf : Kd → Prop
  | .base s => isBaseS s = true
  | .any i => 0 ≤ i
  | .lst k => k.wf
  | .fn a b => a.wf ∧ b.wf
  | .rcd ls => ls.wf ∧ ls.toL.length ≤ 5 ∧ (ls.toL.map fun p => p.1.cps.toList).Pairwise (· < ·)
def Kl.wf : Kl → Prop
  | .nil => True
  | .cons l k r => nameL l.cps.toList = true ∧ l ≠ "q" ∧ k.wf ∧ r.wf
end
theorem Kl.mem_dep : ∀ {ls : Kl} {p : Str × Kd}, p ∈ ls.toL → p.2.dep ≤ ls.dep
  | .cons l k r, p, h => by
    rw [Kl.toL] at h
    rw [Kl.dep]
    rcases List.mem_cons.mp h with rfl | h
    · exact Nat.le_max_left _ _
    · exact Nat.le_trans (Kl.mem_dep h) (Nat.le_max_right _ _)
theorem Kl.mem_sz : ∀ {ls : Kl} {p : Str × Kd}, p ∈ ls.toL → p.2.sz ≤ ls.sz
  | .cons l k r, p, h => by
    rw [Kl.toL] at h
    rw [Kl.sz]
    rcases List.mem_cons.mp h with rfl | h
    · exact Nat.le_add_right _ _
    · exact Nat.le_trans (Kl.mem_sz h) (Nat.le_add_left _ _)
theorem Kl.mem_wf : ∀ {ls : Kl} {p : Str × Kd}, ls.wf → p ∈ ls.toL → nameL p.1.cps.toList = true ∧ p.1 ≠ "q" ∧ p.2.wf
  | .cons l k r, p, w, h => by
    rw [Kl.toL] at h
    rw [Kl.wf] at w
    rcases List.mem_cons.mp h with rfl | h
    · exact ⟨w.1, w.2.1, w.2.2.1⟩
    · exact Kl.mem_wf w.2.2.2 h
/-! ### words within -/
mutual
def Kd.has (w : Str) : Kd → Bool
  | .base _ => false
  | .any _ => decide (("any" : Str) = w)
  | .lst k => decide (("list" : Str) = w) || k.has w
  | .fn a b => decide (("function" : Str) = w) || (a.has w || b.has w)
  | .rcd ls => decide (("record" : Str) = w) || ls.has w
def Kl.has (w : Str) : Kl → Bool
  | .nil => false
  | .cons _ k r => k.has w || r.has w
end
theorem Kl.has_eq (w : Str) : ∀ ls : Kl, ls.has w = ls.toL.any fun p => p.2.has w
  | .nil => rfl
  | .cons l k r => by rw [Kl.has, Kl.toL, List.any_cons, Kl.has_eq w r]
/-! ### places -/
def stD (st : List Str) : PyData := .tuple (st.map .str)
mutual
def Kd.lp : Kd → List (List Str)
  | .base _ => []
  | .any _ => []
  | .lst k => [] :: k.lp.map (("*" : Str) :: ·)
  | .fn _ _ => []
  | .rcd ls => ls.lp
def Kl.lp : Kl → List (List Str)
  | .nil => []
  | .cons l k r => k.lp.map (l :: ·) ++ r.lp
end
mutual
def Kd.fp : Kd → List (List Str)
  | .base _ => [[]]
  | .any _ => []
  | .lst _ => []
  | .fn _ _ => []
  | .rcd ls => ls.fp
def Kl.fp : Kl → List (List Str)
  | .nil => []
  | .cons l k r => k.fp.map (l :: ·) ++ r.fp
end
mutual
def Kd.rc : Kd → List Str → List (List Str × Kd)
  | .base s, st => [(st, .base s)]
  | .any i, st => [(st, .any i)]
  | .lst k, st => (st, .lst k) :: k.rc (st ++ [("*" : Str)])
  | .fn a b, st => [(st, .fn a b)]
  | .rcd ls, st => (st, .rcd ls) :: ls.rc st
def Kl.rc : Kl → List Str → List (List Str × Kd)
  | .nil, _ => []
  | .cons l k r, st => k.rc (st ++ [l]) ++ r.rc st
end
def Kd.isLst : Kd → Bool
  | .lst _ => true
  | _ => false
def Kd.isB : Kd → Bool
  | .base _ => true
  | _ => false
mutual
theorem Kd.rc_lp : ∀ (k : Kd) (st : List Str), ((k.rc st).filter fun p => p.2.isLst).map (·.1) = k.lp.map (st ++ ·)
  | .base _, _ => rfl
  | .any _, _ => rfl
  | .lst k, st => by
    rw [Kd.rc, Kd.lp, List.filter_cons, if_pos (show (Kd.lst k).isLst = true from rfl), List.map_cons, Kd.rc_lp k, List.map_cons, List.append_nil, List.map_map]
    congr 1
    refine List.map_congr_left fun a _ => ?_
    simp
  | .fn _ _, _ => rfl
  | .rcd ls, st => by
    rw [Kd.rc, Kd.lp, List.filter_cons, if_neg (by simp [Kd.isLst]), Kl.rc_lp ls]
theorem Kl.rc_lp : ∀ (k : Kl) (st : List Str), ((k.rc st).filter fun p => p.2.isLst).map (·.1) = k.lp.map (st ++ ·)
  | .nil, _ => rfl
  | .cons l k r, st => by
    rw [Kl.rc, Kl.lp, List.filter_append, List.map_append, Kd.rc_lp k, Kl.rc_lp r, List.map_append, List.map_map]
    congr 1
    refine List.map_congr_left fun a _ => ?_
    simp
end
def flatP (p : List Str × Kd) : Bool := p.2.isB && !decide (("*" : Str) ∈ p.1)
mutual
theorem Kd.rc_star : ∀ (k : Kd) (st : List Str), ("*" : Str) ∈ st → (k.rc st).filter flatP = []
  | .base _, st, h => by simp [Kd.rc, flatP, h]
  | .any _, st, h => by simp [Kd.rc, flatP, h]
  | .lst k, st, h => by
    rw [Kd.rc, List.filter_cons, if_neg (by simp [flatP, h]), Kd.rc_star k _ (by simp [h])]
  | .fn _ _, st, h => by simp [Kd.rc, flatP, h]
  | .rcd ls, st, h => by
    rw [Kd.rc, List.filter_cons, if_neg (by simp [flatP, h]), Kl.rc_star ls _ h]
theorem Kl.rc_star : ∀ (k : Kl) (st : List Str), ("*" : Str) ∈ st → (k.rc st).filter flatP = []
  | .nil, _, _ => rfl
  | .cons l k r, st, h => by rw [Kl.rc, List.filter_append, Kd.rc_star k _ (by simp [h]), Kl.rc_star r _ h]; rfl
end
theorem star_name : nameL (Str.ofString "*").cps.toList = false := by decide +kernel
theorem not_star {l : Str} (h : nameL l.cps.toList = true) : l ≠ "*" := fun e => by
  rw [e] at h
  rw [show nameL ((("*" : Str)).cps.toList) = false from star_name] at h
  cases h
mutual
theorem Kd.rc_fp : ∀ (k : Kd) (st : List Str), k.wf → ("*" : Str) ∉ st → ((k.rc st).filter flatP).map (·.1) = k.fp.map (st ++ ·)
  | .base _, st, _, h => by simp [Kd.rc, Kd.fp, flatP, h, Kd.isB]
  | .any _, st, _, h => by simp [Kd.rc, Kd.fp, flatP, Kd.isB]
  | .lst k, st, _, h => by
    rw [Kd.rc, List.filter_cons, if_neg (by simp [flatP, Kd.isB]), Kd.rc_star k _ (by simp)]
    rfl
  | .fn _ _, st, _, h => by simp [Kd.rc, Kd.fp, flatP, Kd.isB]
  | .rcd ls, st, w, h => by
    rw [Kd.wf] at w
    rw [Kd.rc, Kd.fp, List.filter_cons, if_neg (by simp [flatP, Kd.isB]), Kl.rc_fp ls st w.1 h]
theorem Kl.rc_fp : ∀ (k : Kl) (st : List Str), k.wf → ("*" : Str) ∉ st → ((k.rc st).filter flatP).map (·.1) = k.fp.map (st ++ ·)
  | .nil, _, _, _ => rfl
  | .cons l k r, st, w, h => by
    rw [Kl.wf] at w
    have hl := not_star w.1
    rw [Kl.rc, Kl.fp, List.filter_append, List.map_append, Kd.rc_fp k _ w.2.2.1 (by simp [h, hl.symm]), Kl.rc_fp r _ w.2.2.2 h, List.map_append, List.map_map]
    congr 1
    refine List.map_congr_left fun a _ => ?_
    simp
end
/-! ### where steps lead -/
def Kl.look : Kl → Str → Option Kd → Option Kd
  | .nil, _, o => o
  | .cons l k r, s, o => r.look s (if l = s then some k else o)
def Kd.child : Kd → Str → Option Kd
  | .lst k, s => if s = "*" then some k else none
  | .rcd ls, s => ls.look s none
  | _, _ => none
def Kd.go : Kd → List Str → Option Kd
  | k, [] => some k
  | k, s :: r => (k.child s).bind fun b => b.go r
theorem Kl.look_no : ∀ (ls : Kl) (s : Str) (o : Option Kd), (∀ p ∈ ls.toL, p.1 ≠ s) → ls.look s o = o
  | .nil, _, _, _ => rfl
  | .cons l k r, s, o, h => by
    rw [Kl.look, if_neg (h (l, k) (by simp [Kl.toL])), Kl.look_no r s o fun p hp => h p (by simp [Kl.toL, hp])]
theorem Kl.look_yes : ∀ (ls : Kl) (o : Option Kd) (p : Str × Kd), (ls.toL.map fun p => p.1.cps.toList).Pairwise (· < ·) → p ∈ ls.toL → ls.look p.1 o = some p.2
  | .cons l k r, o, p, hs, h => by
    rw [Kl.toL, List.map_cons, List.pairwise_cons] at hs
    rw [Kl.toL] at h
    rw [Kl.look]
    rcases List.mem_cons.mp h with rfl | h
    · rw [if_pos rfl]
      refine Kl.look_no r _ _ fun p hp e => ?_
      have z := hs.1 _ (List.mem_map.mpr ⟨p, hp, rfl⟩)
      rw [e] at z
      exact absurd z (List.lt_irrefl _)
    · exact Kl.look_yes r _ p hs.2 h
theorem Kd.go_app : ∀ (st : List Str) (k : Kd) (rest : List Str), k.go (st ++ rest) = (k.go st).bind fun b => b.go rest
  | [], _, _ => rfl
  | s :: st, k, rest => by
    show (k.child s).bind _ = ((k.child s).bind _).bind _
    cases k.child s with
    | none => rfl
    | some b => exact Kd.go_app st b rest
mutual
theorem Kd.rc_go : ∀ (k : Kd) (st : List Str), k.wf → ∀ p ∈ k.rc st, ∃ r, p.1 = st ++ r ∧ k.go r = some p.2 ∧ p.2.wf ∧ p.2.dep ≤ k.dep ∧ p.2.sz ≤ k.sz
  | .base s, st, w, p, h => by
    rw [Kd.rc, List.mem_singleton] at h
    subst h
    exact ⟨[], by simp, rfl, w, Nat.le_refl _, Nat.le_refl _⟩
  | .any i, st, w, p, h => by
    rw [Kd.rc, List.mem_singleton] at h
    subst h
    exact ⟨[], by simp, rfl, w, Nat.le_refl _, Nat.le_refl _⟩
  | .lst k, st, w, p, h => by
    rw [Kd.rc] at h
    rcases List.mem_cons.mp h with rfl | h
    · exact ⟨[], by simp, rfl, w, Nat.le_refl _, Nat.le_refl _⟩
    · obtain ⟨r, e, g, w', hd, hz⟩ := Kd.rc_go k _ (by rw [Kd.wf] at w; exact w) p h
      refine ⟨"*" :: r, by rw [e]; simp, ?_, w', by rw [Kd.dep]; omega, by rw [Kd.sz]; omega⟩
      show ((Kd.lst k).child "*").bind _ = _
      rw [Kd.child, if_pos rfl]
      exact g
  | .fn a b, st, w, p, h => by
    rw [Kd.rc, List.mem_singleton] at h
    subst h
    exact ⟨[], by simp, rfl, w, Nat.le_refl _, Nat.le_refl _⟩
  | .rcd ls, st, w, p, h => by
    rw [Kd.rc] at h
    rcases List.mem_cons.mp h with rfl | h
    · exact ⟨[], by simp, rfl, w, Nat.le_refl _, Nat.le_refl _⟩
    · rw [Kd.wf] at w
      obtain ⟨l, k, r, hm, e, g, w', hd, hz⟩ := Kl.rc_go ls st w.1 p h
      refine ⟨l :: r, e, ?_, w', by rw [Kd.dep]; have : k.dep ≤ ls.dep := Kl.mem_dep hm; omega, by rw [Kd.sz]; have : k.sz ≤ ls.sz := Kl.mem_sz hm; omega⟩
      show ((Kd.rcd ls).child l).bind _ = _
      rw [Kd.child, Kl.look_yes ls none (l, k) w.2.2 hm]
      exact g
theorem Kl.rc_go : ∀ (ls : Kl) (st : List Str), ls.wf → ∀ p ∈ ls.rc st, ∃ l k r, (l, k) ∈ ls.toL ∧ p.1 = st ++ l :: r ∧ k.go r = some p.2 ∧ p.2.wf ∧ p.2.dep ≤ k.dep ∧ p.2.sz ≤ k.sz
  | .cons l k rest, st, w, p, h => by
    rw [Kl.wf] at w
    rw [Kl.rc] at h
    rcases List.mem_append.mp h with h | h
    · obtain ⟨r, e, g, w', hd, hz⟩ := Kd.rc_go k _ w.2.2.1 p h
      exact ⟨l, k, r, by simp [Kl.toL], by rw [e]; simp, g, w', hd, hz⟩
    · obtain ⟨l', k', r, hm, z⟩ := Kl.rc_go rest st w.2.2.2 p h
      exact ⟨l', k', r, by simp [Kl.toL, hm], z⟩
end
theorem Kd.child_q {k : Kd} (w : k.wf) : k.child "q" = none := by
  cases k with
  | lst k => rw [Kd.child, if_neg (by decide)]
  | rcd ls =>
    rw [Kd.wf] at w
    exact Kl.look_no ls _ _ fun p hp => (Kl.mem_wf w.1 hp).2.1
  | _ => rfl
theorem Kd.child_star {k : Kd} (w : k.wf) (h : k.isLst = false) : k.child "*" = none := by
  cases k with
  | lst k => cases h
  | rcd ls =>
    rw [Kd.wf] at w
    exact Kl.look_no ls _ _ fun p hp => not_star (Kl.mem_wf w.1 hp).1
  | _ => rfl
theorem flatMap_eq_lp : ∀ ls : Kl, ls.lp = ls.toL.flatMap fun p => p.2.lp.map (p.1 :: ·)
  | .nil => rfl
  | .cons l k r => by rw [Kl.lp, Kl.toL, List.flatMap_cons, flatMap_eq_lp r]
theorem flatMap_eq_fp : ∀ ls : Kl, ls.fp = ls.toL.flatMap fun p => p.2.fp.map (p.1 :: ·)
  | .nil => rfl
  | .cons l k r => by rw [Kl.fp, Kl.toL, List.flatMap_cons, flatMap_eq_fp r]
theorem flatMap_eq_rc : ∀ (ls : Kl) (st : List Str), ls.rc st = ls.toL.flatMap fun p => p.2.rc (st ++ [p.1])
  | .nil, _ => rfl
  | .cons l k r, st => by rw [Kl.rc, Kl.toL, List.flatMap_cons, flatMap_eq_rc r]
mutual
theorem Kd.lp_dep : ∀ (k : Kd), ∀ st ∈ k.lp, st.length ≤ k.dep
  | .base _, st, h => by simp [Kd.lp] at h
  | .any _, st, h => by simp [Kd.lp] at h
  | .lst k, st, h => by
    rw [Kd.lp] at h
    rw [Kd.dep]
    rcases List.mem_cons.mp h with rfl | h
    · simp
    · obtain ⟨s, hs, rfl⟩ := List.mem_map.mp h
      have := Kd.lp_dep k s hs
      simp
      omega
  | .fn _ _, st, h => by simp [Kd.lp] at h
  | .rcd ls, st, h => by
    rw [Kd.lp] at h
    rw [Kd.dep]
    exact Kl.lp_dep ls st h
theorem Kl.lp_dep : ∀ (k : Kl), ∀ st ∈ k.lp, st.length ≤ k.dep + 1
  | .nil, st, h => by simp [Kl.lp] at h
  | .cons l k r, st, h => by
    rw [Kl.lp] at h
    rw [Kl.dep]
    rcases List.mem_append.mp h with h | h
    · obtain ⟨s, hs, rfl⟩ := List.mem_map.mp h
      have := Kd.lp_dep k s hs
      simp
      omega
    · have := Kl.lp_dep r st h
      omega
end
mutual
theorem Kd.fp_dep : ∀ (k : Kd), ∀ st ∈ k.fp, st.length ≤ k.dep
  | .base _, st, h => by
    rw [Kd.fp, List.mem_singleton] at h
    rw [h]
    simp
  | .any _, st, h => by simp [Kd.fp] at h
  | .lst k, st, h => by simp [Kd.fp] at h
  | .fn _ _, st, h => by simp [Kd.fp] at h
  | .rcd ls, st, h => by
    rw [Kd.fp] at h
    rw [Kd.dep]
    exact Kl.fp_dep ls st h
theorem Kl.fp_dep : ∀ (k : Kl), ∀ st ∈ k.fp, st.length ≤ k.dep + 1
  | .nil, st, h => by simp [Kl.fp] at h
  | .cons l k r, st, h => by
    rw [Kl.fp] at h
    rw [Kl.dep]
    rcases List.mem_append.mp h with h | h
    · obtain ⟨s, hs, rfl⟩ := List.mem_map.mp h
      have := Kd.fp_dep k s hs
      simp
      omega
    · have := Kl.fp_dep r st h
      omega
end
mutual
theorem Kd.dep_sz : ∀ k : Kd, k.dep ≤ k.sz
  | .base _ => by simp [Kd.dep, Kd.sz]
  | .any _ => by simp [Kd.dep, Kd.sz]
  | .lst k => by
    have := Kd.dep_sz k
    simp [Kd.dep, Kd.sz]
    omega
  | .fn a b => by
    have := Kd.dep_sz a
    have := Kd.dep_sz b
    simp [Kd.dep, Kd.sz]
    omega
  | .rcd ls => by
    have := Kl.dep_sz ls
    simp [Kd.dep, Kd.sz]
    omega
theorem Kl.dep_sz : ∀ k : Kl, k.dep ≤ k.sz
  | .nil => by simp [Kl.dep, Kl.sz]
  | .cons l k r => by
    have := Kd.dep_sz k
    have := Kl.dep_sz r
    simp [Kl.dep, Kl.sz]
    omega
end
theorem Kl.sum_len {F : Kd → List (List Str)} (hF : ∀ k, (F k).length ≤ k.sz) : ∀ (ls : Kl) (i : Nat), ((ls.toL.take i).flatMap fun p => (F p.2).map (p.1 :: ·)).length ≤ ls.sz
  | .nil, i => by simp [Kl.toL]
  | .cons l k r, 0 => by simp
  | .cons l k r, i + 1 => by
    rw [Kl.toL, List.take_succ_cons, List.flatMap_cons, List.length_append, List.length_map, Kl.sz]
    exact Nat.add_le_add (hF k) (Kl.sum_len hF r i)
theorem Kl.sum_rc (st : List Str) : ∀ (ls : Kl) (i : Nat), (∀ k st, (Kd.rc k st).length ≤ k.sz) → ((ls.toL.take i).flatMap fun p => p.2.rc (st ++ [p.1])).length ≤ ls.sz
  | .nil, i, _ => by simp [Kl.toL]
  | .cons l k r, 0, _ => by simp
  | .cons l k r, i + 1, h => by
    rw [Kl.toL, List.take_succ_cons, List.flatMap_cons, List.length_append, Kl.sz]
    exact Nat.add_le_add (h k _) (Kl.sum_rc st r i h)
/-! ### sizes -/
mutual
theorem Kd.lp_len : ∀ k : Kd, k.lp.length ≤ k.sz
  | .base _ => by simp [Kd.lp]
  | .any _ => by simp [Kd.lp]
  | .lst k => by
    have := Kd.lp_len k
    simp [Kd.lp, Kd.sz]
    omega
  | .fn _ _ => by simp [Kd.lp]
  | .rcd ls => by
    have := Kl.lp_len ls
    simp [Kd.lp, Kd.sz]
    omega
theorem Kl.lp_len : ∀ k : Kl, k.lp.length ≤ k.sz
  | .nil => by simp [Kl.lp]
  | .cons l k r => by
    have := Kd.lp_len k
    have := Kl.lp_len r
    simp [Kl.lp, Kl.sz]
    omega
end
mutual
theorem Kd.fp_len : ∀ k : Kd, k.fp.length ≤ k.sz
  | .base _ => by simp [Kd.fp, Kd.sz]
  | .any _ => by simp [Kd.fp]
  | .lst k => by simp [Kd.fp]
  | .fn _ _ => by simp [Kd.fp]
  | .rcd ls => by
    have := Kl.fp_len ls
    simp [Kd.fp, Kd.sz]
    omega
theorem Kl.fp_len : ∀ k : Kl, k.fp.length ≤ k.sz
  | .nil => by simp [Kl.fp]
  | .cons l k r => by
    have := Kd.fp_len k
    have := Kl.fp_len r
    simp [Kl.fp, Kl.sz]
    omega
end
mutual
theorem Kd.rc_len : ∀ (k : Kd) (st : List Str), (k.rc st).length ≤ k.sz
  | .base _, _ => by simp [Kd.rc, Kd.sz]
  | .any _, _ => by simp [Kd.rc, Kd.sz]
  | .lst k, st => by
    have := Kd.rc_len k (st ++ [("*" : Str)])
    simp [Kd.rc, Kd.sz]
    omega
  | .fn _ _, _ => by simp [Kd.rc, Kd.sz]
  | .rcd ls, st => by
    have := Kl.rc_len ls st
    simp [Kd.rc, Kd.sz]
    omega
theorem Kl.rc_len : ∀ (k : Kl) (st : List Str), (k.rc st).length ≤ k.sz
  | .nil, _ => by simp [Kl.rc]
  | .cons l k r, st => by
    have := Kd.rc_len k (st ++ [l])
    have := Kl.rc_len r st
    simp [Kl.rc, Kl.sz]
    omega
end
end LK
set_option Elab.async false
set_option linter.all false
set_option maxRecDepth 100000
set_option maxHeartbeats 1000000
/-! Data as the kit's equality wants it. -/
namespace LK
open PySem PySem.Spec PyProof.Rows L2 Evl
mutual
theorem At.dp {M : Addr → Prop} {K : PySem.W.Frag} {H : Hp} : ∀ {v : V} {d : PyData}, At M H v d → Dp K H v d
  | _, _, .non => .non
  | _, _, .bl b => .bl b
  | _, _, .int i => .int i
  | _, _, .str x _ => .str x
  | _, _, .lst _ h r => .lst (.of h) (Ats.dp r)
  | _, _, .tup _ h r => .tup (.of h) (Ats.dp r)
theorem Ats.dp {M : Addr → Prop} {K : PySem.W.Frag} {H : Hp} : ∀ {vs : List V} {ds : List PyData}, Ats M H vs ds → DpAll K H vs ds
  | _, _, .nil => .nil
  | _, _, .cons h r => .cons (At.dp h) (Ats.dp r)
end
theorem strOk_of {s : Str} (h : ∀ c ∈ s.cps.toList, c < 1114112) : PyData.strOk s = true := by
  unfold PyData.strOk
  rw [← Array.all_toList]
  exact List.all_eq_true.mpr fun c hc => decide_eq_true (h c hc)
theorem signs_small : ∀ c ∈ signsL, c < 1114112 := by decide +kernel
theorem strOk_name {s : Str} (h : nameL s.cps.toList = true) : PyData.strOk s = true := strOk_of fun c hc => by
  unfold nameL at h
  rw [Bool.and_eq_true, Bool.and_eq_true] at h
  exact signs_small c (of_decide_eq_true (List.all_eq_true.mp h.2.2 c hc))
theorem strOk_base {s : Str} (h : isBaseS s = true) : PyData.strOk s = true := by
  unfold isBaseS at h
  simp only [Bool.or_eq_true, decide_eq_true_eq] at h
  rcases h with rfl | rfl | rfl <;> decide +kernel
mutual
theorem Kd.lay : ∀ k : Kd, k.wf → k.D.canLay0 = true ∧ k.D.depth ≤ 3 * k.dep + 1
  | .base s, w => by
    rw [Kd.wf] at w
    refine ⟨strOk_base w, ?_⟩
    simp [Kd.D, PyData.depth]
  | .any i, _ => by
    refine ⟨?_, ?_⟩
    · simp only [Kd.D, T2, S, PyData.canLay0, PyData.canLayAll0, Bool.and_true]
      decide +kernel
    · simp [Kd.D, PyData.depth, PyData.depthAll]
  | .lst k, w => by
    rw [Kd.wf] at w
    obtain ⟨h1, h2⟩ := Kd.lay k w
    refine ⟨?_, ?_⟩
    · simp only [Kd.D, T2, S, PyData.canLay0, PyData.canLayAll0, h1, Bool.and_true]
      decide +kernel
    · simp only [Kd.D, Kd.dep, T2, S, PyData.depth, PyData.depthAll]
      omega
  | .fn a b, w => by
    rw [Kd.wf] at w
    obtain ⟨h1, h2⟩ := Kd.lay a w.1
    obtain ⟨h3, h4⟩ := Kd.lay b w.2
    refine ⟨?_, ?_⟩
    · simp only [Kd.D, T3, S, PyData.canLay0, PyData.canLayAll0, h1, h3, Bool.and_true]
      decide +kernel
    · simp only [Kd.D, Kd.dep, T3, S, PyData.depth, PyData.depthAll]
      omega
  | .rcd ls, w => by
    rw [Kd.wf] at w
    obtain ⟨h1, h2⟩ := Kl.lay ls w.1
    refine ⟨?_, ?_⟩
    · simp only [Kd.D, T2, S, PyData.canLay0, PyData.canLayAll0, h1, Bool.and_true]
      decide +kernel
    · simp only [Kd.D, Kd.dep, T2, S, PyData.depth, PyData.depthAll]
      omega
theorem Kl.lay : ∀ k : Kl, k.wf → PyData.canLayAll0 k.Ds = true ∧ PyData.depthAll k.Ds ≤ 3 * k.dep + 2
  | .nil, _ => ⟨rfl, by simp [Kl.Ds, PyData.depthAll]⟩
  | .cons l k r, w => by
    rw [Kl.wf] at w
    obtain ⟨h1, h2⟩ := Kd.lay k w.2.2.1
    obtain ⟨h3, h4⟩ := Kl.lay r w.2.2.2
    refine ⟨?_, ?_⟩
    · simp only [Kl.Ds, T2, PyData.canLay0, PyData.canLayAll0, h1, h3, strOk_name w.1, Bool.and_true]
    · simp only [Kl.Ds, Kl.dep, T2, PyData.depth, PyData.depthAll]
      omega
end
theorem lay_all : ∀ {ds : List PyData} {n : Nat}, (∀ d ∈ ds, d.canLay0 = true ∧ d.depth ≤ n) → PyData.canLayAll0 ds = true ∧ PyData.depthAll ds ≤ n
  | [], _, _ => ⟨rfl, by simp [PyData.depthAll]⟩
  | d :: ds, n, h => by
    obtain ⟨h1, h2⟩ := h d (by simp)
    obtain ⟨h3, h4⟩ := lay_all (ds := ds) (n := n) fun e he => h e (by simp [he])
    refine ⟨by simp only [PyData.canLayAll0, h1, h3, Bool.and_true], ?_⟩
    simp only [PyData.depthAll]
    omega
theorem shaped_lst {ds : List PyData} {n : Nat} (h : ∀ d ∈ ds, d.canLay0 = true ∧ d.depth ≤ n) (hn : n ≤ 50) : SeqAt.shaped (.list ds) = true := by
  obtain ⟨h1, h2⟩ := lay_all h
  unfold SeqAt.shaped
  rw [Bool.and_eq_true]
  refine ⟨by simp only [PyData.canLay0, h1], decide_eq_true ?_⟩
  simp only [PyData.depth]
  omega
theorem shaped_tup {ds : List PyData} {n : Nat} (h : ∀ d ∈ ds, d.canLay0 = true ∧ d.depth ≤ n) (hn : n ≤ 50) : SeqAt.shaped (.tuple ds) = true := by
  obtain ⟨h1, h2⟩ := lay_all h
  unfold SeqAt.shaped
  rw [Bool.and_eq_true]
  refine ⟨by simp only [PyData.canLay0, h1], decide_eq_true ?_⟩
  simp only [PyData.depth]
  omega
theorem eqv_lnil (ds : List PyData) : PyData.eqv (.list ds) (.list []) = ds.isEmpty := by
  cases ds with
  | nil => simp only [PyData.eqv, PyData.eqvAll, List.isEmpty_nil]
  | cons i is => simp only [PyData.eqv, PyData.eqvAll, List.isEmpty_cons]
section
variable {K : PySem.W.Frag} {σ : L2.St} {H : Hp} {te : TE} {M : Addr → Prop} {ds : List PyData}
/-- [..] != [] -/
theorem ed_neNil (h : EvD M te σ H (.list ds)) (hM : Trk M H) (hs : SeqAt.shaped (.list ds) = true) : EvD M (tOp (rNeA K) te (tLst tNil)) σ H (.bool (!ds.isEmpty)) :=
  ed_op h (ed_lst eds_nil hM) fun x y H1 e ax ay => ⟨.bl (!ds.isEmpty), rv_r (rv_now fun H2 e2 Q q => ⟨_, _, (ax.ex e2).dp, (ay.ex e2).dp, hs, rfl, by rw [eqv_lnil]; exact q⟩), .bl _⟩
end
end LK
set_option Elab.async false
set_option linter.all false
set_option maxRecDepth 100000
set_option maxHeartbeats 1000000
/-! Data made while a pool is drawn from. -/
namespace LK
open PySem PySem.Spec PyProof.Rows L2 Evl
inductive All2 {α : Type} (R : α → PyData → Prop) : List α → List PyData → Prop
  | nil : All2 R [] []
  | cons {a : α} {d : PyData} {as : List α} {ds : List PyData} (h : R a d) (r : All2 R as ds) : All2 R (a :: as) (d :: ds)
theorem All2.snoc {α : Type} {R : α → PyData → Prop} {a : α} {d : PyData} (h : R a d) : ∀ {as : List α} {ds : List PyData}, All2 R as ds → All2 R (as ++ [a]) (ds ++ [d])
  | _, _, .nil => .cons h .nil
  | _, _, .cons h2 r => .cons h2 (All2.snoc h r)
section
variable {K : PySem.W.Frag} {σ : L2.St} {G H : Hp} {p : Addr} {te ta tb tl : TE} {tr : TA} {d : PyData} {L : Pool} {P P1 : PyData → Prop} {M : Addr → Prop}
/-- data made while the pool at p is drawn from, away from what M holds -/
def EvKA (M : Addr → Prop) (p : Addr) (te : TE) (σ : L2.St) (G : Hp) (P : PyData → Prop) : Prop := ∀ H1 L, Ex G H1 → PlAt H1 p L → Trk M H1 → ∀ Q : VK, (∀ v H2 L', KeepP p H1 H2 → PlAt H2 p L' → (∃ d, P d ∧ At M H2 v d) → Q v H2) → te σ H1 Q
def EvKAs (M : Addr → Prop) (p : Addr) (ta : TA) (σ : L2.St) (G : Hp) (P : List PyData → Prop) : Prop := ∀ H1 L, Ex G H1 → PlAt H1 p L → Trk M H1 → ∀ Q : List V → Hp → Prop, (∀ vs H2 L', KeepP p H1 H2 → PlAt H2 p L' → (∃ ds, P ds ∧ Ats M H2 vs ds) → Q vs H2) → ta σ H1 Q
theorem kp_keep {H1 H2 : Hp} (hp : M p) (k : KeepP p H1 H2) : Keep M H1 H2 := Keep.mono k fun a e => by
  have e' : a = p := e
  rw [e']
  exact hp
theorem kp_trk {H1 H2 : Hp} {L2 : Pool} (t : Trk M H1) (k : KeepP p H1 H2) (hp2 : PlAt H2 p L2) : Trk M H2 := fun a m => by
  by_cases e : a = p
  · rw [e]
    exact ⟨_, hp2⟩
  · obtain ⟨o, ho⟩ := t a m
    exact ⟨o, k a o e ho⟩
theorem eks_nil : EvKAs M p tNil σ G (fun ds => ds = []) := fun H1 L e hp t Q q => q [] H1 L (Keep.refl _ _) hp ⟨[], rfl, .nil⟩
theorem eks_cons {Ps : List PyData → Prop} (hG : G p = none) (hm : M p) (h : EvKA M p te σ G P) (hr : EvKAs M p tr σ G Ps) : EvKAs M p (tCons te tr) σ G (fun ds => ∃ d r, ds = d :: r ∧ P d ∧ Ps r) := fun H1 L e hp t Q q =>
  h H1 L e hp t _ fun v H2 L2 k2 hp2 ⟨d, pd, a⟩ => hr H2 L2 (ex_keep hG e k2) hp2 (kp_trk t k2 hp2) _ fun vs H3 L3 k3 hp3 ⟨ds, ps, as⟩ => q (v :: vs) H3 L3 (k2.trans k3) hp3 ⟨d :: ds, ⟨d, ds, rfl, pd, ps⟩, .cons (a.keep (kp_keep hm k3)) as⟩
theorem eka_tup {Ps : List PyData → Prop} (h : EvKAs M p tr σ G Ps) (hz : ∀ ds, Ps ds → ds.length ≤ 1000) : EvKA M p (tTup tr) σ G (fun d => ∃ ds, Ps ds ∧ d = .tuple ds) := fun H1 L e hp t Q q =>
  h H1 L e hp t _ fun vs H2 L2 k2 hp2 ⟨ds, ps, as⟩ => ⟨sz_of (by rw [as.len]; have := hz ds ps; omega), fun a ha => q (.ref a) _ L2 (k2.trans (.of (Ex.new ha))) (pl_ex hp2 (Ex.new ha)) ⟨_, ⟨ds, ps, rfl⟩, .tup (Trk.fresh (kp_trk t k2 hp2) ha) upd_same (as.ex (Ex.new ha))⟩⟩
theorem eka_of (h : ∀ H1 L, Ex G H1 → PlAt H1 p L → Trk M H1 → EvD M te σ H1 d) : EvKA M p te σ G (fun x => x = d) := fun H1 L e hp t Q q =>
  ed_to (h H1 L e hp t) fun v H2 e2 a => q v H2 L (.of e2) (pl_ex hp e2) ⟨d, rfl, a⟩
theorem eka_imp {P' : PyData → Prop} (h : EvKA M p te σ G P) (i : ∀ d, P d → P' d) : EvKA M p te σ G P' := fun H1 L e hp t Q q => h H1 L e hp t Q fun v H2 L2 k2 hp2 ⟨d, hd, a⟩ => q v H2 L2 k2 hp2 ⟨d, i d hd, a⟩
theorem eka_int {m : Int} (h : EvK p te σ G (Drawn m)) : EvKA M p te σ G (fun d => ∃ n : Int, d = .int n ∧ 0 ≤ n ∧ n < m) := fun H1 L e hp t Q q => h H1 L e hp Q fun v H2 L2 k2 hp2 ⟨n, hn, h0, h1⟩ => q v H2 L2 k2 hp2 ⟨.int n, ⟨n, rfl, h0, h1⟩, by rw [hn]; exact .int n⟩
/-- tuple(..) of a made list -/
theorem eka_tupOf {Ps : List PyData → Prop} (h : EvKA M p te σ G (fun d => ∃ ds, d = .list ds ∧ Ps ds)) : EvKA M p (tCB (rTupOf K) (tCons te tNil)) σ G (fun d => ∃ ds, d = .tuple ds ∧ Ps ds) := fun H1 L e hp t Q q =>
  h H1 L e hp t _ fun v H2 L2 k2 hp2 ⟨d, ⟨ds, hd, ps⟩, a⟩ => by
    subst hd
    obtain ⟨b, xs, rfl, nb, hb, r⟩ := a.lst_inv
    exact ⟨b, xs, rfl, .inl ⟨.of hb, fun l hl => q _ _ L2 (k2.trans (.of (Ex.new hl))) (pl_ex hp2 (Ex.new hl)) ⟨_, ⟨ds, rfl, ps⟩, .tup (Trk.fresh (kp_trk t k2 hp2) hl) upd_same (r.ex (Ex.new hl))⟩⟩⟩
theorem All2.len {α : Type} {R : α → PyData → Prop} : ∀ {as : List α} {ds : List PyData}, All2 R as ds → ds.length = as.length
  | _, _, .nil => rfl
  | _, _, .cons _ r => by rw [List.length_cons, List.length_cons, All2.len r]
/-- [e for x in a list of texts], e drawn -/
theorem eka_lc {α : Type} {as : List α} {gv : α → V} {j : Nat} {vs : List Nat} {R : α → PyData → Prop} {a : Addr} (hG : G p = none) (hm : M p) (hl : ∀ H1, Ex G H1 → ∀ Q : VK, Q (.ref a) H1 → tl σ H1 Q) (hx : SqL K G a (as.map gv)) (hz : as.length ≤ 40000)
    (hw : ∀ x, wipe ((wipe σ vs).set j (some x)) vs = wipe σ vs)
    (he : ∀ (M' : Addr → Prop) (y : α), M' p → y ∈ as → EvKA M' p te ((wipe σ vs).set j (some (gv y))) G (R y)) :
    EvKA M p (tLc (iSeq K tl) (gName j) tYes te vs) σ G (fun d => ∃ ds, d = .list ds ∧ All2 R as ds) := fun H1 L e hp t Q q => by
  refine hl H1 e _ ⟨a, rfl, .inl ⟨⟨_, ex_l e hx⟩, fun Dl hD => ?_⟩⟩
  have hDp : Dl ≠ p := fun z => by
    rw [z, show H1 p = _ from hp] at hD
    cases hD
  refine lc_it walk_list (fun i H' => ∃ L' ws ds, KeepP p H1 H' ∧ PlAt H' p L' ∧ H' Dl = some (.lst ws) ∧ Ats (And1 M Dl) H' ws ds ∧ All2 R (as.take i) ds) ⟨L, [], [], (Keep.refl _ _).own hD, by unfold PlAt; rw [upd_ne hDp.symm]; exact hp, upd_same, .nil, .nil⟩
    (fun i H' _ ⟨L', ws, ds, k, _⟩ => ex_l (ex_keep hG e k) hx) (fun i x Ha Hb hi pv y => ?_) (fun H' pv => ?_)
  · obtain ⟨L', ws, ds, k, hpa, hws, aws, all⟩ := pv
    obtain ⟨rfl, hx'⟩ := y
    rw [List.getElem?_map] at hx'
    obtain ⟨yi, hyi, rfl⟩ := Option.map_eq_some_iff.mp hx'
    refine ⟨hw _, ?_⟩
    show te _ Hb _
    have eb := ex_keep hG e k
    refine he (And1 M Dl) yi (.inl hm) (List.mem_of_getElem? hyi) Hb L' eb hpa ((kp_trk t k hpa).add hws) _ fun v Hc L2 k2 hpc ⟨d, hd, ad⟩ => ⟨ws, k2 _ _ hDp hws, sz_lt ?_, L2, ws ++ [v], ds ++ [d], (k.trans k2).own hD, ?_, upd_same, ?_, ?_⟩
    · rw [aws.len, all.len, List.length_take]
      omega
    · unfold PlAt
      rw [upd_ne hDp.symm]
      exact hpc
    · have kp : Keep (And1 M Dl) Hc (upd Hc Dl (.lst (ws ++ [v]))) := (Keep.refl _ _).put (.inr rfl)
      exact ((aws.keep (kp_keep (.inl hm) k2)).keep kp).append (.one (ad.keep kp))
    · rw [List.take_add_one, hyi, Option.toList_some]
      exact all.snoc hd
  · obtain ⟨L', ws, ds, k, hpa, hws, aws, all⟩ := pv
    rw [List.length_map, List.take_length] at all
    exact q (.ref Dl) H' L' k hpa ⟨_, ⟨ds, rfl, all⟩, .lst (Trk.fresh t hD) hws (aws.weak fun _ z => .inl z)⟩
theorem a_ret {D : Ends} (h : EvKA M p te σ G P) (e : Ex G H) (hp : PlAt H p L) (t : Trk M H) (k : ∀ v H2 L', KeepP p H H2 → PlAt H2 p L' → (∃ d, P d ∧ At M H2 v d) → D.rt v H2) : tRet te D σ H := h H L e hp t _ k
/-- a new list's part, to a drawn place -/
theorem ek_sl {xs : List V} {lo : Int} {t1 t2 : TE} {Ph : Int → Prop} (hG : G p = none) (ha : EvL ta σ G xs) (h1 : Ev t1 σ G (.int lo)) (h2 : EvK p t2 σ G (fun v _ => ∃ i : Int, v = .int i ∧ Ph i)) :
    EvK p (tSl (fun x lo hi H Q => rSlL K x lo hi H Q ∨ (rSlS x lo hi H Q ∨ rSlT K x lo hi H Q)) ta (tPart t1) (tPart t2)) σ G (fun v H2 => ∃ (q : Addr) (hi : Int), v = .ref q ∧ Ph hi ∧ q ≠ p ∧ H2 q = some (.lst (cutV xs (some lo) (some hi)))) := fun H1 L e hp Q q =>
  ha H1 e _ fun pl H2 na e2 h2l => h1 H2 (e.trans e2) _ fun H3 e3 => ⟨lo, rfl, h2 H3 L ((e.trans e2).trans e3) (pl_ex hp (e2.trans e3)) _ fun v H4 L4 k4 hp4 ⟨hi, hv, ph⟩ => by
    have ne : pl ≠ p := fun z => by
      rw [z, show H1 p = _ from hp] at na
      cases na
    refine ⟨hi, hv, .inl ⟨pl, xs, rfl, .of (k4 _ _ ne (e3 _ _ h2l)), fun q' hq => q (.ref q') _ L4 (((Keep.of (e2.trans e3)).trans k4).trans (.of (Ex.new hq))) (pl_ex hp4 (Ex.new hq)) ⟨q', hi, rfl, ph, fun z => ?_, upd_same⟩⟩⟩
    rw [z, show H4 p = _ from hp4] at hq
    cases hq⟩
end
end LK
set_option Elab.async false
set_option linter.all false
set_option maxRecDepth 100000
set_option maxHeartbeats 4000000
/-! The text by places. -/
namespace K1
open PySem PySem.Spec PyProof.Rows L2 LK
def top (i : Nat) : Stmt := PySem.Challenge.pw_listasks_k00_kinds_and_the_places_of_the.main.body.getD i (.Pass ⟨0, 0, 0, 0⟩)
abbrev s_BadKind___init__ : Stmt := inClass (top 2) 0
def N_BadKind___init__ : List Str := ["self"]
theorem sc_BadKind___init__ : FnScope N_BadKind___init__ ["self"] (defScope s_BadKind___init__) := ⟨rfl, rfl, rfl, by decide +kernel, rfl, by decide +kernel, by decide +kernel⟩
abbrev s_NoPlace___init__ : Stmt := inClass (top 3) 0
def N_NoPlace___init__ : List Str := ["self", "steps"]
theorem sc_NoPlace___init__ : FnScope N_NoPlace___init__ ["self", "steps"] (defScope s_NoPlace___init__) := ⟨rfl, rfl, rfl, by decide +kernel, rfl, by decide +kernel, by decide +kernel⟩
abbrev s_is_name : Stmt := top 8
def N_is_name : List Str := ["thing", "sign"]
theorem sc_is_name : FnScope N_is_name ["thing"] (defScope s_is_name) := ⟨rfl, rfl, rfl, by decide +kernel, rfl, by decide +kernel, by decide +kernel⟩
abbrev s_is_whole : Stmt := top 9
def N_is_whole : List Str := ["thing"]
theorem sc_is_whole : FnScope N_is_whole ["thing"] (defScope s_is_whole) := ⟨rfl, rfl, rfl, by decide +kernel, rfl, by decide +kernel, by decide +kernel⟩
abbrev s_is_row : Stmt := top 10
def N_is_row : List Str := ["thing", "size"]
theorem sc_is_row : FnScope N_is_row ["thing", "size"] (defScope s_is_row) := ⟨rfl, rfl, rfl, by decide +kernel, rfl, by decide +kernel, by decide +kernel⟩
abbrev s_check_couples : Stmt := top 11
def N_check_couples : List Str := ["couples", "deep", "out", "couple"]
theorem sc_check_couples : FnScope N_check_couples ["couples", "deep"] (defScope s_check_couples) := ⟨rfl, rfl, rfl, by decide +kernel, rfl, by decide +kernel, by decide +kernel⟩
abbrev s_checked_kind : Stmt := top 12
def N_checked_kind : List Str := ["kind", "deep", "word"]
theorem sc_checked_kind : FnScope N_checked_kind ["kind", "deep"] (defScope s_checked_kind) := ⟨rfl, rfl, rfl, by decide +kernel, rfl, by decide +kernel, by decide +kernel⟩
abbrev s_check_kind : Stmt := top 13
def N_check_kind : List Str := ["kind"]
theorem sc_check_kind : FnScope N_check_kind ["kind"] (defScope s_check_kind) := ⟨rfl, rfl, rfl, by decide +kernel, rfl, by decide +kernel, by decide +kernel⟩
abbrev s_is_base : Stmt := top 14
def N_is_base : List Str := ["kind"]
theorem sc_is_base : FnScope N_is_base ["kind"] (defScope s_is_base) := ⟨rfl, rfl, rfl, by decide +kernel, rfl, by decide +kernel, by decide +kernel⟩
abbrev s_has_word : Stmt := top 15
def N_has_word : List Str := ["kind", "word", "_", "inner"]
theorem sc_has_word : FnScope N_has_word ["kind", "word"] (defScope s_has_word) := ⟨rfl, rfl, rfl, by decide +kernel, rfl, by decide +kernel, by decide +kernel⟩
abbrev s_has_open : Stmt := top 16
def N_has_open : List Str := ["kind"]
theorem sc_has_open : FnScope N_has_open ["kind"] (defScope s_has_open) := ⟨rfl, rfl, rfl, by decide +kernel, rfl, by decide +kernel, by decide +kernel⟩
abbrev s_has_function : Stmt := top 17
def N_has_function : List Str := ["kind"]
theorem sc_has_function : FnScope N_has_function ["kind"] (defScope s_has_function) := ⟨rfl, rfl, rfl, by decide +kernel, rfl, by decide +kernel, by decide +kernel⟩
abbrev s_is_answer_kind : Stmt := top 18
def N_is_answer_kind : List Str := ["kind"]
theorem sc_is_answer_kind : FnScope N_is_answer_kind ["kind"] (defScope s_is_answer_kind) := ⟨rfl, rfl, rfl, by decide +kernel, rfl, by decide +kernel, by decide +kernel⟩
abbrev s_list_places : Stmt := top 19
def N_list_places : List Str := ["kind", "out", "label", "inner", "steps"]
theorem sc_list_places : FnScope N_list_places ["kind"] (defScope s_list_places) := ⟨rfl, rfl, rfl, by decide +kernel, rfl, by decide +kernel, by decide +kernel⟩
abbrev s_ask_count : Stmt := top 20
def N_ask_count : List Str := ["kind"]
theorem sc_ask_count : FnScope N_ask_count ["kind"] (defScope s_ask_count) := ⟨rfl, rfl, rfl, by decide +kernel, rfl, by decide +kernel, by decide +kernel⟩
abbrev s_kind_at : Stmt := top 21
def N_kind_at : List Str := ["kind", "steps", "here", "step", "below", "label", "inner"]
theorem sc_kind_at : FnScope N_kind_at ["kind", "steps"] (defScope s_kind_at) := ⟨rfl, rfl, rfl, by decide +kernel, rfl, by decide +kernel, by decide +kernel⟩
abbrev s_flat_paths : Stmt := top 22
def N_flat_paths : List Str := ["kind", "out", "label", "inner", "steps"]
theorem sc_flat_paths : FnScope N_flat_paths ["kind"] (defScope s_flat_paths) := ⟨rfl, rfl, rfl, by decide +kernel, rfl, by decide +kernel, by decide +kernel⟩
abbrev s__law_pool : Stmt := top 24
def N__law_pool : List Str := ["_law_script", "_law_at", "_law_cell", "_law_size", "_law_start"]
theorem sc__law_pool : FnScope N__law_pool ["_law_script", "_law_at"] (defScope s__law_pool) := ⟨rfl, rfl, rfl, by decide +kernel, rfl, by decide +kernel, by decide +kernel⟩
abbrev s__law_draw : Stmt := top 25
def N__law_draw : List Str := ["_law_pool_here", "_law_many", "_law_drawn"]
theorem sc__law_draw : FnScope N__law_draw ["_law_pool_here", "_law_many"] (defScope s__law_draw) := ⟨rfl, rfl, rfl, by decide +kernel, rfl, by decide +kernel, by decide +kernel⟩
abbrev s__law_exact : Stmt := top 26
def N__law_exact : List Str := ["_law_told", "_law_due", "_law_k"]
theorem sc__law_exact : FnScope N__law_exact ["_law_told", "_law_due"] (defScope s__law_exact) := ⟨rfl, rfl, rfl, by decide +kernel, rfl, by decide +kernel, by decide +kernel⟩
abbrev s__law_relisted : Stmt := top 27
def N__law_relisted : List Str := ["_law_thing", "_law_part"]
theorem sc__law_relisted : FnScope N__law_relisted ["_law_thing"] (defScope s__law_relisted) := ⟨rfl, rfl, rfl, by decide +kernel, rfl, by decide +kernel, by decide +kernel⟩
abbrev s__law_any_kind : Stmt := top 28
def N__law_any_kind : List Str := ["_law_pool_here", "_law_left", "_law_way", "_law_first", "_law_labels", "_law_label"]
theorem sc__law_any_kind : FnScope N__law_any_kind ["_law_pool_here", "_law_left"] (defScope s__law_any_kind) := ⟨rfl, rfl, rfl, by decide +kernel, rfl, by decide +kernel, by decide +kernel⟩
abbrev s__law_led_to : Stmt := top 29
def N__law_led_to : List Str := ["_law_kind", "_law_steps", "_law_out", "_law_label", "_law_inner"]
theorem sc__law_led_to : FnScope N__law_led_to ["_law_kind", "_law_steps"] (defScope s__law_led_to) := ⟨rfl, rfl, rfl, by decide +kernel, rfl, by decide +kernel, by decide +kernel⟩
abbrev s__law_kind_has : Stmt := top 30
def N__law_kind_has : List Str := ["_law_kind", "_law_word", "_law_label", "_law_inner"]
theorem sc__law_kind_has : FnScope N__law_kind_has ["_law_kind", "_law_word"] (defScope s__law_kind_has) := ⟨rfl, rfl, rfl, by decide +kernel, rfl, by decide +kernel, by decide +kernel⟩
abbrev s__law_wrong_steps : Stmt := top 31
def N__law_wrong_steps : List Str := ["_law_kind", "_law_steps", "e"]
theorem sc__law_wrong_steps : FnScope N__law_wrong_steps ["_law_kind", "_law_steps"] (defScope s__law_wrong_steps) := ⟨rfl, rfl, rfl, by decide +kernel, rfl, by decide +kernel, by decide +kernel⟩
abbrev s_law : Stmt := top 32
def N_law : List Str := ["_law_script", "_law_pool_here", "_law_kind", "_law_reached", "_law_lists", "_law_flat", "_law_steps", "_law_inner", "_law_opened", "_law_worked", "_law_due"]
theorem sc_law : FnScope N_law ["_law_script"] (defScope s_law) := ⟨rfl, rfl, rfl, by decide +kernel, rfl, by decide +kernel, by decide +kernel⟩
/-- where the defs stand -/
structure Adr where
  a_BadKind___init__ : Addr
  f_BadKind___init__ : FuncData
  a_NoPlace___init__ : Addr
  f_NoPlace___init__ : FuncData
  a_is_name : Addr
  f_is_name : FuncData
  a_is_whole : Addr
  f_is_whole : FuncData
  a_is_row : Addr
  f_is_row : FuncData
  a_check_couples : Addr
  f_check_couples : FuncData
  a_checked_kind : Addr
  f_checked_kind : FuncData
  a_check_kind : Addr
  f_check_kind : FuncData
  a_is_base : Addr
  f_is_base : FuncData
  a_has_word : Addr
  f_has_word : FuncData
  a_has_open : Addr
  f_has_open : FuncData
  a_has_function : Addr
  f_has_function : FuncData
  a_is_answer_kind : Addr
  f_is_answer_kind : FuncData
  a_list_places : Addr
  f_list_places : FuncData
  a_ask_count : Addr
  f_ask_count : FuncData
  a_kind_at : Addr
  f_kind_at : FuncData
  a_flat_paths : Addr
  f_flat_paths : FuncData
  a__law_pool : Addr
  f__law_pool : FuncData
  a__law_draw : Addr
  f__law_draw : FuncData
  a__law_exact : Addr
  f__law_exact : FuncData
  a__law_relisted : Addr
  f__law_relisted : FuncData
  a__law_any_kind : Addr
  f__law_any_kind : FuncData
  a__law_led_to : Addr
  f__law_led_to : FuncData
  a__law_kind_has : Addr
  f__law_kind_has : FuncData
  a__law_wrong_steps : Addr
  f__law_wrong_steps : FuncData
  a_law : Addr
  f_law : FuncData
  c_BadKind : Addr
  t_LETTERS : Tok
  t_SIGNS : Tok
  a_BASES : Addr
  c_NoPlace : Addr
/-- what the top has written -/
structure Txt (K : PySem.W.Frag) (mg : Str → Option Value) (A : Adr) : Prop where
  F_BadKind___init__ : Fun K "__init__" "BadKind.__init__" s_BadKind___init__ A.a_BadKind___init__ A.f_BadKind___init__
  b_BadKind___init__ : Binds K A.f_BadKind___init__ ["self"] []
  F_NoPlace___init__ : Fun K "__init__" "NoPlace.__init__" s_NoPlace___init__ A.a_NoPlace___init__ A.f_NoPlace___init__
  b_NoPlace___init__ : Binds K A.f_NoPlace___init__ ["self", "steps"] []
  F_is_name : Fun K "is_name" "is_name" s_is_name A.a_is_name A.f_is_name
  b_is_name : Binds K A.f_is_name ["thing"] []
  g_is_name : mg "is_name" = some (.ref A.a_is_name)
  F_is_whole : Fun K "is_whole" "is_whole" s_is_whole A.a_is_whole A.f_is_whole
  b_is_whole : Binds K A.f_is_whole ["thing"] []
  g_is_whole : mg "is_whole" = some (.ref A.a_is_whole)
  F_is_row : Fun K "is_row" "is_row" s_is_row A.a_is_row A.f_is_row
  b_is_row : Binds K A.f_is_row ["thing", "size"] []
  g_is_row : mg "is_row" = some (.ref A.a_is_row)
  F_check_couples : Fun K "check_couples" "check_couples" s_check_couples A.a_check_couples A.f_check_couples
  b_check_couples : Binds K A.f_check_couples ["couples", "deep"] []
  g_check_couples : mg "check_couples" = some (.ref A.a_check_couples)
  F_checked_kind : Fun K "checked_kind" "checked_kind" s_checked_kind A.a_checked_kind A.f_checked_kind
  b_checked_kind : Binds K A.f_checked_kind ["kind", "deep"] []
  g_checked_kind : mg "checked_kind" = some (.ref A.a_checked_kind)
  F_check_kind : Fun K "check_kind" "check_kind" s_check_kind A.a_check_kind A.f_check_kind
  b_check_kind : Binds K A.f_check_kind ["kind"] []
  g_check_kind : mg "check_kind" = some (.ref A.a_check_kind)
  F_is_base : Fun K "is_base" "is_base" s_is_base A.a_is_base A.f_is_base
  b_is_base : Binds K A.f_is_base ["kind"] []
  g_is_base : mg "is_base" = some (.ref A.a_is_base)
  F_has_word : Fun K "has_word" "has_word" s_has_word A.a_has_word A.f_has_word
  b_has_word : Binds K A.f_has_word ["kind", "word"] []
  g_has_word : mg "has_word" = some (.ref A.a_has_word)
  F_has_open : Fun K "has_open" "has_open" s_has_open A.a_has_open A.f_has_open
  b_has_open : Binds K A.f_has_open ["kind"] []
  g_has_open : mg "has_open" = some (.ref A.a_has_open)
  F_has_function : Fun K "has_function" "has_function" s_has_function A.a_has_function A.f_has_function
  b_has_function : Binds K A.f_has_function ["kind"] []
  g_has_function : mg "has_function" = some (.ref A.a_has_function)
  F_is_answer_kind : Fun K "is_answer_kind" "is_answer_kind" s_is_answer_kind A.a_is_answer_kind A.f_is_answer_kind
  b_is_answer_kind : Binds K A.f_is_answer_kind ["kind"] []
  g_is_answer_kind : mg "is_answer_kind" = some (.ref A.a_is_answer_kind)
  F_list_places : Fun K "list_places" "list_places" s_list_places A.a_list_places A.f_list_places
  b_list_places : Binds K A.f_list_places ["kind"] []
  g_list_places : mg "list_places" = some (.ref A.a_list_places)
  F_ask_count : Fun K "ask_count" "ask_count" s_ask_count A.a_ask_count A.f_ask_count
  b_ask_count : Binds K A.f_ask_count ["kind"] []
  g_ask_count : mg "ask_count" = some (.ref A.a_ask_count)
  F_kind_at : Fun K "kind_at" "kind_at" s_kind_at A.a_kind_at A.f_kind_at
  b_kind_at : Binds K A.f_kind_at ["kind", "steps"] []
  g_kind_at : mg "kind_at" = some (.ref A.a_kind_at)
  F_flat_paths : Fun K "flat_paths" "flat_paths" s_flat_paths A.a_flat_paths A.f_flat_paths
  b_flat_paths : Binds K A.f_flat_paths ["kind"] []
  g_flat_paths : mg "flat_paths" = some (.ref A.a_flat_paths)
  F__law_pool : Fun K "_law_pool" "_law_pool" s__law_pool A.a__law_pool A.f__law_pool
  b__law_pool : Binds K A.f__law_pool ["_law_script", "_law_at"] []
  g__law_pool : mg "_law_pool" = some (.ref A.a__law_pool)
  F__law_draw : Fun K "_law_draw" "_law_draw" s__law_draw A.a__law_draw A.f__law_draw
  b__law_draw : Binds K A.f__law_draw ["_law_pool_here", "_law_many"] []
  g__law_draw : mg "_law_draw" = some (.ref A.a__law_draw)
  F__law_exact : Fun K "_law_exact" "_law_exact" s__law_exact A.a__law_exact A.f__law_exact
  b__law_exact : Binds K A.f__law_exact ["_law_told", "_law_due"] []
  g__law_exact : mg "_law_exact" = some (.ref A.a__law_exact)
  F__law_relisted : Fun K "_law_relisted" "_law_relisted" s__law_relisted A.a__law_relisted A.f__law_relisted
  b__law_relisted : Binds K A.f__law_relisted ["_law_thing"] []
  g__law_relisted : mg "_law_relisted" = some (.ref A.a__law_relisted)
  F__law_any_kind : Fun K "_law_any_kind" "_law_any_kind" s__law_any_kind A.a__law_any_kind A.f__law_any_kind
  b__law_any_kind : Binds K A.f__law_any_kind ["_law_pool_here", "_law_left"] []
  g__law_any_kind : mg "_law_any_kind" = some (.ref A.a__law_any_kind)
  F__law_led_to : Fun K "_law_led_to" "_law_led_to" s__law_led_to A.a__law_led_to A.f__law_led_to
  b__law_led_to : Binds K A.f__law_led_to ["_law_kind", "_law_steps"] []
  g__law_led_to : mg "_law_led_to" = some (.ref A.a__law_led_to)
  F__law_kind_has : Fun K "_law_kind_has" "_law_kind_has" s__law_kind_has A.a__law_kind_has A.f__law_kind_has
  b__law_kind_has : Binds K A.f__law_kind_has ["_law_kind", "_law_word"] []
  g__law_kind_has : mg "_law_kind_has" = some (.ref A.a__law_kind_has)
  F__law_wrong_steps : Fun K "_law_wrong_steps" "_law_wrong_steps" s__law_wrong_steps A.a__law_wrong_steps A.f__law_wrong_steps
  b__law_wrong_steps : Binds K A.f__law_wrong_steps ["_law_kind", "_law_steps"] []
  g__law_wrong_steps : mg "_law_wrong_steps" = some (.ref A.a__law_wrong_steps)
  F_law : Fun K "law" "law" s_law A.a_law A.f_law
  b_law : Binds K A.f_law ["_law_script"] []
  g_law : mg "law" = some (.ref A.a_law)
  b_len : mg "len" = none
  b_isinstance : mg "isinstance" = none
  b_range : mg "range" = none
  b_tuple : mg "tuple" = none
  b_list : mg "list" = none
  b_str : mg "str" = none
  b_int : mg "int" = none
  b_bool : mg "bool" = none
  b_all : mg "all" = none
  b_any : mg "any" = none
  g_LETTERS : mg "LETTERS" = some (.str (Str.ofString "abcdefghijklmnopqrstuvwxyz") A.t_LETTERS)
  g_SIGNS : mg "SIGNS" = some (.str (Str.ofString "abcdefghijklmnopqrstuvwxyz0123456789") A.t_SIGNS)
  g_BASES : mg "BASES" = some (.ref A.a_BASES)
  x_BadKind : OexC K A.c_BadKind
  n_what : PySem.W.findIn K (.ref A.c_BadKind) "what" = some none
  i_BadKind : PySem.W.findIn K (.ref A.c_BadKind) "__init__" = some (some (.ref A.a_BadKind___init__))
  t_BadKind : PySem.W.typeIn K (.ref A.a_BadKind___init__) = some (.type "function")
  g_BadKind : mg "BadKind" = some (.ref A.c_BadKind)
  m_BadKind : PySem.W.exmOne K (.ref A.c_BadKind) (.ref A.c_BadKind) = some true
  s_BadKind : ExIs K A.c_BadKind
  o_BadKind : PySem.W.kitOne K (.ref A.c_BadKind) (.ref A.c_BadKind) = some true
  q_BASES : ∀ H : Hp, SqT K H A.a_BASES [.str "int", .str "text", .str "truth"]
  x_NoPlace : OexC K A.c_NoPlace
  n_steps : PySem.W.findIn K (.ref A.c_NoPlace) "steps" = some none
  i_NoPlace : PySem.W.findIn K (.ref A.c_NoPlace) "__init__" = some (some (.ref A.a_NoPlace___init__))
  t_NoPlace : PySem.W.typeIn K (.ref A.a_NoPlace___init__) = some (.type "function")
  g_NoPlace : mg "NoPlace" = some (.ref A.c_NoPlace)
  m_NoPlace : PySem.W.exmOne K (.ref A.c_NoPlace) (.ref A.c_NoPlace) = some true
  f_NoPlace : XfC K A.c_NoPlace
end K1
set_option Elab.async false
set_option linter.all false
set_option maxRecDepth 100000
set_option maxHeartbeats 4000000
namespace K1
open PySem PySem.Spec PyProof.Rows L2 LK Evl
local macro_rules | `(tactic| walk_at "rv") => `(tactic| first
  | exact rv_addI | exact rv_I0 | exact rv_I (by decide) | exact rv_I (Or.inr (by omega)) | exact rv_I (Or.inl (by omega)) | exact rv_I (by omega) | exact rv_I ⟨by omega, by omega⟩ | exact rv_I ⟨by decide, by decide, by decide⟩ | exact rv_ltI | exact rv_leI | exact rv_gtI | exact rv_geI | exact rv_eqS rfl | exact rv_neS rfl | exact rv_leS | exact rv_ltS
  | exact rv_inC | exact rv_niC | exact rv_isBl | exact rv_isntBl | exact rv_isN | exact rv_isntN
  | exact rv_xA (by assumption) (by assumption) | exact rv_xT (by assumption) (by assumption) | exact rv_xL (by assumption) (by assumption) | exact rv_xS (by assumption) (by assumption)
  | exact rv_xT (by assumption) rfl | exact rv_xL (by assumption) rfl | exact rv_inA (by assumption) rfl rfl | exact rv_addS (by assumption))
local macro_rules | `(tactic| walk_at "rc") => `(tactic| first
  | exact rc_int | exact rc_ord | exact rc_lenS (by assumption) | exact rc_lenL (by assumption) | exact rc_lenT (by assumption) | exact rc_lenA (by assumption) | exact rc_isiS (by assumption) | exact rc_isiI (by assumption) | exact rc_isiB (by assumption) | exact rc_isiL (by assumption) | exact rc_isiT (by assumption))
local macro_rules | `(tactic| walk_at "ea") => `(tactic| first | exact ea_nil | (apply ea_cons; walk_at "ev"; walk_at "ea"))
local macro_rules | `(tactic| walk_at "ev") => `(tactic| first
  | assumption
  | exact ev_var rfl
  | exact ev_c
  | (apply ev_op; walk_at "ev"; walk_at "ev"; walk_at "rv")
  | (apply ev_un; walk_at "ev"; exact ru_neg)
  | (apply ev_isiLT; walk_at "ev"; assumption)
  | (apply ev_call; walk_at "ea"; walk_at "sv")
  | (apply ev_cb; walk_at "ea"; walk_at "rc")
  | (apply ev_if; walk_at "et"; (intro _; walk_at "ev"); (intro _; walk_at "ev"))
  | (apply ev_chain; walk_at "ev"; walk_at "ev"; walk_at "rv"; walk_at "ev"; walk_at "rv")
  | (apply ev_notV; walk_at "ev")
  | (apply ev_andV; walk_at "ev"; (intro _; walk_at "ev"))
  | (apply ev_orV; walk_at "ev"; (intro _; walk_at "ev")))
local macro_rules | `(tactic| walk_at "et") => `(tactic| first
  | assumption
  | (apply et_test; walk_at "ev")
  | (apply et_B; walk_at "ev")
  | (apply et_not; walk_at "et")
  | (apply et_and; walk_at "et"; (intro _; walk_at "et"))
  | (apply et_or; walk_at "et"; (intro _; walk_at "et"))
  | (apply et_tru; walk_at "ev"; walk_at "tru"))
local macro_rules | `(tactic| walk_at "tru") => `(tactic| first | exact tr_bl | exact tr_L (by assumption) | exact tr_T (by assumption) | exact tr_A (by assumption))
section
variable {P : Program} {w : World} {K : PySem.W.Frag} {mg : Str → Option Value} {base : Heap} {A : Adr}
theorem ok_draw (T : Txt K mg A) : FnOk P w K mg base CX0 1 A.a__law_draw A.f__law_draw ["_law_pool_here", "_law_many"] spDraw := by
  refine T.F__law_draw.ok sc__law_draw (fun vs H Q E h => ?_) (fun cdv Ar outer s H vs Q E hr h => ?_)
  · obtain ⟨p, P, m, rfl, _⟩ := h
    rfl
  · obtain ⟨p, P, m, rfl, hp, m0, m1, k⟩ := h
    refine ⟨_, (pss_cons (ps_if (pt_cmpR opGt (pe_ix (ixAny (K := K)) (pv 0) pe_int (fun _ _ => rfl)) pe_int (nomark _)) (pss_cons (ps_set (i := 2) sc__law_draw.nd rfl (by first | exact Or.inl rfl | exact Or.inr rfl) (pe_op op_mod (pe_ix (ixAny (K := K)) (pv 0) pe_int (fun _ _ => rfl)) (pv 1)))
      (pss_cons (ps_asg (pe_op op_fdiv (pe_ix (ixAny (K := K)) (pv 0) pe_int (fun _ _ => rfl)) (pv 1)) (pg_sub (pv 0) pe_int set_list))
      (pss_one (ps_ret (pv 2))))) pss_nil)
      (pss_cons (ps_asg (pe_op (opAdd (K := K)) (pe_ix (ixAny (K := K)) (pv 0) pe_int (fun _ _ => rfl)) pe_int) (pg_sub (pv 0) pe_int set_list))
      (pss_cons (ps_asg (pe_op op_mod (pe_callTy intOf (by rfl) T.b_int (by decide +kernel) (pa_cons (pe_op (opAdd (K := K)) (pe_op (opAdd (K := K)) (pe_op op_mul (pe_ix (ixAny (K := K)) (pv 0) pe_int (fun _ _ => rfl)) pe_int) (pe_op op_mul (pe_ix (ixAny (K := K)) (pv 0) pe_int (fun _ _ => rfl)) pe_int)) pe_int) pa_nil)) pe_int) (pg_sub (pv 0) pe_int set_list))
      (pss_one (ps_ret (pe_op op_mod (pe_callTy intOf (by rfl) T.b_int (by decide +kernel) (pa_cons (pe_op (opAdd (K := K)) (pe_op op_fdiv (pe_ix (ixAny (K := K)) (pv 0) pe_int (fun _ _ => rfl)) pe_int) (pe_op op_fdiv (pe_op op_mul (pe_ix (ixAny (K := K)) (pv 0) pe_int (fun _ _ => rfl)) pe_int) pe_int)) pa_nil)) (pv 1))))))), ?_⟩
    have hl : SqL K H p P.its := .of hp
    have keep : ∀ {H' : Hp} {o : HO}, Keep (fun a => a = p) H H' → Keep (fun a => a = p) H (upd H' p o) := fun k => k.put rfl
    refine q_when (b := decide (0 < P.big)) (by walk_at "et") (fun c H1 e1 => ?_) (fun c H1 e1 => ?_)
    · have c' : 0 < P.big := of_decide_eq_true c
      have ed : P.draw m = P.big % m := if_pos c'
      have es : P.step m = ⟨P.big / m, P.last, P.cnt⟩ := if_pos c'
      have h1 := e1 _ _ hp
      have hl1 : SqL K H1 p P.its := .of h1
      refine q_asg (i := 2) (v := .int (P.big % m)) (by walk_at "ev") fun H2 e2 => ?_
      have h2 := e2 _ _ h1
      have hl2 : SqL K H2 p P.its := .of h2
      refine q_setL (j := 0) (v := .int (P.big / m)) h2 (by
        apply ev_op
        walk_at "ev"
        walk_at "ev"
        exact rv_I ⟨m0, m1⟩) (by walk_at "ev") (by walk_at "ev") (by show 0 < 3; decide) fun H3 e3 => ?_
      refine s_ret (v := .int (P.big % m)) (by walk_at "ev") fun H4 e4 => ?_
      show Q (.int (P.big % m)) H4
      rw [← ed]
      refine k H4 ((keep (.of ((e1.trans e2).trans e3))).trans (.of e4)) ?_
      rw [es]
      exact e4 _ _ upd_same
    · have c' : ¬ 0 < P.big := of_decide_eq_false c
      have ed : P.draw m = (P.next / 5 + P.next * 31 / 65537) % m := if_neg c'
      have es : P.step m = ⟨P.big, P.next, P.cnt + 1⟩ := if_neg c'
      have h1 := e1 _ _ hp
      have hl1 : SqL K H1 p P.its := .of h1
      refine q_setL (j := 2) (v := .int (P.cnt + 1)) h1 (by walk_at "ev") (by walk_at "ev") (by walk_at "ev") (by show 2 < 3; decide) fun H2 e2 => ?_
      have h2 : upd H2 p (.lst (P.its.set 2 (.int (P.cnt + 1)))) p = some (.lst [.int P.big, .int P.last, .int (P.cnt + 1)]) := upd_same
      have hl2 : SqL K _ p [.int P.big, .int P.last, .int (P.cnt + 1)] := .of h2
      refine q_setL (j := 1) (v := .int P.next) h2 (by walk_at "ev") (by walk_at "ev") (by walk_at "ev") (by show 1 < 3; decide) fun H3 e3 => ?_
      have h3 : upd H3 p (.lst ([V.int P.big, .int P.last, .int (P.cnt + 1)].set 1 (.int P.next))) p = some (.lst [.int P.big, .int P.next, .int (P.cnt + 1)]) := upd_same
      have hl3 : SqL K _ p [.int P.big, .int P.next, .int (P.cnt + 1)] := .of h3
      refine s_ret (v := .int ((P.next / 5 + P.next * 31 / 65537) % m)) (by walk_at "ev") fun H4 e4 => ?_
      show Q (.int ((P.next / 5 + P.next * 31 / 65537) % m)) H4
      rw [← ed]
      refine k H4 ((keep ((keep (.of (e1.trans e2))).trans (.of e3))).trans (.of e4)) ?_
      rw [es]
      exact e4 _ _ h3
def spWhole : Sp := fun vs H Q _ => ∃ (v : V) (d : PyData), vs = [v] ∧ At M0 H v d ∧ ∀ H1, Same H H1 → Q (.bl (wholeD d)) H1
theorem ok_whole (T : Txt K mg A) : FnOk P w K mg base CX0 1 A.a_is_whole A.f_is_whole ["thing"] spWhole := by
  refine T.F_is_whole.ok sc_is_whole (fun vs H Q E h => ?_) (fun cdv Ar outer s H vs Q E hr h => ?_)
  · obtain ⟨v, d, rfl, _⟩ := h
    rfl
  · obtain ⟨v, d, rfl, hd, k⟩ := h
    refine ⟨_, (pss_one (ps_ret (pe_and (pe_callB (isiOne (K := K)) (by rfl) T.b_isinstance (by decide +kernel) (pa_cons (pv 0) (pa_cons (pe_bltn (v := .ty "int") (u := .type "int") (by rfl) T.b_int (by decide +kernel) rfl) pa_nil))) (pe_one (pe_not (pe_callB (isiOne (K := K)) (by rfl) T.b_isinstance (by decide +kernel) (pa_cons (pv 0) (pa_cons (pe_bltn (v := .ty "bool") (u := .type "bool") (by rfl) T.b_bool (by decide +kernel) rfl) pa_nil)))))))), ?_⟩
    exact s_ret (v := .bl (isInt d && !isBool d)) (by walk_at "ev") k
end
end K1
set_option Elab.async false
set_option linter.all false
set_option maxRecDepth 100000
set_option maxHeartbeats 4000000
namespace K1
open PySem PySem.Spec PyProof.Rows L2 LK Evl
local macro_rules | `(tactic| walk_at "rv") => `(tactic| first
  | exact rv_addI | exact rv_I0 | exact rv_I (by decide) | exact rv_I (Or.inr (by omega)) | exact rv_I (Or.inl (by omega)) | exact rv_I (by omega) | exact rv_I ⟨by omega, by omega⟩ | exact rv_I ⟨by decide, by decide, by decide⟩ | exact rv_ltI | exact rv_leI | exact rv_gtI | exact rv_geI | exact rv_eqS rfl | exact rv_neS rfl | exact rv_leS | exact rv_ltS
  | exact rv_inC | exact rv_niC | exact rv_isBl | exact rv_isntBl | exact rv_isN | exact rv_isntN
  | exact rv_xA (by assumption) (by assumption) | exact rv_xT (by assumption) (by assumption) | exact rv_xL (by assumption) (by assumption) | exact rv_xS (by assumption) (by assumption)
  | exact rv_xT (by assumption) rfl | exact rv_xL (by assumption) rfl | exact rv_inA (by assumption) rfl rfl | exact rv_addS (by assumption))
local macro_rules | `(tactic| walk_at "rc") => `(tactic| first
  | exact rc_int | exact rc_ord | exact rc_lenS (by assumption) | exact rc_lenL (by assumption) | exact rc_lenT (by assumption) | exact rc_lenA (by assumption) | exact rc_isiS (by assumption) | exact rc_isiI (by assumption) | exact rc_isiB (by assumption) | exact rc_isiL (by assumption) | exact rc_isiT (by assumption))
local macro_rules | `(tactic| walk_at "ea") => `(tactic| first | exact ea_nil | (apply ea_cons; walk_at "ev"; walk_at "ea"))
local macro_rules | `(tactic| walk_at "ev") => `(tactic| first
  | assumption
  | exact ev_var rfl
  | exact ev_c
  | (apply ev_op; walk_at "ev"; walk_at "ev"; walk_at "rv")
  | (apply ev_un; walk_at "ev"; exact ru_neg)
  | (apply ev_isiLT; walk_at "ev"; assumption)
  | (apply ev_call; walk_at "ea"; walk_at "sv")
  | (apply ev_cb; walk_at "ea"; walk_at "rc")
  | (apply ev_if; walk_at "et"; (intro _; walk_at "ev"); (intro _; walk_at "ev"))
  | (apply ev_chain; walk_at "ev"; walk_at "ev"; walk_at "rv"; walk_at "ev"; walk_at "rv")
  | (apply ev_notV; walk_at "ev")
  | (apply ev_andV; walk_at "ev"; (intro _; walk_at "ev"))
  | (apply ev_orV; walk_at "ev"; (intro _; walk_at "ev")))
local macro_rules | `(tactic| walk_at "et") => `(tactic| first
  | assumption
  | (apply et_test; walk_at "ev")
  | (apply et_B; walk_at "ev")
  | (apply et_not; walk_at "et")
  | (apply et_and; walk_at "et"; (intro _; walk_at "et"))
  | (apply et_or; walk_at "et"; (intro _; walk_at "et"))
  | (apply et_tru; walk_at "ev"; walk_at "tru"))
local macro_rules | `(tactic| walk_at "tru") => `(tactic| first | exact tr_bl | exact tr_L (by assumption) | exact tr_T (by assumption) | exact tr_A (by assumption))
section
variable {P : Program} {w : World} {K : PySem.W.Frag} {mg : Str → Option Value} {base : Heap} {A : Adr}
def spRow : Sp := fun vs H Q _ => ∃ (v : V) (d : PyData) (n : Int), vs = [v, .int n] ∧ At M0 H v d ∧ ∀ H1, Same H H1 → Q (.bl (rowD d n)) H1
theorem ok_row (T : Txt K mg A) : FnOk P w K mg base CX0 1 A.a_is_row A.f_is_row ["thing", "size"] spRow := by
  refine T.F_is_row.ok sc_is_row (fun vs H Q E h => ?_) (fun cdv Ar outer s H vs Q E hr h => ?_)
  · obtain ⟨v, d, n, rfl, _⟩ := h
    rfl
  · obtain ⟨v, d, n, rfl, hd, k⟩ := h
    refine ⟨_, (pss_one (ps_ret (pe_and (pe_callB (isiTup (K := K)) (by rfl) T.b_isinstance (by decide +kernel) (pa_cons (pv 0) (pa_cons (pe_tup (pa_cons (pe_bltn (v := .ty "list") (u := .type "list") (by rfl) T.b_list (by decide +kernel) rfl) (pa_cons (pe_bltn (v := .ty "tuple") (u := .type "tuple") (by rfl) T.b_tuple (by decide +kernel) rfl) pa_nil))) pa_nil))) (pe_one (pe_cmpR (opEq (K := K) hr) (pe_callB (lenAny (K := K)) (by rfl) T.b_len (by decide +kernel) (pa_cons (pv 0) pa_nil)) (pv 1) (nomark _)))))), ?_⟩
    refine s_ret (v := .bl (rowD d n)) ?_ k
    have h1 := fun (σ : L2.St) (hσ : σ[0]? = some (some v)) => ev_isiLT (K := K) (σ := σ) (ev_var (i := 0) hσ) hd
    cases hd with
    | lst a h r =>
      have hl : SqL K H _ _ := .of h
      refine ev_and1 (b := decide ((lenD _ : Int) = n)) (h1 _ rfl) ?_
      rw [show lenD (.list _) = _ from r.len.symm, show ∀ i : Int, decide (i = n) = decide (V.int i = .int n) from fun i => by simp]
      walk_at "ev"
    | tup a h r =>
      have hl : SqT K H _ _ := .of h
      refine ev_and1 (b := decide ((lenD _ : Int) = n)) (h1 _ rfl) ?_
      rw [show lenD (.tuple _) = _ from r.len.symm, show ∀ i : Int, decide (i = n) = decide (V.int i = .int n) from fun i => by simp]
      walk_at "ev"
    | _ => exact ev_and0 (h1 _ rfl)
def spName : Sp := fun vs H Q _ => ∃ (v : V) (d : PyData), vs = [v] ∧ At M0 H v d ∧ ∀ H1, Same H H1 → Q (.bl (nameD d)) H1
theorem ok_name (T : Txt K mg A) : FnOk P w K mg base CX0 1 A.a_is_name A.f_is_name ["thing"] spName := by
  refine T.F_is_name.ok sc_is_name (fun vs H Q E h => ?_) (fun cdv Ar outer s H vs Q E hr h => ?_)
  · obtain ⟨v, d, rfl, _⟩ := h
    rfl
  · obtain ⟨v, d, rfl, hd, k⟩ := h
    refine ⟨_, (pss_cons (ps_if (PW.pt (pw_or (pt_not (ptTr (K := K) (pe_callB (isiOne (K := K)) (by rfl) T.b_isinstance (by decide +kernel) (pa_cons (pv 0) (pa_cons (pe_bltn (v := .ty "str") (u := .type "str") (by rfl) T.b_str (by decide +kernel) rfl) pa_nil))))) (pw_or1 (pt_not (pt_chain opLe opLe pe_int (pe_callB (lenAny (K := K)) (by rfl) T.b_len (by decide +kernel) (pa_cons (pv 0) pa_nil)) pe_int))))) (pss_one (ps_ret pe_bl)) pss_nil)
      (pss_one (ps_ret (pe_and (pe_cmpR (opIn (K := K)) (pe_ix (ixAny (K := K)) (pv 0) pe_int (fun _ _ => rfl)) (pe_glob (v := .str (Str.ofString "abcdefghijklmnopqrstuvwxyz")) rfl T.g_LETTERS ⟨_, rfl⟩) rfl) (pe_one (pe_callB (allOf (K := K) rfl) (by rfl) T.b_all (by decide +kernel) (pa_cons (pe_lc (own := [("sign", 1)]) (g := gName 1) rfl sc_is_name.nd (pi_str (pv 0)) (blkOk_by (own := [("sign", 1)]) (N := N_is_name) (sc := defScope s_is_name) (by decide +kernel)) (fun _ _ _ _ _ => (pg_name (i := 1) sc_is_name.nd rfl (by first | exact Or.inl rfl | exact Or.inr rfl))) (fun _ _ _ _ _ => pts_nil) (fun _ _ _ _ _ => (pe_cmpR (opIn (K := K)) (pv 1) (pe_glob (v := .str (Str.ofString "abcdefghijklmnopqrstuvwxyz0123456789")) rfl T.g_SIGNS ⟨_, rfl⟩) rfl))) pa_nil))))))), ?_⟩
    by_cases hs : isStr d = true
    · obtain ⟨x, hx, rfl, rfl⟩ := hd.strOf hs
      refine q_when (b := !isStr (.str x) || !(decide (1 ≤ (x.length : Int)) && decide ((x.length : Int) ≤ 8))) (by walk_at "et") (fun c H1 e1 => ?_) (fun c H1 e1 => ?_)
      · refine s_ret (v := .bl (nameD (.str x))) (ev_is ev_c ?_) fun H2 e2 => k H2 (e1.trans e2)
        have hL : x.cps.toList.length = x.length := by simp [Str.length]
        have c' : ¬ (1 ≤ x.cps.toList.length ∧ x.cps.toList.length ≤ 8) := by
          intro ⟨z1, z2⟩
          simp [isStr] at c
          omega
        show V.bl false = .bl (nameL x.cps.toList)
        unfold nameL
        rw [decide_eq_false c', Bool.false_and]
      · have hL : x.cps.toList.length = x.length := by simp [Str.length]
        have c' : 1 ≤ x.cps.toList.length ∧ x.cps.toList.length ≤ 8 := by
          simp [isStr] at c
          omega
        refine s_ret (v := .bl (nameD (.str x))) ?_ fun H2 e2 => k H2 (e1.trans e2)
        show Ev _ _ _ (.bl (nameL x.cps.toList))
        unfold nameL
        rw [decide_eq_true c', Bool.true_and]
        have ha : atI x.cps.toList 0 = some (x.cps.toList.headD 0) := at_head (by omega)
        refine ev_andV (by walk_at "ev") fun _ => ev_allP (el_lcS (fun c => V.bl (decide (c ∈ signsL))) (ev_var rfl) (by omega) (fun _ => rfl) fun c H2 e2 hc => ?_)
        walk_at "ev"
    · have hs' : isStr d = false := by simpa using hs
      have t : EvT (tTr K (tCB (rIsi K) (tCons (tVar 0) (tCons (tC (V.ty "str")) tNil)))) (L2.start N_is_name [v]) H (isStr d) := by walk_at "et"
      rw [hs'] at t
      refine q_when (b := true) (et_or1 (et_ya t)) (fun _ H1 e1 => s_ret (v := .bl (nameD d)) (ev_is ev_c ?_) fun H2 e2 => k H2 (e1.trans e2)) (fun c => by cases c)
      cases d <;> first | rfl | cases hs'
theorem sv_whole {H : Hp} {v : V} {d : PyData} (hd : At M0 H v d) : SpV spWhole [v] H (.bl (wholeD d)) := fun H1 e Q q E => ⟨v, d, rfl, hd.ex e, q⟩
local macro_rules | `(tactic| walk_at "sv") => `(tactic| first | exact sv_whole (by assumption))
theorem ok_pool (T : Txt K mg A) : FnOk P w K mg base CX0 1 A.a__law_pool A.f__law_pool ["_law_script", "_law_at"] (spPool K) := by
  refine T.F__law_pool.ok sc__law_pool (fun vs H Q E h => ?_) (fun cdv Ar outer s H vs Q E hr h => ?_)
  · obtain ⟨a, ns, i, rfl, _⟩ := h
    rfl
  · obtain ⟨a, ns, i, rfl, hS, hl, hi, k⟩ := h
    refine ⟨_, (pss_cons (ps_set (i := 2) sc__law_pool.nd rfl (by first | exact Or.inl rfl | exact Or.inr rfl) (pe_ifExp (pt_cmpR opLt (pv 1) (pe_callB (lenAny (K := K)) (by rfl) T.b_len (by decide +kernel) (pa_cons (pv 0) pa_nil)) (nomark _)) (pe_ix (ixAny (K := K)) (pv 0) (pv 1) (fun _ _ => rfl)) pe_int))
      (pss_cons (ps_set (i := 3) sc__law_pool.nd rfl (by first | exact Or.inl rfl | exact Or.inr rfl) (pe_ifExp (pt_cmpR opGe (pv 2) pe_int (nomark _)) (pe_op op_mul (pv 2) pe_int) (pe_op op_sub pe_int (pe_op op_mul (pv 2) pe_int))))
      (pss_cons (ps_set (i := 4) sc__law_pool.nd rfl (by first | exact Or.inl rfl | exact Or.inr rfl) (pe_op op_mod (pe_callTy intOf (by rfl) T.b_int (by decide +kernel) (pa_cons (pe_op (opAdd (K := K)) (pe_op (opAdd (K := K)) (pe_op (opAdd (K := K)) (pe_op op_mul (pv 3) pe_int) (pe_op op_mul (pv 1) pe_int)) (pe_op op_mul (pe_callB (lenAny (K := K)) (by rfl) T.b_len (by decide +kernel) (pa_cons (pv 0) pa_nil)) pe_int)) pe_int) pa_nil)) pe_int))
      (pss_one (ps_ret (pe_lst (pa_cons (pe_ifExp (pt_cmpR opGe (pv 3) (pe_op op_pow pe_int pe_int) (nomark _)) (pv 3) pe_int) (pa_cons (pv 4) (pa_cons pe_int pa_nil))))))))), ?_⟩
    have hlen : (ns.map V.int).length = ns.length := List.length_map _
    refine q_asg (i := 2) (v := .int (cellAt_ ns i)) (ev_if (b := decide ((i : Int) < ((ns.map V.int).length : Nat))) (by walk_at "et") (fun c => ?_) (fun c => ?_)) fun H1 e1 => ?_
    · have c' : i < ns.length := by
        simp at c
        omega
      have ha : atI (ns.map V.int) (i : Int) = some (.int (ns.getD i 0)) := at_nat (by simp [List.getD_eq_getElem?_getD, c'])
      unfold cellAt_
      rw [if_pos c']
      walk_at "ev"
    · have c' : ¬ i < ns.length := by
        simp at c
        omega
      unfold cellAt_
      rw [if_neg c']
      walk_at "ev"
    · have hS1 := Same.seq e1 hS
      refine q_asg (i := 3) (v := .int (sizeOf_ (cellAt_ ns i))) (ev_if (b := decide ((0 : Int) ≤ cellAt_ ns i)) (by walk_at "et") (fun c => ?_) (fun c => ?_)) fun H2 e2 => ?_
      · unfold sizeOf_
        rw [if_pos (of_decide_eq_true c)]
        walk_at "ev"
      · unfold sizeOf_
        rw [if_neg (of_decide_eq_false c)]
        walk_at "ev"
      · have hS2 := Same.seq e2 hS1
        refine q_asg (i := 4) (v := .int ((sizeOf_ (cellAt_ ns i) * 48271 + (i : Int) * 69621 + ((ns.map V.int).length : Int) * 7919 + 104729) % 2147483647)) (by walk_at "ev") fun H3 e3 => ?_
        refine s_retL (xs := (poolOf ns i).its) (el_lst ?_ (by show 3 ≤ 100000; decide)) fun p H4 hp e4 h4 => ?_
        · refine ea_cons (ev_if (b := decide ((10 : Int) ^ 18 ≤ sizeOf_ (cellAt_ ns i))) (by walk_at "et") (fun c => ?_) (fun c => ?_)) (ea_cons ?_ (by walk_at "ea"))
          · unfold poolOf
            rw [if_pos (of_decide_eq_true c)]
            walk_at "ev"
          · unfold poolOf
            rw [if_neg (of_decide_eq_false c)]
            walk_at "ev"
          · unfold poolOf
            rw [← hlen]
            walk_at "ev"
        · exact k p H4 (fr_back (e1.trans (e2.trans e3)) hp) ((e1.trans (e2.trans e3)).trans e4) h4
theorem sv_row {H : Hp} {v : V} {d : PyData} {n : Int} (hd : At M0 H v d) : SpV spRow [v, .int n] H (.bl (rowD d n)) := fun H1 e Q q E => ⟨v, d, n, rfl, hd.ex e, q⟩
theorem sv_name {H : Hp} {v : V} {d : PyData} (hd : At M0 H v d) : SpV spName [v] H (.bl (nameD d)) := fun H1 e Q q E => ⟨v, d, rfl, hd.ex e, q⟩
end
end K1
set_option Elab.async false
set_option linter.all false
set_option maxRecDepth 100000
set_option maxHeartbeats 4000000
namespace K1
open PySem PySem.Spec PyProof.Rows L2 LK Evl
local macro_rules | `(tactic| walk_at "rv") => `(tactic| first
  | exact rv_addI | exact rv_I0 | exact rv_I (by decide) | exact rv_I (Or.inr (by omega)) | exact rv_I (Or.inl (by omega)) | exact rv_I (by omega) | exact rv_I ⟨by omega, by omega⟩ | exact rv_I ⟨by decide, by decide, by decide⟩ | exact rv_ltI | exact rv_leI | exact rv_gtI | exact rv_geI | exact rv_eqS rfl | exact rv_neS rfl | exact rv_leS | exact rv_ltS
  | exact rv_inC | exact rv_niC | exact rv_isBl | exact rv_isntBl | exact rv_isN | exact rv_isntN
  | exact rv_xA (by assumption) (by assumption) | exact rv_xT (by assumption) (by assumption) | exact rv_xL (by assumption) (by assumption) | exact rv_xS (by assumption) (by assumption)
  | exact rv_xT (by assumption) rfl | exact rv_xL (by assumption) rfl | exact rv_inA (by assumption) rfl rfl | exact rv_addS (by assumption))
local macro_rules | `(tactic| walk_at "rc") => `(tactic| first
  | exact rc_int | exact rc_ord | exact rc_lenS (by assumption) | exact rc_lenL (by assumption) | exact rc_lenT (by assumption) | exact rc_lenA (by assumption) | exact rc_isiS (by assumption) | exact rc_isiI (by assumption) | exact rc_isiB (by assumption) | exact rc_isiL (by assumption) | exact rc_isiT (by assumption))
local macro_rules | `(tactic| walk_at "ea") => `(tactic| first | exact ea_nil | (apply ea_cons; walk_at "ev"; walk_at "ea"))
local macro_rules | `(tactic| walk_at "ev") => `(tactic| first
  | assumption
  | exact ev_var rfl
  | exact ev_c
  | (apply ev_op; walk_at "ev"; walk_at "ev"; walk_at "rv")
  | (apply ev_un; walk_at "ev"; exact ru_neg)
  | (apply ev_isiLT; walk_at "ev"; assumption)
  | (apply ev_call; walk_at "ea"; walk_at "sv")
  | (apply ev_cb; walk_at "ea"; walk_at "rc")
  | (apply ev_if; walk_at "et"; (intro _; walk_at "ev"); (intro _; walk_at "ev"))
  | (apply ev_chain; walk_at "ev"; walk_at "ev"; walk_at "rv"; walk_at "ev"; walk_at "rv")
  | (apply ev_notV; walk_at "ev")
  | (apply ev_andV; walk_at "ev"; (intro _; walk_at "ev"))
  | (apply ev_orV; walk_at "ev"; (intro _; walk_at "ev")))
local macro_rules | `(tactic| walk_at "et") => `(tactic| first
  | assumption
  | (apply et_test; walk_at "ev")
  | (apply et_B; walk_at "ev")
  | (apply et_not; walk_at "et")
  | (apply et_and; walk_at "et"; (intro _; walk_at "et"))
  | (apply et_or; walk_at "et"; (intro _; walk_at "et"))
  | (apply et_tru; walk_at "ev"; walk_at "tru"))
local macro_rules | `(tactic| walk_at "tru") => `(tactic| first | exact tr_bl | exact tr_L (by assumption) | exact tr_T (by assumption) | exact tr_A (by assumption))
abbrev bkF : List (Str × V) := [("what", .str "kind")]
section
variable {P : Program} {w : World} {K : PySem.W.Frag} {mg : Str → Option Value} {base : Heap} {A : Adr}
def spBK (C : Addr) : Sp := fun vs H Q _ => ∃ a, vs = [.ref a] ∧ H a = some (exo a C none) ∧ ∀ d, H d = none → d ≠ a → Q .non (upd (upd H d (exd d bkF)) a (exo a C (some d)))
theorem ok_bk (T : Txt K mg A) : FnOk P w K mg base CX0 1 A.a_BadKind___init__ A.f_BadKind___init__ ["self"] (spBK A.c_BadKind) := by
  refine T.F_BadKind___init__.ok sc_BadKind___init__ (fun vs H Q E h => ?_) (fun cdv Ar outer s H vs Q E hr h => ?_)
  · obtain ⟨a, rfl, _⟩ := h
    rfl
  · obtain ⟨a, rfl, ha, k⟩ := h
    refine ⟨_, (pss_one (ps_ost (pv 0) pe_str)), ?_⟩
    exact ⟨_, rfl, a, A.c_BadKind, rfl, T.x_BadKind, T.n_what, .inl ⟨ha, fun d hd hne => k d hd hne⟩⟩
/-- what a raised BadKind leaves -/
abbrev Bad (C : Addr) (E : XK) (H : Hp) : Prop := ∀ d H', Same H H' → H' d = some (.xd bkF) → E (.ref C) (some d) H'
theorem Bad.same {C : Addr} {E : XK} {H H' : Hp} (h : Bad C E H) (e : Same H H') : Bad C E H' := fun d H2 e2 hd => h d H2 (e.trans e2) hd
theorem raise_bk {C : Addr} {E : XK} {H : Hp} {σ : L2.St} (h : Bad C E H) : tMk0 C (spBK C) σ H fun cls d H' => E cls d H' := by
  intro a ha
  refine ⟨a, rfl, upd_same, fun d hd hne => ⟨rfl, d, bkF, upd_same, ?_, ?_, ?_⟩⟩
  · rw [upd_ne hne]
    exact upd_same
  · rw [upd_ne hne] at hd
    exact hd
  · rw [upd_ne hne] at hd
    refine h d _ (fun b o e => ?_) upd_same
    have n1 : b ≠ a := ne_of_none e ha
    have n2 : b ≠ d := ne_of_none e hd
    rw [upd_ne n2, del_ne n1, upd_ne n1, upd_ne n2, upd_ne n1]
    exact e
def spCK (C : Addr) (n : Nat) : Sp := fun vs H Q E => ∃ (v : V) (d : PyData) (M : Addr → Prop), vs = [v, .int (13 - (n : Int))] ∧ At M H v d ∧ Trk M H ∧
  (∀ d' v' H', chk n d = some d' → Same H H' → At M H' v' d' → Q v' H') ∧ (chk n d = none → Bad C E H)
def spCC (C : Addr) (n : Nat) : Sp := fun vs H Q E => ∃ (v : V) (d : PyData) (M : Addr → Prop), vs = [v, .int (12 - (n : Int))] ∧ At M H v d ∧ Trk M H ∧
  (∀ ds v' H', cplD (chk n) d = some ds → Same H H' → At M H' v' (.tuple ds) → Q v' H') ∧ (cplD (chk n) d = none → Bad C E H)
theorem ok_ck0 (T : Txt K mg A) : FnOk P w K mg base (L2.CX P w) 3 A.a_checked_kind A.f_checked_kind ["kind", "deep"] (spCK A.c_BadKind 0) := by
  have G_BadKind := ok_bk (P := P) (w := w) (base := base) T
  refine T.F_checked_kind.okX sc_checked_kind (fun vs H Q E h => ?_) (fun cdv Ar outer s H vs Q E hr h => ?_)
  · obtain ⟨v, d, M, rfl, _⟩ := h
    rfl
  · obtain ⟨v, d, M, rfl, hd, hM, kS, kN⟩ := h
    refine ⟨_, (pss_cons (ps_if (pt_cmpR opGt (pv 1) pe_int (nomark _)) (pss_one (psRaise0 rfl (W := fun cls d _ H => E cls d H) (takes_of rfl rfl rfl rfl) T.x_BadKind T.i_BadKind T.t_BadKind G_BadKind (hr.mono (by omega)) T.b_BadKind___init__ pass0 rfl T.g_BadKind)) pss_nil) pss_never), ?_⟩
    refine q_when (b := true) ?_ (fun _ H1 e1 => ?_) (fun c => by cases c)
    · refine et_is (by walk_at "et") ?_
      rfl
    · exact raise_bk ((kN rfl).same e1)
end
end K1
set_option Elab.async false
set_option linter.all false
set_option maxRecDepth 100000
set_option maxHeartbeats 4000000
namespace K1
open PySem PySem.Spec PyProof.Rows L2 LK Evl
local macro_rules | `(tactic| walk_at "rv") => `(tactic| first
  | exact rv_addI | exact rv_I0 | exact rv_I (by decide) | exact rv_I (Or.inr (by omega)) | exact rv_I (Or.inl (by omega)) | exact rv_I (by omega) | exact rv_I ⟨by omega, by omega⟩ | exact rv_I ⟨by decide, by decide, by decide⟩ | exact rv_ltI | exact rv_leI | exact rv_gtI | exact rv_geI | exact rv_eqS rfl | exact rv_neS rfl | exact rv_leS | exact rv_ltS
  | exact rv_inC | exact rv_niC | exact rv_isBl | exact rv_isntBl | exact rv_isN | exact rv_isntN
  | exact rv_xA (by assumption) (by assumption) | exact rv_xT (by assumption) (by assumption) | exact rv_xL (by assumption) (by assumption) | exact rv_xS (by assumption) (by assumption)
  | exact rv_xT (by assumption) rfl | exact rv_xL (by assumption) rfl | exact rv_inA (by assumption) rfl rfl | exact rv_addS (by assumption))
local macro_rules | `(tactic| walk_at "rc") => `(tactic| first
  | exact rc_int | exact rc_ord | exact rc_lenS (by assumption) | exact rc_lenL (by assumption) | exact rc_lenT (by assumption) | exact rc_lenA (by assumption) | exact rc_isiS (by assumption) | exact rc_isiI (by assumption) | exact rc_isiB (by assumption) | exact rc_isiL (by assumption) | exact rc_isiT (by assumption))
local macro_rules | `(tactic| walk_at "ea") => `(tactic| first | exact ea_nil | (apply ea_cons; walk_at "ev"; walk_at "ea"))
local macro_rules | `(tactic| walk_at "ev") => `(tactic| first
  | assumption
  | exact ev_var rfl
  | exact ev_c
  | (apply ev_op; walk_at "ev"; walk_at "ev"; walk_at "rv")
  | (apply ev_un; walk_at "ev"; exact ru_neg)
  | (apply ev_isiLT; walk_at "ev"; assumption)
  | (apply ev_call; walk_at "ea"; walk_at "sv")
  | (apply ev_cb; walk_at "ea"; walk_at "rc")
  | (apply ev_if; walk_at "et"; (intro _; walk_at "ev"); (intro _; walk_at "ev"))
  | (apply ev_chain; walk_at "ev"; walk_at "ev"; walk_at "rv"; walk_at "ev"; walk_at "rv")
  | (apply ev_notV; walk_at "ev")
  | (apply ev_andV; walk_at "ev"; (intro _; walk_at "ev"))
  | (apply ev_orV; walk_at "ev"; (intro _; walk_at "ev")))
local macro_rules | `(tactic| walk_at "et") => `(tactic| first
  | assumption
  | (apply et_test; walk_at "ev")
  | (apply et_B; walk_at "ev")
  | (apply et_not; walk_at "et")
  | (apply et_and; walk_at "et"; (intro _; walk_at "et"))
  | (apply et_or; walk_at "et"; (intro _; walk_at "et"))
  | (apply et_tru; walk_at "ev"; walk_at "tru"))
local macro_rules | `(tactic| walk_at "tru") => `(tactic| first | exact tr_bl | exact tr_L (by assumption) | exact tr_T (by assumption) | exact tr_A (by assumption))
local macro_rules | `(tactic| walk_at "sv") => `(tactic| first | exact sv_whole (by assumption) | exact sv_row (by assumption) | exact sv_name (by assumption) | exact sv_fits (by assumption))
section
variable {P : Program} {w : World} {K : PySem.W.Frag} {mg : Str → Option Value} {base : Heap} {A : Adr}
theorem eo_ck {C : Addr} {E : XK} {M : Addr → Prop} {H : Hp} {σ : L2.St} {ta : TA} {v : V} {d : PyData} {n : Nat} (hd : At M H v d) (hM : Trk M H) (hE : chk n d = none → Bad C E H) (ha : EvA ta σ H [v, .int (13 - (n : Int))]) :
    EvO M (tCallS (spCK C n) (WE fun cls d _ H => E cls d H) ta) σ H (chk n d) := fun H1 e Q q =>
  ha H1 e _ fun H2 e2 => ⟨v, d, M, rfl, hd.ex (e.trans e2), hM.same (e.trans e2), fun d' v' H' h s a => q d' v' H' h (e2.trans s) a, fun h => (hE h).same (e.trans e2)⟩
theorem eo_cc {C : Addr} {E : XK} {M : Addr → Prop} {H : Hp} {σ : L2.St} {ta : TA} {v : V} {d : PyData} {n : Nat} (hd : At M H v d) (hM : Trk M H) (hE : cplD (chk n) d = none → Bad C E H) (ha : EvA ta σ H [v, .int (12 - (n : Int))]) :
    EvO M (tCallS (spCC C n) (WE fun cls d _ H => E cls d H) ta) σ H ((cplD (chk n) d).map .tuple) := fun H1 e Q q =>
  ha H1 e _ fun H2 e2 => ⟨v, d, M, rfl, hd.ex (e.trans e2), hM.same (e.trans e2), fun d' v' H' h s a => q (.tuple d') v' H' (by rw [h] <;> rfl) (e2.trans s) a, fun h => (hE h).same (e.trans e2)⟩
theorem chk_seq {n : Nat} {d : PyData} (h : isSeq d = true) : chk (n + 1) d = chkSeq (chk n) (itemsD d) := by
  cases d <;> first | rfl | (cases h; done)
theorem chk_odd {n : Nat} {d : PyData} (h : isSeq d = false) (h2 : isStr d = false) : chk (n + 1) d = none := by
  cases d <;> first | rfl | (cases h; done) | (cases h2; done)
theorem inBases (x : Str) : inV (.str x) [.str "int", .str "text", .str "truth"] = isBaseS x := by
  unfold inV isBaseS
  simp only [List.any_cons, List.any_nil, eqV, Bool.or_false]
  have e : ∀ a b : Str, (a == b) = decide (b = a) := fun a b => by
    rw [Bool.eq_iff_iff, beq_iff_eq, decide_eq_true_iff]
    exact eq_comm
  rw [e, e, e]
theorem chkSeq_odd {f : PyData → Option PyData} {d0 : PyData} {r : List PyData} (h : isStr d0 = false) : chkSeq f (d0 :: r) = none := by
  cases d0 <;> first | (cases h; done) | (rcases r with _ | ⟨_, _ | ⟨_, _ | _⟩⟩ <;> rfl)
theorem two_of {w u : Str} {k : Nat} {m : Int} (c : (decide (V.str w = .str u) && decide (V.int (k : Int) = .int m)) = true) : w = u ∧ (k : Int) = m := by
  rw [Bool.and_eq_true, decide_eq_true_iff, decide_eq_true_iff] at c
  exact ⟨V.str.inj c.1, V.int.inj c.2⟩
theorem two_no {w u : Str} {k : Nat} {m : Int} (c : (decide (V.str w = .str u) && decide (V.int (k : Int) = .int m)) = false) (h : w = u) : ¬ (k : Int) = m := fun e => by
  rw [h, e] at c
  simp at c
theorem ats_nil {M : Addr → Prop} {H : Hp} {ds : List PyData} (h : Ats M H [] ds) : ds = [] := by
  cases h
  rfl
theorem len2 {a b : V} {l : List V} (h : ((a :: b :: l).length : Int) = 2) : l = [] := by
  simp only [List.length_cons] at h
  exact List.eq_nil_of_length_eq_zero (by omega)
theorem len3 {a b : V} {l : List V} (h : ((a :: b :: l).length : Int) = 3) : ∃ c, l = [c] := by
  cases l with
  | nil => simp at h
  | cons c l =>
    simp only [List.length_cons] at h
    rw [List.eq_nil_of_length_eq_zero (show l.length = 0 by omega)]
    exact ⟨c, rfl⟩
theorem cs_list {f : PyData → Option PyData} {x : PyData} : chkSeq f [.str "list", x] = (f x).map fun y => .tuple [.str "list", y] := by
  show chk2 _ _ _ = _
  unfold chk2
  rw [if_pos rfl]
theorem cs_record {f : PyData → Option PyData} {x : PyData} : chkSeq f [.str "record", x] = (cplD f x).map fun ys => .tuple [.str "record", .tuple ys] := by
  show chk2 _ _ _ = _
  unfold chk2
  rw [if_neg (by decide), if_pos rfl]
theorem cs_any {f : PyData → Option PyData} {x : PyData} : chkSeq f [.str "any", x] = anyD x := by
  show chk2 _ _ _ = _
  unfold chk2
  rw [if_neg (by decide), if_neg (by decide), if_pos rfl]
theorem cs_function {f : PyData → Option PyData} {x y : PyData} : chkSeq f [.str "function", x, y] = (f x).bind fun a => (f y).map fun b => .tuple [.str "function", a, b] := by
  show chk3 _ _ _ _ = _
  unfold chk3
  rw [if_pos rfl]
theorem cs_none2 {f : PyData → Option PyData} {w : Str} {x : PyData} (h1 : ¬ w = "list") (h2 : ¬ w = "record") (h3 : w = "any" → (wholeD x && geD x) = false) : chkSeq f [.str w, x] = none := by
  show chk2 _ _ _ = _
  unfold chk2
  rw [if_neg h1, if_neg h2]
  by_cases h : w = "any"
  · rw [if_pos h, anyD, h3 h]
    rfl
  · rw [if_neg h]
theorem cs_none3 {f : PyData → Option PyData} {w : Str} {x y : PyData} (h1 : ¬ w = "function") : chkSeq f [.str w, x, y] = none := by
  show chk3 _ _ _ _ = _
  unfold chk3
  rw [if_neg h1]
theorem ok_cks (n : Nat) (T : Txt K mg A) (G_checked_kind : FnOk P w K mg base (L2.CX P w) (2 * n + 3) A.a_checked_kind A.f_checked_kind ["kind", "deep"] (spCK A.c_BadKind n))
    (G_check_couples : FnOk P w K mg base (L2.CX P w) (2 * n + 4) A.a_check_couples A.f_check_couples ["couples", "deep"] (spCC A.c_BadKind n)) :
    FnOk P w K mg base (L2.CX P w) (2 * n + 5) A.a_checked_kind A.f_checked_kind ["kind", "deep"] (spCK A.c_BadKind (n + 1)) := by
  have G_BadKind := ok_bk (P := P) (w := w) (base := base) T
  have G_is_whole := ok_whole (P := P) (w := w) (base := base) T
  refine T.F_checked_kind.okX sc_checked_kind (fun vs H Q E h => ?_) (fun cdv Ar outer s H vs Q E hr h => ?_)
  · obtain ⟨v, d, M, rfl, _⟩ := h
    rfl
  · obtain ⟨v, d, M, rfl, hd, hM, kS, kN⟩ := h
    refine ⟨_, (pss_cons (ps_if (pt_cmpR opGt (pv 1) pe_int (nomark _)) (pss_one (psRaise0 rfl (W := fun cls d _ H => E cls d H) (takes_of rfl rfl rfl rfl) T.x_BadKind T.i_BadKind T.t_BadKind G_BadKind (hr.mono (by omega)) T.b_BadKind___init__ pass0 rfl T.g_BadKind)) pss_nil)
      (pss_cons (ps_if (PW.pt (pw_and (ptTr (K := K) (pe_callB (isiOne (K := K)) (by rfl) T.b_isinstance (by decide +kernel) (pa_cons (pv 0) (pa_cons (pe_bltn (v := .ty "str") (u := .type "str") (by rfl) T.b_str (by decide +kernel) rfl) pa_nil)))) (pw_and1 (pt_cmpR (opIn (K := K)) (pv 0) (pe_glob (v := .ref A.a_BASES) rfl T.g_BASES rfl) rfl)))) (pss_one (ps_ret (pv 0))) pss_nil)
      (pss_cons (ps_if (PW.pt (pw_or (pt_not (ptTr (K := K) (pe_callB (isiTup (K := K)) (by rfl) T.b_isinstance (by decide +kernel) (pa_cons (pv 0) (pa_cons (pe_tup (pa_cons (pe_bltn (v := .ty "list") (u := .type "list") (by rfl) T.b_list (by decide +kernel) rfl) (pa_cons (pe_bltn (v := .ty "tuple") (u := .type "tuple") (by rfl) T.b_tuple (by decide +kernel) rfl) pa_nil))) pa_nil))))) (pw_or (pt_cmpR opLt (pe_callB (lenAny (K := K)) (by rfl) T.b_len (by decide +kernel) (pa_cons (pv 0) pa_nil)) pe_int (nomark _)) (pw_or1 (pt_not (ptTr (K := K) (pe_callB (isiOne (K := K)) (by rfl) T.b_isinstance (by decide +kernel) (pa_cons (pe_ix (ixAny (K := K)) (pv 0) pe_int (fun _ _ => rfl)) (pa_cons (pe_bltn (v := .ty "str") (u := .type "str") (by rfl) T.b_str (by decide +kernel) rfl) pa_nil))))))))) (pss_one (psRaise0 rfl (W := fun cls d _ H => E cls d H) (takes_of rfl rfl rfl rfl) T.x_BadKind T.i_BadKind T.t_BadKind G_BadKind (hr.mono (by omega)) T.b_BadKind___init__ pass0 rfl T.g_BadKind)) pss_nil)
      (pss_cons (ps_set (i := 2) sc_checked_kind.nd rfl (by first | exact Or.inl rfl | exact Or.inr rfl) (pe_ix (ixAny (K := K)) (pv 0) pe_int (fun _ _ => rfl)))
      (pss_cons (ps_if (PW.pt (pw_and (pt_cmpR (opEq (K := K) hr) (pv 2) pe_str (nomark _)) (pw_and1 (pt_cmpR (opEq (K := K) hr) (pe_callB (lenAny (K := K)) (by rfl) T.b_len (by decide +kernel) (pa_cons (pv 0) pa_nil)) pe_int (nomark _))))) (pss_one (ps_ret (pe_tup (pa_cons pe_str (pa_cons (pe_callS G_checked_kind (hr.mono (by omega)) rfl T.g_checked_kind T.F_checked_kind.kp T.b_checked_kind (fun σ => passAt (W := fun cls d _ H => E cls d H) (takes_of rfl rfl rfl rfl) σ) (pa_cons (pe_ix (ixAny (K := K)) (pv 0) pe_int (fun _ _ => rfl)) (pa_cons (pe_op (opAdd (K := K)) (pv 1) pe_int) pa_nil))) pa_nil))))) pss_nil)
      (pss_cons (ps_if (PW.pt (pw_and (pt_cmpR (opEq (K := K) hr) (pv 2) pe_str (nomark _)) (pw_and1 (pt_cmpR (opEq (K := K) hr) (pe_callB (lenAny (K := K)) (by rfl) T.b_len (by decide +kernel) (pa_cons (pv 0) pa_nil)) pe_int (nomark _))))) (pss_one (ps_ret (pe_tup (pa_cons pe_str (pa_cons (pe_callS G_check_couples (hr.mono (by omega)) rfl T.g_check_couples T.F_check_couples.kp T.b_check_couples (fun σ => passAt (W := fun cls d _ H => E cls d H) (takes_of rfl rfl rfl rfl) σ) (pa_cons (pe_ix (ixAny (K := K)) (pv 0) pe_int (fun _ _ => rfl)) (pa_cons (pv 1) pa_nil))) pa_nil))))) pss_nil)
      (pss_cons (ps_if (PW.pt (pw_and (pt_cmpR (opEq (K := K) hr) (pv 2) pe_str (nomark _)) (pw_and1 (pt_cmpR (opEq (K := K) hr) (pe_callB (lenAny (K := K)) (by rfl) T.b_len (by decide +kernel) (pa_cons (pv 0) pa_nil)) pe_int (nomark _))))) (pss_one (ps_ret (pe_tup (pa_cons pe_str (pa_cons (pe_callS G_checked_kind (hr.mono (by omega)) rfl T.g_checked_kind T.F_checked_kind.kp T.b_checked_kind (fun σ => passAt (W := fun cls d _ H => E cls d H) (takes_of rfl rfl rfl rfl) σ) (pa_cons (pe_ix (ixAny (K := K)) (pv 0) pe_int (fun _ _ => rfl)) (pa_cons (pe_op (opAdd (K := K)) (pv 1) pe_int) pa_nil))) (pa_cons (pe_callS G_checked_kind (hr.mono (by omega)) rfl T.g_checked_kind T.F_checked_kind.kp T.b_checked_kind (fun σ => passAt (W := fun cls d _ H => E cls d H) (takes_of rfl rfl rfl rfl) σ) (pa_cons (pe_ix (ixAny (K := K)) (pv 0) pe_int (fun _ _ => rfl)) (pa_cons (pe_op (opAdd (K := K)) (pv 1) pe_int) pa_nil))) pa_nil)))))) pss_nil)
      (pss_cons (ps_if (PW.pt (pw_and (pt_cmpR (opEq (K := K) hr) (pv 2) pe_str (nomark _)) (pw_and (pt_cmpR (opEq (K := K) hr) (pe_callB (lenAny (K := K)) (by rfl) T.b_len (by decide +kernel) (pa_cons (pv 0) pa_nil)) pe_int (nomark _)) (pw_and (ptTr (K := K) (pe_call G_is_whole (hr.mono (by omega)) rfl T.g_is_whole T.F_is_whole.kp T.b_is_whole .nil pass0 (pa_cons (pe_ix (ixAny (K := K)) (pv 0) pe_int (fun _ _ => rfl)) pa_nil))) (pw_and1 (pt_cmpR opGe (pe_ix (ixAny (K := K)) (pv 0) pe_int (fun _ _ => rfl)) pe_int (nomark _))))))) (pss_one (ps_ret (pe_tup (pa_cons pe_str (pa_cons (pe_ix (ixAny (K := K)) (pv 0) pe_int (fun _ _ => rfl)) pa_nil))))) pss_nil)
      (pss_one (psRaise0 rfl (W := fun cls d _ H => E cls d H) (takes_of rfl rfl rfl rfl) T.x_BadKind T.i_BadKind T.t_BadKind G_BadKind (hr.mono (by omega)) T.b_BadKind___init__ pass0 rfl T.g_BadKind)))))))))), ?_⟩
    have hq := T.q_BASES H
    refine q_when (b := decide ((12 : Int) < 13 - ((n + 1 : Nat) : Int))) (by walk_at "et") (fun c => absurd (of_decide_eq_true c) (by omega)) (fun _ H1 e1 => ?_)
    by_cases hs : isStr d = true
    · obtain ⟨x, hx, rfl, rfl⟩ := hd.strOf hs
      have hd1 := hd.ex e1
      have hq := T.q_BASES H1
      refine q_when (b := isStr (.str x) && inV (.str x) [.str "int", .str "text", .str "truth"]) (by walk_at "et") (fun c H2 e2 => ?_) (fun c H2 e2 => ?_)
      · have c' : isBaseS x = true := by
          rw [← inBases]
          exact c
        exact s_ret (v := .str x) (by walk_at "ev") fun H3 e3 => kS (.str x) (.str x) H3 (by show (if isBaseS x then some (PyData.str x) else none) = _; rw [if_pos c']) ((e1.trans e2).trans e3) (.str x hx)
      · have c' : isBaseS x = false := by
          rw [← inBases]
          exact c
        have hd2 := hd1.ex e2
        have t : EvT (tNot (tTr K (tCB (rIsiT K) (tCons (tVar 0) (tCons (tTup (tCons (tC (V.ty "list")) (tCons (tC (V.ty "tuple")) tNil))) tNil))))) (L2.start N_checked_kind [.str x, .int (13 - ((n + 1 : Nat) : Int))]) H2 (!isSeq (.str x)) := by walk_at "et"
        exact q_when (b := true) (et_or1 t) (fun _ H3 e3 => raise_bk ((kN (by show (if isBaseS x then some (PyData.str x) else none) = _; rw [c']; rfl)).same ((e1.trans e2).trans e3))) (fun c => by cases c)
    · have hs' : isStr d = false := by simpa using hs
      have hd1 := hd.ex e1
      have t1 : EvT (tTr K (tCB (rIsi K) (tCons (tVar 0) (tCons (tC (V.ty "str")) tNil)))) (L2.start N_checked_kind [v, .int (13 - ((n + 1 : Nat) : Int))]) H1 (isStr d) := by walk_at "et"
      rw [hs'] at t1
      refine q_when (b := false) (et_and0 t1) (fun c => by cases c) (fun _ H2 e2 => ?_)
      have hd2 := hd1.ex e2
      have t : EvT (tNot (tTr K (tCB (rIsiT K) (tCons (tVar 0) (tCons (tTup (tCons (tC (V.ty "list")) (tCons (tC (V.ty "tuple")) tNil))) tNil))))) (L2.start N_checked_kind [v, .int (13 - ((n + 1 : Nat) : Int))]) H2 (!isSeq d) := by walk_at "et"
      by_cases hq : isSeq d = true
      · rw [hq] at t
        obtain ⟨a, xs, rfl, hA, rs⟩ := hd2.seqOf (K := K) hq
        have hchk := chk_seq (n := n) hq
        rw [hchk] at kS kN
        have e12 := e1.trans e2
        generalize hds : itemsD d = ds at kS kN rs
        rcases ds with _ | ⟨d0, _ | ⟨d1, r⟩⟩
        · cases rs
          exact q_when (b := true) (et_or0 t (et_or1 (et_is (by walk_at "et") rfl))) (fun _ H3 e3 => raise_bk ((kN rfl).same (e12.trans e3))) (fun c => by cases c)
        · cases rs with
          | cons h0 rs => cases rs with
            | nil => exact q_when (b := true) (et_or0 t (et_or1 (et_is (by walk_at "et") rfl))) (fun _ H3 e3 => raise_bk ((kN (by cases d0 <;> rfl)).same (e12.trans e3))) (fun c => by cases c)
        · cases rs with
          | @cons x0 _ _ _ h0 rs => cases rs with
            | @cons x1 xr _ _ h1 rs =>
              have a0 : atI (x0 :: x1 :: xr) 0 = some x0 := at_nat (j := 0) rfl
              have a1 : atI (x0 :: x1 :: xr) 1 = some x1 := at_nat (j := 1) rfl
              have l2 : decide (((x0 :: x1 :: xr).length : Int) < 2) = false := decide_eq_false (by simp only [List.length_cons]; omega)
              have tl : EvT (tTest (tOp rLtA (tCB (rLen K) (tCons (tVar 0) tNil)) (tC (V.int 2)))) (L2.start N_checked_kind [.ref a, .int (13 - ((n + 1 : Nat) : Int))]) H2 false := by
                rw [← l2]
                walk_at "et"
              have t0 : EvT (tTr K (tCB (rIsi K) (tCons (tOp (rIx K) (tVar 0) (tC (V.int 0))) (tCons (tC (V.ty "str")) tNil)))) (L2.start N_checked_kind [.ref a, .int (13 - ((n + 1 : Nat) : Int))]) H2 (isStr d0) := by
                walk_at "et"
              by_cases hw : isStr d0 = true
              · rw [hw] at t0
                obtain ⟨w, hwl, rfl, rfl⟩ := h0.strOf hw
                refine q_when (b := false) (et_or0 t (et_or0 tl (et_no t0))) (fun c => by cases c) (fun _ H3 e3 => ?_)
                have hA3 := hA.ex e3
                refine q_asg (i := 2) (v := .str w) (by walk_at "ev") fun H4 e4 => ?_
                have hA4 := hA3.ex e4
                have e14 := (e12.trans e3).trans e4
                have h1' := h1.ex (e3.trans e4)
                have k1 : (2 : Int) - 1 = 1 := rfl
                have dn : ∀ {σ : L2.St} {H' : Hp} (_ : σ[1]? = some (some (.int (13 - ((n + 1 : Nat) : Int))))), Ev (tOp (rAddA K) (tVar 1) (tC (.int 1))) σ H' (.int (13 - (n : Int))) := fun hσ =>
                  ev_is (ev_op (ev_var hσ) ev_c rv_addI) (by congr 1; omega)
                refine q_when (b := decide (V.str w = .str "list") && decide (V.int ((V.str w :: x1 :: xr).length : Nat) = .int 2)) (by walk_at "et") (fun c H5 e5 => ?_) (fun c1 H5 e5 => ?_)
                · obtain ⟨rfl, cl⟩ := two_of c
                  obtain rfl := len2 cl
                  obtain rfl := ats_nil rs
                  rw [cs_list] at kS kN
                  have e15 := e14.trans e5
                  have hA5 := hA4.ex e5
                  refine o_ret (o := _) (eo_tup (es_cons (eo_of ev_c (.str _ (by decide))) (es_cons (eo_ck (h1'.ex e5) (hM.same e15) (fun h => (kN (by rw [h]; rfl)).same e15) (ea_cons (by walk_at "ev") (ea_cons (dn rfl) ea_nil))) es_nil)) (hM.same e15) ?_) ?_
                  · intro ds h
                    cases hx : chk n d1 <;> rw [hx] at h <;> cases h
                    show 2 ≤ 100000
                    decide
                  · intro d' v' H6 h e6 a6
                    refine kS d' v' H6 ?_ (e15.trans e6) a6
                    rw [← h]
                    cases chk n d1 <;> rfl
                · have hA5 := hA4.ex e5
                  refine q_when (b := decide (V.str w = .str "record") && decide (V.int ((V.str w :: x1 :: xr).length : Nat) = .int 2)) (by walk_at "et") (fun c H6 e6 => ?_) (fun c2 H6 e6 => ?_)
                  · obtain ⟨rfl, cl⟩ := two_of c
                    obtain rfl := len2 cl
                    obtain rfl := ats_nil rs
                    rw [cs_record] at kS kN
                    have e16 := (e14.trans e5).trans e6
                    have hA6 := hA5.ex e6
                    have dn0 : ∀ {σ : L2.St} {H' : Hp} (_ : σ[1]? = some (some (.int (13 - ((n + 1 : Nat) : Int))))), Ev (tVar 1) σ H' (.int (12 - (n : Int))) := fun hσ =>
                      ev_is (ev_var hσ) (by congr 1; omega)
                    refine o_ret (o := _) (eo_tup (es_cons (eo_of ev_c (.str _ (by decide))) (es_cons (eo_cc (h1'.ex (e5.trans e6)) (hM.same e16) (fun h => (kN (by rw [h]; rfl)).same e16) (ea_cons (by walk_at "ev") (ea_cons (dn0 rfl) ea_nil))) es_nil)) (hM.same e16) ?_) ?_
                    · intro ds h
                      cases hx : cplD (chk n) d1 <;> rw [hx] at h <;> cases h
                      show 2 ≤ 100000
                      decide
                    · intro d' v' H7 h e7 a7
                      refine kS d' v' H7 ?_ (e16.trans e7) a7
                      rw [← h]
                      cases cplD (chk n) d1 <;> rfl
                  · have hA6 := hA5.ex e6
                    refine q_when (b := decide (V.str w = .str "function") && decide (V.int ((V.str w :: x1 :: xr).length : Nat) = .int 3)) (by walk_at "et") (fun c H7 e7 => ?_) (fun c3 H7 e7 => ?_)
                    · obtain ⟨rfl, cl⟩ := two_of c
                      obtain ⟨x2, rfl⟩ := len3 cl
                      cases rs with
                      | @cons _ _ d2 _ h2 rs =>
                      obtain rfl := ats_nil rs
                      rw [cs_function] at kS kN
                      have e17 := ((e14.trans e5).trans e6).trans e7
                      have hA7 := hA6.ex e7
                      have a2 : atI [V.str "function", x1, x2] 2 = some x2 := at_nat (j := 2) rfl
                      have h2' := h2.ex (((e3.trans e4).trans (e5.trans e6)).trans e7)
                      refine o_ret (o := _) (eo_tup (es_cons (eo_of ev_c (.str _ (by decide))) (es_cons (eo_ck (h1'.ex ((e5.trans e6).trans e7)) (hM.same e17) (fun h => (kN (by rw [h]; rfl)).same e17) (ea_cons (by walk_at "ev") (ea_cons (dn rfl) ea_nil)))
                        (es_cons (eo_ck h2' (hM.same e17) (fun h => (kN (by rw [h]; cases chk n d1 <;> rfl)).same e17) (ea_cons (by walk_at "ev") (ea_cons (dn rfl) ea_nil))) es_nil))) (hM.same e17) ?_) ?_
                      · intro ds h
                        cases hx : chk n d1 <;> rw [hx] at h <;> cases hy : chk n d2 <;> rw [hy] at h <;> cases h
                        show 3 ≤ 100000
                        decide
                      · intro d' v' H8 h e8 a8
                        refine kS d' v' H8 ?_ (e17.trans e8) a8
                        rw [← h]
                        cases chk n d1 <;> cases chk n d2 <;> rfl
                    · have hA7 := hA6.ex e7
                      have e17 := ((e14.trans e5).trans e6).trans e7
                      have h1'' := (h1'.ex ((e5.trans e6).trans e7)).zero
                      refine q_when (b := decide (V.str w = .str "any") && (decide (V.int ((V.str w :: x1 :: xr).length : Nat) = .int 2) && (wholeD d1 && geD d1))) (et_and (by walk_at "et") fun _ => et_and (by walk_at "et") fun _ => et_and (by walk_at "et") fun hw => ?_) (fun c H8 e8 => ?_) (fun c4 H8 e8 => ?_)
                      · cases h1'' with
                        | int i => walk_at "et"
                        | _ => cases hw
                      · rw [← Bool.and_assoc, Bool.and_eq_true] at c
                        obtain ⟨rfl, cl⟩ := two_of c.1
                        obtain rfl := len2 cl
                        obtain rfl := ats_nil rs
                        rw [cs_any, anyD, if_pos c.2] at kS kN
                        have hA8 := hA7.ex e8
                        refine o_ret (o := _) (eo_tup (es_cons (eo_of ev_c (.str _ (by decide))) (es_cons (eo_of (by walk_at "ev") (h1'.ex (((e5.trans e6).trans e7).trans e8))) es_nil)) (hM.same (e17.trans e8)) ?_) ?_
                        · intro ds h
                          cases h
                          show 2 ≤ 100000
                          decide
                        · exact fun d' v' H9 h e9 a9 => kS d' v' H9 h ((e17.trans e8).trans e9) a9
                      · refine raise_bk ((kN ?_).same (e17.trans e8))
                        rcases r with _ | ⟨d2, _ | ⟨d3, r⟩⟩
                        · cases rs
                          refine cs_none2 (fun h => two_no c1 h rfl) (fun h => two_no c2 h rfl) fun h => ?_
                          subst h
                          simpa using c4
                        · cases rs with
                          | cons h2 rs => cases rs with
                            | nil => exact cs_none3 (fun h => two_no c3 h rfl)
                        · rfl
              · have hw' : isStr d0 = false := by simpa using hw
                rw [hw'] at t0
                exact q_when (b := true) (et_or0 t (et_or0 tl (et_ya t0))) (fun _ H3 e3 => raise_bk ((kN (chkSeq_odd hw')).same (e12.trans e3))) (fun c => by cases c)
      · have hq' : isSeq d = false := by simpa using hq
        rw [hq'] at t
        exact q_when (b := true) (et_or1 t) (fun _ H3 e3 => raise_bk ((kN (chk_odd hq' hs')).same ((e1.trans e2).trans e3))) (fun c => by cases c)
end
end K1
set_option Elab.async false
set_option linter.all false
set_option maxRecDepth 100000
set_option maxHeartbeats 4000000
namespace K1
open PySem PySem.Spec PyProof.Rows L2 LK Evl
local macro_rules | `(tactic| walk_at "rv") => `(tactic| first
  | exact rv_addI | exact rv_I0 | exact rv_I (by decide) | exact rv_I (Or.inr (by omega)) | exact rv_I (Or.inl (by omega)) | exact rv_I (by omega) | exact rv_I ⟨by omega, by omega⟩ | exact rv_I ⟨by decide, by decide, by decide⟩ | exact rv_ltI | exact rv_leI | exact rv_gtI | exact rv_geI | exact rv_eqS rfl | exact rv_neS rfl | exact rv_leS | exact rv_ltS
  | exact rv_inC | exact rv_niC | exact rv_isBl | exact rv_isntBl | exact rv_isN | exact rv_isntN
  | exact rv_xA (by assumption) (by assumption) | exact rv_xT (by assumption) (by assumption) | exact rv_xL (by assumption) (by assumption) | exact rv_xS (by assumption) (by assumption)
  | exact rv_xT (by assumption) rfl | exact rv_xL (by assumption) rfl | exact rv_inA (by assumption) rfl rfl | exact rv_addS (by assumption))
local macro_rules | `(tactic| walk_at "rc") => `(tactic| first
  | exact rc_int | exact rc_ord | exact rc_lenS (by assumption) | exact rc_lenL (by assumption) | exact rc_lenT (by assumption) | exact rc_lenA (by assumption) | exact rc_isiS (by assumption) | exact rc_isiI (by assumption) | exact rc_isiB (by assumption) | exact rc_isiL (by assumption) | exact rc_isiT (by assumption))
local macro_rules | `(tactic| walk_at "ea") => `(tactic| first | exact ea_nil | (apply ea_cons; walk_at "ev"; walk_at "ea"))
local macro_rules | `(tactic| walk_at "ev") => `(tactic| first
  | assumption
  | exact ev_var rfl
  | exact ev_c
  | (apply ev_op; walk_at "ev"; walk_at "ev"; walk_at "rv")
  | (apply ev_un; walk_at "ev"; exact ru_neg)
  | (apply ev_isiLT; walk_at "ev"; assumption)
  | (apply ev_call; walk_at "ea"; walk_at "sv")
  | (apply ev_cb; walk_at "ea"; walk_at "rc")
  | (apply ev_if; walk_at "et"; (intro _; walk_at "ev"); (intro _; walk_at "ev"))
  | (apply ev_chain; walk_at "ev"; walk_at "ev"; walk_at "rv"; walk_at "ev"; walk_at "rv")
  | (apply ev_notV; walk_at "ev")
  | (apply ev_andV; walk_at "ev"; (intro _; walk_at "ev"))
  | (apply ev_orV; walk_at "ev"; (intro _; walk_at "ev")))
local macro_rules | `(tactic| walk_at "et") => `(tactic| first
  | assumption
  | (apply et_test; walk_at "ev")
  | (apply et_B; walk_at "ev")
  | (apply et_not; walk_at "et")
  | (apply et_and; walk_at "et"; (intro _; walk_at "et"))
  | (apply et_or; walk_at "et"; (intro _; walk_at "et"))
  | (apply et_tru; walk_at "ev"; walk_at "tru"))
local macro_rules | `(tactic| walk_at "tru") => `(tactic| first | exact tr_bl | exact tr_L (by assumption) | exact tr_T (by assumption) | exact tr_A (by assumption))
local macro_rules | `(tactic| walk_at "sv") => `(tactic| first | exact sv_whole (by assumption) | exact sv_row (by assumption) | exact sv_name (by assumption) | exact sv_fits (by assumption))
section
variable {P : Program} {w : World} {K : PySem.W.Frag} {mg : Str → Option Value} {base : Heap} {A : Adr}
theorem lenD_seq {d : PyData} (h : isSeq d = true) : lenD d = (itemsD d).length := by
  cases d <;> first | rfl | (cases h; done)
theorem step_row {f : PyData → Option PyData} {acc : List PyData} {d : PyData} (h : rowD d 2 = false) : cplStep f acc d = none := by
  unfold cplStep
  by_cases hs : isSeq d = true
  · rw [if_pos hs]
    have hl : ¬ (itemsD d).length = 2 := fun e => by
      unfold rowD at h
      rw [hs, lenD_seq hs, e] at h
      simp at h
    generalize itemsD d = l at hl
    rcases l with _ | ⟨a, _ | ⟨b, _ | _⟩⟩
    · rfl
    · cases a <;> rfl
    · exact absurd rfl hl
    · cases a <;> rfl
  · rw [if_neg hs]
theorem row_two {d : PyData} (h : rowD d 2 = true) : isSeq d = true ∧ ∃ a b, itemsD d = [a, b] := by
  unfold rowD at h
  rw [Bool.and_eq_true] at h
  obtain ⟨h1, h2⟩ := h
  rw [lenD_seq h1] at h2
  have hl : (itemsD d).length = 2 := by
    have h3 := of_decide_eq_true h2
    omega
  refine ⟨h1, ?_⟩
  generalize itemsD d = l at hl
  rcases l with _ | ⟨a, _ | ⟨b, _ | _⟩⟩
  · cases hl
  · cases hl
  · exact ⟨a, b, rfl⟩
  · simp at hl
theorem step_two {f : PyData → Option PyData} {acc : List PyData} {d a b : PyData} (h : isSeq d = true) (hi : itemsD d = [a, b]) : cplStep f acc d = cplPair f acc [a, b] := by
  unfold cplStep
  rw [if_pos h, hi]
theorem pair_name {f : PyData → Option PyData} {acc : List PyData} {a b : PyData} (h : nameD a = false) : cplPair f acc [a, b] = none := by
  cases a <;> first | rfl | (show (if (nameL _ && lastOk acc _) = true then _ else none) = none; rw [show nameL _ = false from h]; rfl)
theorem pair_last {f : PyData → Option PyData} {acc : List PyData} {s : Str} {b : PyData} (h : lastOk acc s = false) : cplPair f acc [.str s, b] = none := by
  show (if (nameL _ && lastOk acc _) = true then _ else none) = none
  rw [h, Bool.and_false]
  rfl
theorem pair_ok {f : PyData → Option PyData} {acc : List PyData} {s : Str} {b : PyData} (h1 : nameD (.str s) = true) (h : lastOk acc s = true) : cplPair f acc [.str s, b] = (f b).map fun k' => acc ++ [.tuple [.str s, k']] := by
  show (if (nameL _ && lastOk acc _) = true then _ else none) = _
  rw [h, show nameL _ = true from h1]
  rfl
theorem name_str {d : PyData} (h : nameD d = true) : isStr d = true := by
  cases d <;> first | rfl | (cases h; done)
theorem last_at {acc : List PyData} {p s : Str} {r : List PyData} : lastOk (acc ++ [.tuple (.str p :: r)]) s = decide (p.cps.toList < s.cps.toList) := by
  unfold lastOk
  rw [List.getLast?_concat]
theorem ok_cc (n : Nat) (T : Txt K mg A) (G_checked_kind : FnOk P w K mg base (L2.CX P w) (2 * n + 3) A.a_checked_kind A.f_checked_kind ["kind", "deep"] (spCK A.c_BadKind n)) :
    FnOk P w K mg base (L2.CX P w) (2 * n + 4) A.a_check_couples A.f_check_couples ["couples", "deep"] (spCC A.c_BadKind n) := by
  have G_BadKind := ok_bk (P := P) (w := w) (base := base) T
  have G_is_row := ok_row (P := P) (w := w) (base := base) T
  have G_is_name := ok_name (P := P) (w := w) (base := base) T
  refine T.F_check_couples.okX sc_check_couples (fun vs H Q E h => ?_) (fun cdv Ar outer s H vs Q E hr h => ?_)
  · obtain ⟨v, d, M, rfl, _⟩ := h
    rfl
  · obtain ⟨v, d, M, rfl, hd, hM, kS, kN⟩ := h
    refine ⟨_, (pss_cons (ps_if (PW.pt (pw_or (pt_not (ptTr (K := K) (pe_callB (isiTup (K := K)) (by rfl) T.b_isinstance (by decide +kernel) (pa_cons (pv 0) (pa_cons (pe_tup (pa_cons (pe_bltn (v := .ty "list") (u := .type "list") (by rfl) T.b_list (by decide +kernel) rfl) (pa_cons (pe_bltn (v := .ty "tuple") (u := .type "tuple") (by rfl) T.b_tuple (by decide +kernel) rfl) pa_nil))) pa_nil))))) (pw_or1 (pt_cmpR opGt (pe_callB (lenAny (K := K)) (by rfl) T.b_len (by decide +kernel) (pa_cons (pv 0) pa_nil)) pe_int (nomark _))))) (pss_one (psRaise0 rfl (W := fun cls d _ H => E cls d H) (takes_of rfl rfl rfl rfl) T.x_BadKind T.i_BadKind T.t_BadKind G_BadKind (hr.mono (by omega)) T.b_BadKind___init__ pass0 rfl T.g_BadKind)) pss_nil)
      (pss_cons (ps_set (i := 2) sc_check_couples.nd rfl (by first | exact Or.inl rfl | exact Or.inr rfl) (pe_lst pa_nil))
      (pss_cons (ps_for (passes_of rfl) rfl (pi_seq (K := K) (pv 0)) (pg_name (i := 3) sc_check_couples.nd rfl (by first | exact Or.inl rfl | exact Or.inr rfl)) (pss_cons (ps_if (PW.pt (pw_or (pt_not (ptTr (K := K) (pe_call G_is_row (hr.mono (by omega)) rfl T.g_is_row T.F_is_row.kp T.b_is_row .nil pass0 (pa_cons (pv 3) (pa_cons pe_int pa_nil))))) (pw_or1 (pt_not (ptTr (K := K) (pe_call G_is_name (hr.mono (by omega)) rfl T.g_is_name T.F_is_name.kp T.b_is_name .nil pass0 (pa_cons (pe_ix (ixAny (K := K)) (pv 3) pe_int (fun _ _ => rfl)) pa_nil))))))) (pss_one (psRaise0 rfl (W := fun cls d _ H => E cls d H) (takes_of rfl rfl rfl rfl) T.x_BadKind T.i_BadKind T.t_BadKind G_BadKind (hr.mono (by omega)) T.b_BadKind___init__ pass0 rfl T.g_BadKind)) pss_nil)
      (pss_cons (ps_if (PW.pt (pw_and (ptTr (K := K) (pv 2)) (pw_and1 (pt_not (pt_cmpR opLt (pe_ix (ixAny (K := K)) (pe_ix (ixAny (K := K)) (pv 2) (pe_un un_neg pe_int) (fun _ _ => rfl)) pe_int (fun _ _ => rfl)) (pe_ix (ixAny (K := K)) (pv 3) pe_int (fun _ _ => rfl)) (nomark _)))))) (pss_one (psRaise0 rfl (W := fun cls d _ H => E cls d H) (takes_of rfl rfl rfl rfl) T.x_BadKind T.i_BadKind T.t_BadKind G_BadKind (hr.mono (by omega)) T.b_BadKind___init__ pass0 rfl T.g_BadKind)) pss_nil)
      (pss_one (ps_expr (pe_bm PySem.F.plainAttrs_list PySem.F.slot_list_append PySem.F.type_list_append mt_append (pv 2) (pa_cons (pe_tup (pa_cons (pe_ix (ixAny (K := K)) (pv 3) pe_int (fun _ _ => rfl)) (pa_cons (pe_callS G_checked_kind (hr.mono (by omega)) rfl T.g_checked_kind T.F_checked_kind.kp T.b_checked_kind (fun σ => passAt (W := fun cls d _ H => E cls d H) (takes_of rfl rfl rfl rfl) σ) (pa_cons (pe_ix (ixAny (K := K)) (pv 3) pe_int (fun _ _ => rfl)) (pa_cons (pe_op (opAdd (K := K)) (pv 1) pe_int) pa_nil))) pa_nil))) pa_nil)))))))
      (pss_one (ps_ret (pe_callTy (tupOf (K := K)) (by rfl) T.b_tuple (by decide +kernel) (pa_cons (pv 2) pa_nil))))))), ?_⟩
    have t : EvT (tNot (tTr K (tCB (rIsiT K) (tCons (tVar 0) (tCons (tTup (tCons (tC (V.ty "list")) (tCons (tC (V.ty "tuple")) tNil))) tNil))))) (L2.start N_check_couples [v, .int (12 - (n : Int))]) H (!isSeq d) := by walk_at "et"
    by_cases hq : isSeq d = true
    · rw [hq] at t
      obtain ⟨a, xs, rfl, hA, rs⟩ := hd.seqOf (K := K) hq
      have hlen := rs.len
      refine q_when (b := !true || decide ((5 : Int) < (xs.length : Nat))) (et_or t fun _ => by walk_at "et") (fun c H1 e1 => raise_bk ((kN ?_).same e1)) (fun c H1 e1 => ?_)
      · have c' : ¬ (itemsD d).length ≤ 5 := by
          simp at c
          omega
        unfold cplD
        rw [hq, decide_eq_false c']
        rfl
      · have c' : (itemsD d).length ≤ 5 := by
          simp at c
          omega
        have hc : cplD (chk n) d = cplAll (chk n) [] (itemsD d) := by
          unfold cplD
          rw [hq, decide_eq_true c']
          rfl
        rw [hc] at kS kN
        refine q_asgL (i := 2) (xs := []) (el_lst ea_nil (by decide)) fun q H2 hq2 e2 h2 => ?_
        have hA1 := hA.ex e1
        have e12 := e1.trans e2
        have dn : ∀ {σ : L2.St} {H' : Hp} (_ : σ[1]? = some (some (.int (12 - (n : Int))))), Ev (tOp (rAddA K) (tVar 1) (tC (.int 1))) σ H' (.int (13 - (n : Int))) := fun hσ =>
          ev_is (ev_op (ev_var hσ) ev_c rv_addI) (by congr 1; omega)
        have rs1 := (rs.ex e1).add hq2
        refine q_forA (Hb := H1) (xs := xs) (ev_var rfl) hA1 (fun i σ' H' => Ex H1 H' ∧ ∃ (ws : List V) (acc : List PyData) (c : Option V), σ' = [some (.ref a), some (.int (12 - (n : Int))), some (.ref q), c] ∧
          H' q = some (.lst ws) ∧ Ats (And1 M q) H' ws acc ∧ ws.length ≤ i ∧ (∀ z ∈ acc, ∃ p k, z = .tuple [.str p, k]) ∧ cplAll (chk n) acc ((itemsD d).drop i) = cplAll (chk n) [] (itemsD d))
          (fun H3 e3 => ⟨e2.trans e3, [], [], none, rfl, e3 _ _ h2, .nil, Nat.le_refl _, (by simp), rfl⟩) (fun i σ' H' p => p.1) ?_ ?_
        · rintro i x σ' H3 hx ⟨e3, ws, acc, c0, rfl, hw, hws, hl, hsh, hall⟩
          have hi : i < xs.length := (List.getElem?_eq_some_iff.mp hx).1
          obtain ⟨di, hdi, ai⟩ := rs1.get hx
          have ai3 := ai.ex e3
          have a03 := ai3.zero
          have hM3 : Trk (And1 M q) H3 := (hM.same (e1.trans e3)).add hw
          have hdr : (itemsD d).drop i = di :: (itemsD d).drop (i + 1) := by
            obtain ⟨h1, h2⟩ := List.getElem?_eq_some_iff.mp hdi
            rw [List.drop_eq_getElem_cons h1, h2]
          rw [hdr] at hall
          have e13 := e1.trans e3
          have bad : ∀ {H4 : Hp}, Ex H3 H4 → cplStep (chk n) acc di = none → Bad A.c_BadKind E H4 := fun e4 h => (kN (by
            rw [← hall]
            show (cplStep (chk n) acc di).bind _ = none
            rw [h]
            rfl)).same (e13.trans e4)
          have tr : EvT (tTr K (tCall spRow [] E0 (tCons (tVar 3) (tCons (tC (V.int 2)) tNil)))) [some (.ref a), some (.int (12 - (n : Int))), some (.ref q), some x] H3 (rowD di 2) := by walk_at "et"
          by_cases hr2 : rowD di 2 = true
          · rw [hr2] at tr
            obtain ⟨sq, l, kk, hit⟩ := row_two hr2
            obtain ⟨b, ys, rfl, hB, ys2⟩ := ai3.seqOf (K := K) sq
            rw [hit] at ys2
            rw [step_two sq hit] at bad
            have hst := step_two (f := chk n) (acc := acc) sq hit
            cases ys2 with
            | @cons y0 _ _ _ l3 ys2 => cases ys2 with
              | @cons y1 _ _ _ k3 ys2 =>
              cases ys2
              have l30 := l3.zero
              have b0 : atI [y0, y1] 0 = some y0 := at_nat (j := 0) rfl
              have b1 : atI [y0, y1] 1 = some y1 := at_nat (j := 1) rfl
              have tn : EvT (tTr K (tCall spName [] E0 (tCons (tOp (rIx K) (tVar 3) (tC (V.int 0))) tNil))) [some (.ref a), some (.int (12 - (n : Int))), some (.ref q), some (.ref b)] H3 (nameD l) := by walk_at "et"
              by_cases hn : nameD l = true
              · rw [hn] at tn
                obtain ⟨s, hs, rfl, rfl⟩ := l3.strOf (name_str hn)
                refine q_when (b := false) (et_or0 (et_no tr) (et_no tn)) (fun c => by cases c) (fun c H4 e4 => ?_)
                have hB4 := hB.ex e4
                have hws4 := hws.ex e4
                have hw4 := e4 _ _ hw
                have hW4 : SqL K H4 q ws := .of hw4
                have t2 : EvT (tAnd (tTr K (tVar 2)) (tNot (tTest (tOp rLtA (tOp (rIx K) (tOp (rIx K) (tVar 2) (tUn (rU fun i => V.int (-i)) (tC (V.int 1)))) (tC (V.int 0))) (tOp (rIx K) (tVar 3) (tC (V.int 0)))))))
                    [some (.ref a), some (.int (12 - (n : Int))), some (.ref q), some (.ref b)] H4 (!lastOk acc s) := by
                  rcases List.eq_nil_or_concat acc with rfl | ⟨acc', z, rfl⟩
                  · cases hws
                    exact et_and0 (et_tru (ev_var rfl) (tr_L hW4))
                  · rw [List.concat_eq_append] at hws4 hsh ⊢
                    obtain ⟨p, k0, rfl⟩ := hsh z (by simp)
                    obtain ⟨ws', wz, rfl, _, hz⟩ := hws4.concat
                    cases hz with
                    | @tup r zs _ _ hr rz => cases rz with
                      | @cons z0 zr _ _ hz0 rz => cases hz0 with
                        | str _ hp =>
                        have zl : atI (ws' ++ [V.ref r]) (-1) = some (.ref r) := atI_last _ _
                        have z0 : atI (V.str p :: zr) 0 = some (.str p) := at_nat (j := 0) rfl
                        have hR : SqT K H4 r (V.str p :: zr) := .of hr
                        rw [last_at]
                        refine et_is (et_and1 (et_is (et_tru (ev_var rfl) (tr_L hW4)) (by simp)) (et_not (et_test (by walk_at "ev")))) rfl
                refine q_when (b := !lastOk acc s) t2 (fun c H5 e5 => raise_bk (bad (e4.trans e5) (pair_last (by simpa using c)))) (fun c H5 e5 => ?_)
                have hlast : lastOk acc s = true := by simpa using c
                replace hall : (cplStep (chk n) acc di).bind (fun acc' => cplAll (chk n) acc' ((itemsD d).drop (i + 1))) = cplAll (chk n) [] (itemsD d) := hall
                rw [hst, pair_ok hn hlast] at hall
                rw [pair_ok hn hlast] at bad
                have hw5 := e5 _ _ hw4
                have hB5 := hB4.ex e5
                have e45 := e4.trans e5
                refine o_app (M := And1 M q) (o := _) hw5 (ev_var rfl) (eo_tup (es_cons (eo_of (v := .str s) (by walk_at "ev") (.str s hs)) (es_cons (eo_ck (k3.ex e45) (hM3.same e45) (fun h => bad e45 (by rw [h]; rfl))
                  (ea_cons (by walk_at "ev") (ea_cons (dn rfl) ea_nil))) es_nil)) (hM3.same e45) ?_) (by omega) ?_
                · intro ds h
                  cases hx : chk n kk <;> rw [hx] at h <;> cases h
                  show 2 ≤ 100000
                  decide
                · intro d' v' H6 h e6 a6
                  cases hx : chk n kk with
                  | none =>
                    rw [hx] at h
                    cases h
                  | some kd =>
                    rw [hx] at h hall
                    cases h
                    have kp : Keep (And1 M q) H6 (upd H6 q (.lst (ws ++ [v']))) := (Keep.refl _ _).put (.inr rfl)
                    refine ⟨Ex.mut (e3.trans (e45.trans e6)) hq2, ws ++ [v'], acc ++ [.tuple [.str s, kd]], some (.ref b), rfl, upd_same, ((hws4.ex (e5.trans e6)).append (.one a6)).keep kp, ?_, ?_, ?_⟩
                    · simp only [List.length_append, List.length_singleton]
                      omega
                    · intro z hz
                      rcases List.mem_append.mp hz with hz | hz
                      · exact hsh z hz
                      · exact ⟨s, kd, List.mem_singleton.mp hz⟩
                    · rw [← hall]
                      rfl
              · have hn' : nameD l = false := by simpa using hn
                rw [hn'] at tn
                exact q_when (b := true) (et_or0 (et_no tr) (et_ya tn)) (fun c H4 e4 => raise_bk (bad e4 (pair_name hn'))) (fun c => by cases c)
          · have hr' : rowD di 2 = false := by simpa using hr2
            rw [hr'] at tr
            exact q_when (b := true) (et_or1 (et_ya tr)) (fun c H4 e4 => raise_bk (bad e4 (step_row hr'))) (fun c => by cases c)
        · rintro σ' H3 ⟨e3, ws, acc, c0, rfl, hw, hws, hl, hsh, hall⟩
          refine s_tupOf (ev_var rfl) (.of hw) fun p H4 hp e4 h4 => kS acc (.ref p) H4 ?_ (e1.trans (e3.trans e4)) (.tup (Trk.fresh (hM.same (e1.trans e3)) hp) h4 ((hws.ex e4).weak fun _ z => .inl z))
          rw [← hall, List.drop_eq_nil_of_le (by omega)]
          rfl
    · have hq' : isSeq d = false := by simpa using hq
      rw [hq'] at t
      refine q_when (b := true) (et_or1 t) (fun _ H1 e1 => raise_bk ((kN ?_).same e1)) (fun c => by cases c)
      unfold cplD
      rw [hq']
      rfl
end
end K1
set_option Elab.async false
set_option linter.all false
set_option maxRecDepth 100000
set_option maxHeartbeats 4000000
namespace K1
open PySem PySem.Spec PyProof.Rows L2 LK Evl
local macro_rules | `(tactic| walk_at "rv") => `(tactic| first
  | exact rv_addI | exact rv_I0 | exact rv_I (by decide) | exact rv_I (Or.inr (by omega)) | exact rv_I (Or.inl (by omega)) | exact rv_I (by omega) | exact rv_I ⟨by omega, by omega⟩ | exact rv_I ⟨by decide, by decide, by decide⟩ | exact rv_ltI | exact rv_leI | exact rv_gtI | exact rv_geI | exact rv_eqS rfl | exact rv_neS rfl | exact rv_leS | exact rv_ltS
  | exact rv_inC | exact rv_niC | exact rv_isBl | exact rv_isntBl | exact rv_isN | exact rv_isntN
  | exact rv_xA (by assumption) (by assumption) | exact rv_xT (by assumption) (by assumption) | exact rv_xL (by assumption) (by assumption) | exact rv_xS (by assumption) (by assumption)
  | exact rv_xT (by assumption) rfl | exact rv_xL (by assumption) rfl | exact rv_inA (by assumption) rfl rfl | exact rv_addS (by assumption))
local macro_rules | `(tactic| walk_at "rc") => `(tactic| first
  | exact rc_int | exact rc_ord | exact rc_lenS (by assumption) | exact rc_lenL (by assumption) | exact rc_lenT (by assumption) | exact rc_lenA (by assumption) | exact rc_isiS (by assumption) | exact rc_isiI (by assumption) | exact rc_isiB (by assumption) | exact rc_isiL (by assumption) | exact rc_isiT (by assumption))
local macro_rules | `(tactic| walk_at "ea") => `(tactic| first | exact ea_nil | (apply ea_cons; walk_at "ev"; walk_at "ea"))
local macro_rules | `(tactic| walk_at "ev") => `(tactic| first
  | assumption
  | exact ev_var rfl
  | exact ev_c
  | (apply ev_op; walk_at "ev"; walk_at "ev"; walk_at "rv")
  | (apply ev_un; walk_at "ev"; exact ru_neg)
  | (apply ev_isiLT; walk_at "ev"; assumption)
  | (apply ev_call; walk_at "ea"; walk_at "sv")
  | (apply ev_cb; walk_at "ea"; walk_at "rc")
  | (apply ev_if; walk_at "et"; (intro _; walk_at "ev"); (intro _; walk_at "ev"))
  | (apply ev_chain; walk_at "ev"; walk_at "ev"; walk_at "rv"; walk_at "ev"; walk_at "rv")
  | (apply ev_notV; walk_at "ev")
  | (apply ev_andV; walk_at "ev"; (intro _; walk_at "ev"))
  | (apply ev_orV; walk_at "ev"; (intro _; walk_at "ev")))
local macro_rules | `(tactic| walk_at "et") => `(tactic| first
  | assumption
  | (apply et_test; walk_at "ev")
  | (apply et_B; walk_at "ev")
  | (apply et_not; walk_at "et")
  | (apply et_and; walk_at "et"; (intro _; walk_at "et"))
  | (apply et_or; walk_at "et"; (intro _; walk_at "et"))
  | (apply et_tru; walk_at "ev"; walk_at "tru"))
local macro_rules | `(tactic| walk_at "tru") => `(tactic| first | exact tr_bl | exact tr_L (by assumption) | exact tr_T (by assumption) | exact tr_A (by assumption))
local macro_rules | `(tactic| walk_at "sv") => `(tactic| first | exact sv_whole (by assumption) | exact sv_row (by assumption) | exact sv_name (by assumption) | exact sv_fits (by assumption))
section
variable {P : Program} {w : World} {K : PySem.W.Frag} {mg : Str → Option Value} {base : Heap} {A : Adr}
theorem ok_ck (T : Txt K mg A) : ∀ n : Nat, FnOk P w K mg base (L2.CX P w) (2 * n + 3) A.a_checked_kind A.f_checked_kind ["kind", "deep"] (spCK A.c_BadKind n)
  | 0 => ok_ck0 T
  | n + 1 => ok_cks n T (ok_ck T n) (ok_cc n T (ok_ck T n))
def spCheck (C : Addr) : Sp := fun vs H Q E => ∃ (v : V) (d : PyData) (M : Addr → Prop), vs = [v] ∧ At M H v d ∧ Trk M H ∧
  (∀ d' v' H', chk 12 d = some d' → Same H H' → At M H' v' d' → Q v' H') ∧ (chk 12 d = none → Bad C E H)
theorem ok_check (T : Txt K mg A) : FnOk P w K mg base (L2.CX P w) 28 A.a_check_kind A.f_check_kind ["kind"] (spCheck A.c_BadKind) := by
  have G_checked_kind := ok_ck (P := P) (w := w) (base := base) T 12
  refine T.F_check_kind.okX sc_check_kind (fun vs H Q E h => ?_) (fun cdv Ar outer s H vs Q E hr h => ?_)
  · obtain ⟨v, d, M, rfl, _⟩ := h
    rfl
  · obtain ⟨v, d, M, rfl, hd, hM, kS, kN⟩ := h
    refine ⟨_, (pss_one (ps_ret (pe_callS G_checked_kind (hr.mono (by omega)) rfl T.g_checked_kind T.F_checked_kind.kp T.b_checked_kind (fun σ => passAt (W := fun cls d _ H => E cls d H) (takes_of rfl rfl rfl rfl) σ) (pa_cons (pv 0) (pa_cons pe_int pa_nil))))), ?_⟩
    exact o_ret (eo_ck hd hM kN (by walk_at "ea")) fun d' v' H1 h e a => kS d' v' H1 h e a
end
end K1
set_option Elab.async false
set_option linter.all false
set_option maxRecDepth 100000
set_option maxHeartbeats 4000000
namespace K1
open PySem PySem.Spec PyProof.Rows L2 LK Evl
local macro_rules | `(tactic| walk_at "rv") => `(tactic| first
  | exact rv_addI | exact rv_I0 | exact rv_I (by decide) | exact rv_I (Or.inr (by omega)) | exact rv_I (Or.inl (by omega)) | exact rv_I (by omega) | exact rv_I ⟨by omega, by omega⟩ | exact rv_I ⟨by decide, by decide, by decide⟩ | exact rv_ltI | exact rv_leI | exact rv_gtI | exact rv_geI | exact rv_eqS rfl | exact rv_neS rfl | exact rv_leS | exact rv_ltS
  | exact rv_inC | exact rv_niC | exact rv_isBl | exact rv_isntBl | exact rv_isN | exact rv_isntN
  | exact rv_xA (by assumption) (by assumption) | exact rv_xT (by assumption) (by assumption) | exact rv_xL (by assumption) (by assumption) | exact rv_xS (by assumption) (by assumption)
  | exact rv_xT (by assumption) rfl | exact rv_xL (by assumption) rfl | exact rv_inA (by assumption) rfl rfl | exact rv_addS (by assumption))
local macro_rules | `(tactic| walk_at "rc") => `(tactic| first
  | exact rc_int | exact rc_ord | exact rc_lenS (by assumption) | exact rc_lenL (by assumption) | exact rc_lenT (by assumption) | exact rc_lenA (by assumption) | exact rc_isiS (by assumption) | exact rc_isiI (by assumption) | exact rc_isiB (by assumption) | exact rc_isiL (by assumption) | exact rc_isiT (by assumption))
local macro_rules | `(tactic| walk_at "ea") => `(tactic| first | exact ea_nil | (apply ea_cons; walk_at "ev"; walk_at "ea"))
local macro_rules | `(tactic| walk_at "ev") => `(tactic| first
  | assumption
  | exact ev_var rfl
  | exact ev_c
  | (apply ev_op; walk_at "ev"; walk_at "ev"; walk_at "rv")
  | (apply ev_un; walk_at "ev"; exact ru_neg)
  | (apply ev_isiLT; walk_at "ev"; assumption)
  | (apply ev_call; walk_at "ea"; walk_at "sv")
  | (apply ev_cb; walk_at "ea"; walk_at "rc")
  | (apply ev_if; walk_at "et"; (intro _; walk_at "ev"); (intro _; walk_at "ev"))
  | (apply ev_chain; walk_at "ev"; walk_at "ev"; walk_at "rv"; walk_at "ev"; walk_at "rv")
  | (apply ev_notV; walk_at "ev")
  | (apply ev_andV; walk_at "ev"; (intro _; walk_at "ev"))
  | (apply ev_orV; walk_at "ev"; (intro _; walk_at "ev")))
local macro_rules | `(tactic| walk_at "et") => `(tactic| first
  | assumption
  | (apply et_test; walk_at "ev")
  | (apply et_B; walk_at "ev")
  | (apply et_not; walk_at "et")
  | (apply et_and; walk_at "et"; (intro _; walk_at "et"))
  | (apply et_or; walk_at "et"; (intro _; walk_at "et"))
  | (apply et_tru; walk_at "ev"; walk_at "tru"))
local macro_rules | `(tactic| walk_at "tru") => `(tactic| first | exact tr_bl | exact tr_L (by assumption) | exact tr_T (by assumption) | exact tr_A (by assumption))
section
variable {P : Program} {w : World} {K : PySem.W.Frag} {mg : Str → Option Value} {base : Heap} {A : Adr}
/-- what is asked of a due thing that is no sequence -/
def tExTail (K : PySem.W.Frag) : TS :=
    (tSeq
      (tIfS (tTest (tOp (fun x y H Q => y = V.non ∧ Q (V.bl (decide (x = V.non))) H) (tVar 1) (tC V.non)))
        (tRet (tOp (fun x y H Q => y = V.non ∧ Q (V.bl (decide (x = V.non))) H) (tVar 0) (tC V.non))) tNext)
      (tSeq
        (tIfS (tTr K (tCB (rIsi K) (tCons (tVar 1) (tCons (tC (V.ty "bool")) tNil))))
          (tRet
            (tAndV (tCB (rIsi K) (tCons (tVar 0) (tCons (tC (V.ty "bool")) tNil))) (tOp (rEqA K) (tVar 0) (tVar 1))))
          tNext)
        (tSeq
          (tIfS (tTr K (tCB (rIsi K) (tCons (tVar 1) (tCons (tC (V.ty "str")) tNil))))
            (tRet
              (tAndV (tCB (rIsi K) (tCons (tVar 0) (tCons (tC (V.ty "str")) tNil))) (tOp (rEqA K) (tVar 0) (tVar 1))))
            tNext)
          (tRet
            (tAndV (tCB (rIsi K) (tCons (tVar 0) (tCons (tC (V.ty "int")) tNil)))
              (tAndV (tNotV (tCB (rIsi K) (tCons (tVar 0) (tCons (tC (V.ty "bool")) tNil))))
                (tOp (rEqA K) (tVar 0) (tVar 1))))))))
theorem ex_tail {v1 v2 : V} {d1 d2 : PyData} {H : Hp} {D : Ends} {r : L2.St} (h1 : At M0 H v1 d1) (h2 : At M0 H v2 d2) (hf : isSeq d2 = false) (k : ∀ H1, Same H H1 → D.rt (.bl (sameD d1 d2)) H1) :
    tExTail K D (some v1 :: some v2 :: r) H := by
  have a1 := h1
  have a2 := h2
  cases h2 with
  | lst => cases hf
  | tup => cases hf
  | non =>
    refine q_when (b := true) (et_is (by walk_at "et") rfl) (fun _ H1 e1 => s_ret (v := .bl (sameD d1 .none)) (ev_is (v := .bl (decide (v1 = .non))) (by walk_at "ev") ?_) fun H2 e2 => k H2 (e1.trans e2)) (fun c => by cases c)
    refine congrArg V.bl (sameD_of ?_).symm
    cases h1 <;> simp
  | bl b =>
    refine q_when (b := false) (et_is (by walk_at "et") rfl) (fun c => by cases c) (fun _ H1 e1 => ?_)
    have a1 := a1.ex e1
    have a2 := a2.ex e1
    refine q_when (b := true) (et_is (b := true) (a := isBool (.bool b)) (by walk_at "et") rfl) (fun _ H2 e2 => ?_) (fun c => by cases c)
    have a1 := a1.ex e2
    refine s_ret (v := .bl (sameD d1 (.bool b))) ?_ fun H3 e3 => k H3 ((e1.trans e2).trans e3)
    by_cases hb : isBool d1 = true
    · cases h1 with
      | bl a =>
        refine ev_is (v := .bl (isBool (.bool a) && decide (V.bl a = .bl b))) (by walk_at "ev") (congrArg V.bl (sameD_of ?_).symm)
        simp [isBool]
      | _ => cases hb
    · have hb' : isBool d1 = false := by simpa using hb
      refine ev_is (ev_and0 (ev_is (v := .bl (isBool d1)) (by walk_at "ev") (by rw [hb']))) (congrArg V.bl (sameD_of ?_).symm)
      cases h1 <;> first | (cases hb'; done) | simp
  | int i =>
    refine q_when (b := false) (et_is (by walk_at "et") rfl) (fun c => by cases c) (fun _ H1 e1 => ?_)
    have a1 := a1.ex e1
    have a2 := a2.ex e1
    refine q_when (b := false) (et_is (b := false) (a := isBool (.int i)) (by walk_at "et") rfl) (fun c => by cases c) (fun _ H2 e2 => ?_)
    have a1 := a1.ex e2
    have a2 := a2.ex e2
    refine q_when (b := false) (et_is (b := false) (a := isStr (.int i)) (by walk_at "et") rfl) (fun c => by cases c) (fun _ H3 e3 => ?_)
    have a1 := a1.ex e3
    refine s_ret (v := .bl (sameD d1 (.int i))) ?_ fun H4 e4 => k H4 (((e1.trans e2).trans e3).trans e4)
    by_cases hb : isInt d1 = true
    · by_cases hc : isBool d1 = true
      · refine ev_is (ev_and1 (b := false) (ev_is (v := .bl (isInt d1)) (by walk_at "ev") (by rw [hb])) (ev_and0 (ev_is (v := .bl (!isBool d1)) (by walk_at "ev") (by rw [hc]; rfl)))) (congrArg V.bl (sameD_of ?_).symm)
        cases h1 <;> first | (cases hc; done) | simp
      · cases h1 with
        | int j =>
          refine ev_is (v := .bl (LK.isInt (.int j) && (!isBool (.int j) && decide (V.int j = .int i)))) (by walk_at "ev") (congrArg V.bl (sameD_of ?_).symm)
          simp [isBool, LK.isInt]
        | bl => exact absurd rfl hc
        | _ => cases hb
    · have hb' : isInt d1 = false := by simpa using hb
      refine ev_is (ev_and0 (ev_is (v := .bl (isInt d1)) (by walk_at "ev") (by rw [hb']))) (congrArg V.bl (sameD_of ?_).symm)
      cases h1 <;> first | (cases hb'; done) | simp
  | str x hx =>
    refine q_when (b := false) (et_is (by walk_at "et") rfl) (fun c => by cases c) (fun _ H1 e1 => ?_)
    have a1 := a1.ex e1
    have a2 := a2.ex e1
    refine q_when (b := false) (et_is (b := false) (a := isBool (.str x)) (by walk_at "et") rfl) (fun c => by cases c) (fun _ H2 e2 => ?_)
    have a1 := a1.ex e2
    have a2 := a2.ex e2
    refine q_when (b := true) (et_is (b := true) (a := isStr (.str x)) (by walk_at "et") rfl) (fun _ H3 e3 => ?_) (fun c => by cases c)
    have a1 := a1.ex e3
    refine s_ret (v := .bl (sameD d1 (.str x))) ?_ fun H4 e4 => k H4 (((e1.trans e2).trans e3).trans e4)
    by_cases hb : isStr d1 = true
    · cases h1 with
      | str y hy =>
        refine ev_is (v := .bl (isStr (.str y) && decide (V.str y = .str x))) (by walk_at "ev") (congrArg V.bl (sameD_of ?_).symm)
        simp [isStr]
      | _ => cases hb
    · have hb' : isStr d1 = false := by simpa using hb
      refine ev_is (ev_and0 (ev_is (v := .bl (isStr d1)) (by walk_at "ev") (by rw [hb']))) (congrArg V.bl (sameD_of ?_).symm)
      cases h1 <;> first | (cases hb'; done) | simp
theorem ok_exact0 (T : Txt K mg A) : FnOk P w K mg base CX0 1 A.a__law_exact A.f__law_exact ["_law_told", "_law_due"] (spExact 0) := by
  refine T.F__law_exact.ok sc__law_exact (fun vs H Q E h => ?_) (fun cdv Ar outer s H vs Q E hr h => ?_)
  · obtain ⟨v1, v2, d1, d2, rfl, _⟩ := h
    rfl
  · obtain ⟨v1, v2, d1, d2, rfl, h1, h2, hD, k⟩ := h
    refine ⟨_, (pss_cons (ps_if (ptTr (K := K) (pe_callB (isiTup (K := K)) (by rfl) T.b_isinstance (by decide +kernel) (pa_cons (pv 1) (pa_cons (pe_tup (pa_cons (pe_bltn (v := .ty "list") (u := .type "list") (by rfl) T.b_list (by decide +kernel) rfl) (pa_cons (pe_bltn (v := .ty "tuple") (u := .type "tuple") (by rfl) T.b_tuple (by decide +kernel) rfl) pa_nil))) pa_nil)))) pss_never pss_nil) (pss_cons (ps_if (pt_cmpR op_isN (pv 1) pe_non (nomark _)) (pss_one (ps_ret (pe_cmpR op_isN (pv 0) pe_non (nomark _)))) pss_nil)
      (pss_cons (ps_if (ptTr (K := K) (pe_callB (isiOne (K := K)) (by rfl) T.b_isinstance (by decide +kernel) (pa_cons (pv 1) (pa_cons (pe_bltn (v := .ty "bool") (u := .type "bool") (by rfl) T.b_bool (by decide +kernel) rfl) pa_nil)))) (pss_one (ps_ret (pe_and (pe_callB (isiOne (K := K)) (by rfl) T.b_isinstance (by decide +kernel) (pa_cons (pv 0) (pa_cons (pe_bltn (v := .ty "bool") (u := .type "bool") (by rfl) T.b_bool (by decide +kernel) rfl) pa_nil))) (pe_one (pe_cmpR (opEq (K := K) hr) (pv 0) (pv 1) (nomark _)))))) pss_nil)
      (pss_cons (ps_if (ptTr (K := K) (pe_callB (isiOne (K := K)) (by rfl) T.b_isinstance (by decide +kernel) (pa_cons (pv 1) (pa_cons (pe_bltn (v := .ty "str") (u := .type "str") (by rfl) T.b_str (by decide +kernel) rfl) pa_nil)))) (pss_one (ps_ret (pe_and (pe_callB (isiOne (K := K)) (by rfl) T.b_isinstance (by decide +kernel) (pa_cons (pv 0) (pa_cons (pe_bltn (v := .ty "str") (u := .type "str") (by rfl) T.b_str (by decide +kernel) rfl) pa_nil))) (pe_one (pe_cmpR (opEq (K := K) hr) (pv 0) (pv 1) (nomark _)))))) pss_nil)
      (pss_one (ps_ret (pe_and (pe_callB (isiOne (K := K)) (by rfl) T.b_isinstance (by decide +kernel) (pa_cons (pv 0) (pa_cons (pe_bltn (v := .ty "int") (u := .type "int") (by rfl) T.b_int (by decide +kernel) rfl) pa_nil))) (pe_and (pe_not (pe_callB (isiOne (K := K)) (by rfl) T.b_isinstance (by decide +kernel) (pa_cons (pv 0) (pa_cons (pe_bltn (v := .ty "bool") (u := .type "bool") (by rfl) T.b_bool (by decide +kernel) rfl) pa_nil)))) (pe_one (pe_cmpR (opEq (K := K) hr) (pv 0) (pv 1) (nomark _))))))))))), ?_⟩
    have hD' : isSeq d2 = false := hD
    refine q_when (b := false) (et_is (b := false) (a := isSeq d2) (by walk_at "et") hD') (fun c => by cases c) (fun _ H1 e1 => ?_)
    exact ex_tail (K := K) (h1.ex e1) (h2.ex e1) hD' fun H2 e2 => k H2 (e1.trans e2)
local macro_rules | `(tactic| walk_at "sv") => `(tactic| exact sv_exact (by assumption) (by assumption) (by assumption))
theorem ok_exactS (m : Nat) (T : Txt K mg A) (G__law_exact : FnOk P w K mg base CX0 (m + 1) A.a__law_exact A.f__law_exact ["_law_told", "_law_due"] (spExact m)) :
    FnOk P w K mg base CX0 (m + 2) A.a__law_exact A.f__law_exact ["_law_told", "_law_due"] (spExact (m + 1)) := by
  refine T.F__law_exact.ok sc__law_exact (fun vs H Q E h => ?_) (fun cdv Ar outer s H vs Q E hr h => ?_)
  · obtain ⟨v1, v2, d1, d2, rfl, _⟩ := h
    rfl
  · obtain ⟨v1, v2, d1, d2, rfl, h1, h2, hD, k⟩ := h
    refine ⟨_, (pss_cons (ps_if (ptTr (K := K) (pe_callB (isiTup (K := K)) (by rfl) T.b_isinstance (by decide +kernel) (pa_cons (pv 1) (pa_cons (pe_tup (pa_cons (pe_bltn (v := .ty "list") (u := .type "list") (by rfl) T.b_list (by decide +kernel) rfl) (pa_cons (pe_bltn (v := .ty "tuple") (u := .type "tuple") (by rfl) T.b_tuple (by decide +kernel) rfl) pa_nil))) pa_nil)))) (pss_cons (ps_if (PW.pt (pw_or (pt_cmpR (opNe (K := K) hr) (pe_callB (isiOne (K := K)) (by rfl) T.b_isinstance (by decide +kernel) (pa_cons (pv 1) (pa_cons (pe_bltn (v := .ty "list") (u := .type "list") (by rfl) T.b_list (by decide +kernel) rfl) pa_nil))) (pe_callB (isiOne (K := K)) (by rfl) T.b_isinstance (by decide +kernel) (pa_cons (pv 0) (pa_cons (pe_bltn (v := .ty "list") (u := .type "list") (by rfl) T.b_list (by decide +kernel) rfl) pa_nil))) (nomark _)) (pw_or1 (pt_cmpR (opNe (K := K) hr) (pe_callB (isiOne (K := K)) (by rfl) T.b_isinstance (by decide +kernel) (pa_cons (pv 1) (pa_cons (pe_bltn (v := .ty "tuple") (u := .type "tuple") (by rfl) T.b_tuple (by decide +kernel) rfl) pa_nil))) (pe_callB (isiOne (K := K)) (by rfl) T.b_isinstance (by decide +kernel) (pa_cons (pv 0) (pa_cons (pe_bltn (v := .ty "tuple") (u := .type "tuple") (by rfl) T.b_tuple (by decide +kernel) rfl) pa_nil))) (nomark _))))) (pss_one (ps_ret pe_bl)) pss_nil)
      (pss_cons (ps_if (pt_cmpR (opNe (K := K) hr) (pe_callB (lenAny (K := K)) (by rfl) T.b_len (by decide +kernel) (pa_cons (pv 0) pa_nil)) (pe_callB (lenAny (K := K)) (by rfl) T.b_len (by decide +kernel) (pa_cons (pv 1) pa_nil)) (nomark _)) (pss_one (ps_ret pe_bl)) pss_nil)
      (pss_one (ps_ret (pe_cmpR (opEq (K := K) hr) (pe_lc (own := [("_law_k", 2)]) (g := gName 2) rfl sc__law_exact.nd (pi_range1 rfl T.b_range (pa_cons (pe_callB (lenAny (K := K)) (by rfl) T.b_len (by decide +kernel) (pa_cons (pv 1) pa_nil)) pa_nil)) (blkOk_by (own := [("_law_k", 2)]) (N := N__law_exact) (sc := defScope s__law_exact) (by decide +kernel)) (fun _ _ _ _ _ => (pg_name (i := 2) sc__law_exact.nd rfl (by first | exact Or.inl rfl | exact Or.inr rfl))) (fun _ _ _ _ _ => (pts_one (pt_not (ptTr (K := K) (pe_call G__law_exact (hr.mono (by omega)) rfl T.g__law_exact T.F__law_exact.kp T.b__law_exact .nil pass0 (pa_cons (pe_ix (ixAny (K := K)) (pv 0) (pv 2) (fun _ _ => rfl)) (pa_cons (pe_ix (ixAny (K := K)) (pv 1) (pv 2) (fun _ _ => rfl)) pa_nil))))))) (fun _ _ _ _ _ => (pv 2))) (pe_lst pa_nil) (nomark _)))))) pss_nil)
      (pss_cons (ps_if (pt_cmpR op_isN (pv 1) pe_non (nomark _)) (pss_one (ps_ret (pe_cmpR op_isN (pv 0) pe_non (nomark _)))) pss_nil)
      (pss_cons (ps_if (ptTr (K := K) (pe_callB (isiOne (K := K)) (by rfl) T.b_isinstance (by decide +kernel) (pa_cons (pv 1) (pa_cons (pe_bltn (v := .ty "bool") (u := .type "bool") (by rfl) T.b_bool (by decide +kernel) rfl) pa_nil)))) (pss_one (ps_ret (pe_and (pe_callB (isiOne (K := K)) (by rfl) T.b_isinstance (by decide +kernel) (pa_cons (pv 0) (pa_cons (pe_bltn (v := .ty "bool") (u := .type "bool") (by rfl) T.b_bool (by decide +kernel) rfl) pa_nil))) (pe_one (pe_cmpR (opEq (K := K) hr) (pv 0) (pv 1) (nomark _)))))) pss_nil)
      (pss_cons (ps_if (ptTr (K := K) (pe_callB (isiOne (K := K)) (by rfl) T.b_isinstance (by decide +kernel) (pa_cons (pv 1) (pa_cons (pe_bltn (v := .ty "str") (u := .type "str") (by rfl) T.b_str (by decide +kernel) rfl) pa_nil)))) (pss_one (ps_ret (pe_and (pe_callB (isiOne (K := K)) (by rfl) T.b_isinstance (by decide +kernel) (pa_cons (pv 0) (pa_cons (pe_bltn (v := .ty "str") (u := .type "str") (by rfl) T.b_str (by decide +kernel) rfl) pa_nil))) (pe_one (pe_cmpR (opEq (K := K) hr) (pv 0) (pv 1) (nomark _)))))) pss_nil)
      (pss_one (ps_ret (pe_and (pe_callB (isiOne (K := K)) (by rfl) T.b_isinstance (by decide +kernel) (pa_cons (pv 0) (pa_cons (pe_bltn (v := .ty "int") (u := .type "int") (by rfl) T.b_int (by decide +kernel) rfl) pa_nil))) (pe_and (pe_not (pe_callB (isiOne (K := K)) (by rfl) T.b_isinstance (by decide +kernel) (pa_cons (pv 0) (pa_cons (pe_bltn (v := .ty "bool") (u := .type "bool") (by rfl) T.b_bool (by decide +kernel) rfl) pa_nil)))) (pe_one (pe_cmpR (opEq (K := K) hr) (pv 0) (pv 1) (nomark _))))))))))), ?_⟩
    refine q_when (b := isSeq d2) (by walk_at "et") (fun hq H1 e1 => ?_) (fun hf H1 e1 => ex_tail (K := K) (h1.ex e1) (h2.ex e1) hf fun H2 e2 => k H2 (e1.trans e2))
    have h1 := h1.ex e1
    have h2 := h2.ex e1
    refine q_when (b := !decide (V.bl (isLst d2) = .bl (isLst d1)) || !decide (V.bl (isTup d2) = .bl (isTup d1))) (by walk_at "et") (fun c H2 e2 => ?_) (fun c H2 e2 => ?_)
    · refine s_ret (v := .bl (sameD d1 d2)) (ev_is ev_c (congrArg V.bl (sameD_of ?_).symm)) fun H3 e3 => k H3 ((e1.trans e2).trans e3)
      refine ⟨fun z => (by cases z), fun z => ?_⟩
      subst z
      simp at c
    · have c' : isLst d2 = isLst d1 ∧ isTup d2 = isTup d1 := by simpa using c
      have hq1 := seq_lt hq c'.1 c'.2
      have h1 := h1.ex e2
      have h2 := h2.ex e2
      obtain ⟨a1, xs1, rfl, hA1, r1⟩ := h1.seqOf (K := K) hq1
      obtain ⟨a2, xs2, rfl, hA2, r2⟩ := h2.seqOf (K := K) hq
      have l1 := r1.len
      have l2 := r2.len
      refine q_when (b := !decide (V.int (xs1.length : Nat) = .int (xs2.length : Nat))) (et_test (ev_op (ev_cb (ea_cons (ev_var rfl) ea_nil) (rc_lenA hA1)) (ev_cb (ea_cons (ev_var rfl) ea_nil) (rc_lenA hA2)) (rv_neS rfl))) (fun cl H3 e3 => ?_) (fun cl H3 e3 => ?_)
      · refine s_ret (v := .bl (sameD d1 d2)) (ev_is ev_c (congrArg V.bl (sameD_of ?_).symm)) fun H4 e4 => k H4 (((e1.trans e2).trans e3).trans e4)
        refine ⟨fun z => (by cases z), fun z => ?_⟩
        rw [l1, l2, z] at cl
        simp at cl
      · have hl : (itemsD d1).length = (itemsD d2).length := by
          have c2 : (xs1.length : Int) = (xs2.length : Int) := by simpa using cl
          omega
        have hA1 := hA1.ex e3
        have hA2 := hA2.ex e3
        have r1 := r1.ex e3
        have r2 := r2.ex e3
        have e13 := (e1.trans e2).trans e3
        refine s_ret (v := .bl (sameD d1 d2)) ?_ fun H4 e4 => k H4 (e13.trans e4)
        have hres : sameD d1 d2 = ((diffs (itemsD d1) (itemsD d2)).map (fun i : Nat => (i : Int))).isEmpty := sameD_of (by
          rw [List.isEmpty_map, diffs_nil hl]
          exact ⟨fun z => seq_ext hq1 hq c'.1.symm z, fun z => congrArg itemsD z⟩)
        rw [hres]
        refine ev_opLL (xs := Evl.given (itemsD d2).length (fun i => !sameD ((itemsD d1).getD i .none) ((itemsD d2).getD i .none)) (fun i => .int (i : Int))) (ys := []) ?_ (el_lst ea_nil (by decide)) fun p q H4 hp hq4 e4 => ?_
        · rw [show (itemsD d2).length = (((itemsD d2).length : Nat) : Int).toNat from rfl]
          refine el_lcR1 (n := ((itemsD d2).length : Int)) _ _ (by rw [← l2]; exact ea_cons (ev_cb (ea_cons (ev_var rfl) ea_nil) (rc_lenA hA2)) ea_nil) ⟨by omega, ?_⟩ (fun _ => rfl) (fun i H4 e4 hi => ?_) (fun i H4 e4 hi _ => by walk_at "ev")
          · have := hD.1
            omega
          · have hi2 : i < (itemsD d2).length := by omega
            have hi1 : i < (itemsD d1).length := by omega
            obtain ⟨x1, hx1, t1⟩ := r1.get' (i := i) (d := (itemsD d1).getD i .none) (by simp [List.getD_eq_getElem?_getD, hi1])
            obtain ⟨x2, hx2, t2⟩ := r2.get' (i := i) (d := (itemsD d2).getD i .none) (by simp [List.getD_eq_getElem?_getD, hi2])
            have t1 := t1.ex e4
            have t2 := t2.ex e4
            have hA1 := hA1.ex e4
            have hA2 := hA2.ex e4
            have a1 := at_nat hx1
            have a2 := at_nat hx2
            have t3 : DepLe m ((itemsD d2).getD i .none) := hD.2 _ (by
              rw [List.getD_eq_getElem?_getD, List.getElem?_eq_getElem hi2, Option.getD_some]
              exact List.getElem_mem hi2)
            walk_at "et"
        · rw [given_ints] at hp
          exact rv_eqNil hp hq4
theorem ok_exact (T : Txt K mg A) : ∀ n : Nat, FnOk P w K mg base CX0 (n + 1) A.a__law_exact A.f__law_exact ["_law_told", "_law_due"] (spExact n)
  | 0 => ok_exact0 T
  | n + 1 => ok_exactS n T (ok_exact T n)
end
end K1
set_option Elab.async false
set_option linter.all false
set_option maxRecDepth 100000
set_option maxHeartbeats 4000000
namespace K1
open PySem PySem.Spec PyProof.Rows L2 LK Evl
local macro_rules | `(tactic| walk_at "rv") => `(tactic| first
  | exact rv_addI | exact rv_I0 | exact rv_I (by decide) | exact rv_I (Or.inr (by omega)) | exact rv_I (Or.inl (by omega)) | exact rv_I (by omega) | exact rv_I ⟨by omega, by omega⟩ | exact rv_I ⟨by decide, by decide, by decide⟩ | exact rv_ltI | exact rv_leI | exact rv_gtI | exact rv_geI | exact rv_eqS rfl | exact rv_neS rfl | exact rv_leS | exact rv_ltS
  | exact rv_inC | exact rv_niC | exact rv_isBl | exact rv_isntBl | exact rv_isN | exact rv_isntN
  | exact rv_xA (by assumption) (by assumption) | exact rv_xT (by assumption) (by assumption) | exact rv_xL (by assumption) (by assumption) | exact rv_xS (by assumption) (by assumption)
  | exact rv_xT (by assumption) rfl | exact rv_xL (by assumption) rfl | exact rv_inA (by assumption) rfl rfl | exact rv_addS (by assumption))
local macro_rules | `(tactic| walk_at "rc") => `(tactic| first
  | exact rc_int | exact rc_ord | exact rc_lenS (by assumption) | exact rc_lenL (by assumption) | exact rc_lenT (by assumption) | exact rc_lenA (by assumption) | exact rc_isiS (by assumption) | exact rc_isiI (by assumption) | exact rc_isiB (by assumption) | exact rc_isiL (by assumption) | exact rc_isiT (by assumption))
local macro_rules | `(tactic| walk_at "ea") => `(tactic| first | exact ea_nil | (apply ea_cons; walk_at "ev"; walk_at "ea"))
local macro_rules | `(tactic| walk_at "ev") => `(tactic| first
  | assumption
  | exact ev_var rfl
  | exact ev_c
  | (apply ev_op; walk_at "ev"; walk_at "ev"; walk_at "rv")
  | (apply ev_un; walk_at "ev"; exact ru_neg)
  | (apply ev_isiLT; walk_at "ev"; assumption)
  | (apply ev_call; walk_at "ea"; walk_at "sv")
  | (apply ev_cb; walk_at "ea"; walk_at "rc")
  | (apply ev_if; walk_at "et"; (intro _; walk_at "ev"); (intro _; walk_at "ev"))
  | (apply ev_chain; walk_at "ev"; walk_at "ev"; walk_at "rv"; walk_at "ev"; walk_at "rv")
  | (apply ev_notV; walk_at "ev")
  | (apply ev_andV; walk_at "ev"; (intro _; walk_at "ev"))
  | (apply ev_orV; walk_at "ev"; (intro _; walk_at "ev")))
local macro_rules | `(tactic| walk_at "et") => `(tactic| first
  | assumption
  | (apply et_test; walk_at "ev")
  | (apply et_B; walk_at "ev")
  | (apply et_not; walk_at "et")
  | (apply et_and; walk_at "et"; (intro _; walk_at "et"))
  | (apply et_or; walk_at "et"; (intro _; walk_at "et"))
  | (apply et_tru; walk_at "ev"; walk_at "tru"))
local macro_rules | `(tactic| walk_at "tru") => `(tactic| first | exact tr_bl | exact tr_L (by assumption) | exact tr_T (by assumption) | exact tr_A (by assumption))
local macro_rules | `(tactic| walk_at "ed") => `(tactic| first
  | exact ed_non | exact ed_bl | exact ed_int | exact ed_str
  | exact ed_var rfl (by assumption)
  | (apply ed_ix; walk_at "ed"; walk_at "ed"; rfl; rfl)
  | (apply ed_eqS; walk_at "ed"; walk_at "ed")
  | (apply ed_neS; walk_at "ed"; walk_at "ed")
  | (apply ed_eqI; walk_at "ed"; walk_at "ed")
  | (apply ed_isiS; walk_at "ed")
  | (apply ed_isiT; walk_at "ed")
  | walk_at "edc"
  | (apply ed_not; walk_at "ed")
  | (apply ed_and; walk_at "ed"; (intro _; walk_at "ed"))
  | (apply ed_or; walk_at "ed"; (intro _; walk_at "ed"))
  | (refine ed_tup ?_ (by assumption) (by first | decide | (simp; done)); walk_at "eds")
  | (refine ed_lst ?_ (by assumption) (by first | decide | (simp; done)); walk_at "eds"))
local macro_rules | `(tactic| walk_at "eds") => `(tactic| first | exact eds_nil | (apply eds_cons; walk_at "ed"; walk_at "eds"))
local macro_rules | `(tactic| walk_at "edt") => `(tactic| first
  | (apply et_D; walk_at "ed")
  | (apply et_DT; walk_at "ed")
  | (apply et_DB; walk_at "ed")
  | (apply et_not; walk_at "edt")
  | (apply et_and; walk_at "edt"; (intro _; walk_at "edt"))
  | (apply et_or; walk_at "edt"; (intro _; walk_at "edt")))
/-- kinds a function is asked of: less deep than n -/
def gk (n : Nat) (k : Kd) : Prop := k.dep < n ∧ k.wf ∧ k.sz ≤ 1000
theorem gk_lst {n : Nat} {k : Kd} (h : gk (n + 1) (.lst k)) : gk n k := by
  obtain ⟨h1, h2, h3⟩ := h
  rw [Kd.dep] at h1
  rw [Kd.wf] at h2
  rw [Kd.sz] at h3
  exact ⟨by omega, h2, by omega⟩
theorem gk_fn {n : Nat} {a b : Kd} (h : gk (n + 1) (.fn a b)) : gk n a ∧ gk n b := by
  obtain ⟨h1, h2, h3⟩ := h
  rw [Kd.dep] at h1
  rw [Kd.wf] at h2
  rw [Kd.sz] at h3
  exact ⟨⟨by omega, h2.1, by omega⟩, ⟨by omega, h2.2, by omega⟩⟩
theorem gk_rcd {n : Nat} {ls : Kl} (h : gk (n + 1) (.rcd ls)) : ls.toL.length ≤ 5 ∧ ∀ p ∈ ls.toL, gk n p.2 := by
  obtain ⟨h1, h2, h3⟩ := h
  rw [Kd.dep] at h1
  rw [Kd.wf] at h2
  rw [Kd.sz] at h3
  refine ⟨h2.2.1, fun p hp => ⟨?_, (Kl.mem_wf h2.1 hp).2.2, ?_⟩⟩
  · have := Kl.mem_dep hp
    omega
  · have := Kl.mem_sz hp
    omega
abbrev dom1 {α : Type} (f : α → PyData) : α → List PyData := fun x => [f x]
abbrev spIsB : Sp := spX (dom1 fun d : PyData => d) (fun _ => True) (fun d => .bool (isStr d))
abbrev spHas (n : Nat) : Sp := spX (fun x : Kd × Str => [x.1.D, .str x.2]) (fun x => gk n x.1) (fun x => .bool (x.1.has x.2))
theorem ed_isb {σ : L2.St} {H : Hp} {te : TE} {M : Addr → Prop} {d : PyData} {E : XK} (h : EvD M te σ H d) (hM : Trk M H) : EvD M (tCall spIsB [] E (tCons te tNil)) σ H (.bool (isStr d)) :=
  ed_callX (dom := dom1 fun d : PyData => d) d (eds_cons h eds_nil) hM trivial
theorem Ats.one_inv {M : Addr → Prop} {H : Hp} {vs : List V} {d : PyData} (h : Ats M H vs [d]) : ∃ v, vs = [v] ∧ At M H v d := by
  cases h with
  | cons h r =>
  cases r
  exact ⟨_, rfl, h⟩
theorem Ats.two_inv {M : Addr → Prop} {H : Hp} {vs : List V} {d e : PyData} (h : Ats M H vs [d, e]) : ∃ v w, vs = [v, w] ∧ At M H v d ∧ At M H w e := by
  cases h with
  | cons h r => cases r with
    | cons h2 r =>
    cases r
    exact ⟨_, _, rfl, h, h2⟩
theorem ats_len {M : Addr → Prop} {H : Hp} {vs : List V} {ds : List PyData} {n : Nat} (h : Ats M H vs ds) (e : ds.length = n) : vs.length = n := h.len.trans e
section
variable {P : Program} {w : World} {K : PySem.W.Frag} {mg : Str → Option Value} {base : Heap} {A : Adr}
theorem ok_isb (T : Txt K mg A) : FnOk P w K mg base CX0 1 A.a_is_base A.f_is_base ["kind"] spIsB := by
  refine T.F_is_base.ok sc_is_base (fun vs H Q E h => ?_) (fun cdv Ar outer s H vs Q E hr h => ?_)
  · obtain ⟨M, d, h, _⟩ := h
    exact ats_len h rfl
  · obtain ⟨M, d, h, hM, _, k⟩ := h
    obtain ⟨v, rfl, hd⟩ := Ats.one_inv h
    refine ⟨_, (pss_one (ps_ret (pe_callB (isiOne (K := K)) (by rfl) T.b_isinstance (by decide +kernel) (pa_cons (pv 0) (pa_cons (pe_bltn (v := .ty "str") (u := .type "str") (by rfl) T.b_str (by decide +kernel) rfl) pa_nil))))), ?_⟩
    exact d_ret (M := M) (by walk_at "ed") k
local macro_rules | `(tactic| walk_at "edc") => `(tactic| first
  | (apply ed_isb; walk_at "ed"; assumption))
theorem ok_has (T : Txt K mg A) : ∀ n : Nat, FnOk P w K mg base CX0 (n + 1) A.a_has_word A.f_has_word ["kind", "word"] (spHas n)
  | 0 => T.F_has_word.ok sc_has_word (fun vs H Q E h => (let ⟨M, x, h, _⟩ := h; ats_len h rfl)) (fun cdv Ar outer s H vs Q E hr h => by
      obtain ⟨M, x, h, hM, hg, k⟩ := h
      exact absurd hg.1 (Nat.not_lt_zero _))
  | n + 1 => by
    have G_is_base := ok_isb (P := P) (w := w) (base := base) T
    have G_has_word := ok_has T n
    refine T.F_has_word.ok sc_has_word (fun vs H Q E h => ?_) (fun cdv Ar outer s H vs Q E hr h => ?_)
    · obtain ⟨M, x, h, _⟩ := h
      exact ats_len h rfl
    · obtain ⟨M, ⟨x, wd⟩, h, hM, hg, k⟩ := h
      obtain ⟨v, v2, rfl, hd, hw⟩ := Ats.two_inv h
      obtain ⟨rfl, _⟩ := hw.str_inv
      refine ⟨_, (pss_cons (ps_if (ptTr (K := K) (pe_call G_is_base (hr.mono (by omega)) rfl T.g_is_base T.F_is_base.kp T.b_is_base .nil pass0 (pa_cons (pv 0) pa_nil))) (pss_one (ps_ret pe_bl)) pss_nil)
      (pss_cons (ps_if (pt_cmpR (opEq (K := K) hr) (pe_ix (ixAny (K := K)) (pv 0) pe_int (fun _ _ => rfl)) (pv 1) (nomark _)) (pss_one (ps_ret pe_bl)) pss_nil)
      (pss_cons (ps_if (pt_cmpR (opEq (K := K) hr) (pe_ix (ixAny (K := K)) (pv 0) pe_int (fun _ _ => rfl)) pe_str (nomark _)) (pss_one (ps_ret pe_bl)) pss_nil)
      (pss_cons (ps_if (pt_cmpR (opEq (K := K) hr) (pe_ix (ixAny (K := K)) (pv 0) pe_int (fun _ _ => rfl)) pe_str (nomark _)) (pss_one (ps_ret (pe_callB (anyOf (K := K) rfl) (by rfl) T.b_any (by decide +kernel) (pa_cons (pe_lc (own := [("_", 2), ("inner", 3)]) (g := gTup K 2 (gCons (gName 2) (gCons (gName 3) (gNil)))) rfl sc_has_word.nd (pi_seq (K := K) (pe_ix (ixAny (K := K)) (pv 0) pe_int (fun _ _ => rfl))) (blkOk_by (own := [("_", 2), ("inner", 3)]) (N := N_has_word) (sc := defScope s_has_word) (by decide +kernel)) (fun _ _ _ _ _ => (pgTup (K := K) rfl (pgs_cons (pg_name (i := 2) sc_has_word.nd rfl (by first | exact Or.inl rfl | exact Or.inr rfl)) (pgs_cons (pg_name (i := 3) sc_has_word.nd rfl (by first | exact Or.inl rfl | exact Or.inr rfl)) pgs_nil)))) (fun _ _ _ _ _ => pts_nil) (fun _ _ _ _ _ => (pe_call G_has_word (hr.mono (by omega)) rfl T.g_has_word T.F_has_word.kp T.b_has_word .nil pass0 (pa_cons (pv 3) (pa_cons (pv 1) pa_nil))))) pa_nil)))) pss_nil)
      (pss_one (ps_ret (pe_callB (anyOf (K := K) rfl) (by rfl) T.b_any (by decide +kernel) (pa_cons (pe_lc (own := [("inner", 3)]) (g := gName 3) rfl sc_has_word.nd (pi_seq (K := K) (pe_slice (slAny (K := K)) (pv 0) (po_some pe_int) po_none)) (blkOk_by (own := [("inner", 3)]) (N := N_has_word) (sc := defScope s_has_word) (by decide +kernel)) (fun _ _ _ _ _ => (pg_name (i := 3) sc_has_word.nd rfl (by first | exact Or.inl rfl | exact Or.inr rfl))) (fun _ _ _ _ _ => pts_nil) (fun _ _ _ _ _ => (pe_call G_has_word (hr.mono (by omega)) rfl T.g_has_word T.F_has_word.kp T.b_has_word .nil pass0 (pa_cons (pv 3) (pa_cons (pv 1) pa_nil))))) pa_nil)))))))), ?_⟩
      replace hg : gk (n + 1) x := hg
      replace hd : At M H v x.D := hd
      replace hw : At M H (.str wd) (.str wd) := hw
      cases x with
      | base s =>
        rw [Kd.D] at hd
        refine q_when (b := true) (et_is (by walk_at "edt") (by rfl)) (fun _ H1 e1 => ?_) (fun c => by cases c)
        exact d_ret (M := M) (by walk_at "ed") fun v' H2 e2 a => k v' H2 (e1.trans e2) a
      | any i =>
        rw [Kd.D] at hd
        refine q_when (b := false) (et_is (by walk_at "edt") (by rfl)) (fun c => by cases c) (fun _ H1 e1 => ?_)
        have hd := hd.ex e1; have hw := hw.ex e1
        refine q_when (b := decide (("any" : Str) = wd)) (by walk_at "edt") (fun c H2 e2 => ?_) (fun c H2 e2 => ?_)
        · exact d_ret (M := M) (d := .bool true) (by walk_at "ed") fun v' H3 e3 a => k v' H3 ((e1.trans e2).trans e3) (show At M _ v' (.bool (Kd.has wd _)) by rw [Kd.has, c]; exact a)
        · have hd := hd.ex e2; have hw := hw.ex e2
          refine q_when (b := true) (et_is (by walk_at "edt") (by rfl)) (fun _ H3 e3 => ?_) (fun c => by cases c)
          exact d_ret (M := M) (d := .bool false) (by walk_at "ed") fun v' H4 e4 a => k v' H4 (((e1.trans e2).trans e3).trans e4) (show At M _ v' (.bool (Kd.has wd _)) by rw [Kd.has, c]; exact a)
      | lst x =>
        rw [Kd.D] at hd
        have gx := gk_lst hg
        refine q_when (b := false) (et_is (by walk_at "edt") (by rfl)) (fun c => by cases c) (fun _ H1 e1 => ?_)
        have hd := hd.ex e1; have hw := hw.ex e1
        refine q_when (b := decide (("list" : Str) = wd)) (by walk_at "edt") (fun c H2 e2 => ?_) (fun c H2 e2 => ?_)
        · exact d_ret (M := M) (d := .bool true) (by walk_at "ed") fun v' H3 e3 a => k v' H3 ((e1.trans e2).trans e3) (show At M _ v' (.bool (Kd.has wd _)) by rw [Kd.has, c]; exact a)
        · have hd := hd.ex e2; have hw := hw.ex e2
          refine q_when (b := false) (et_is (by walk_at "edt") (by rfl)) (fun c => by cases c) (fun _ H3 e3 => ?_)
          have hd := hd.ex e3; have hw := hw.ex e3
          refine q_when (b := false) (et_is (by walk_at "edt") (by rfl)) (fun c => by cases c) (fun _ H4 e4 => ?_)
          have hd := hd.ex e4; have hw := hw.ex e4
          have hM4 := hM.same (((e1.trans e2).trans e3).trans e4)
          refine d_ret (M := M) (ed_any (as := [x]) (p := fun y => y.has wd) (ed_lcN (gd := Kd.D) (fun y => .bool (y.has wd)) (ed_slT (lo := some 1) (by walk_at "ed") hM4 (eo_some ev_c) eo_none (by simp) (by simp [HT.sIx])) rfl rfl hM4 (by simp) (fun _ => rfl)
            fun M' x' y H5 e5 hy hM' ax => ?_)) fun v' H5 e5 a => k v' H5 ((((e1.trans e2).trans e3).trans e4).trans e5) ?_
          · rw [List.mem_singleton] at hy
            subst hy
            have hw5 : At M' H5 (.str wd) (.str wd) := .str _ hw.str_inv.2
            exact ed_callX (dom := fun x : Kd × Str => [x.1.D, .str x.2]) (y, wd) (by walk_at "eds") hM' gx
          · show At M H5 v' (.bool (Kd.has wd _))
            rw [Kd.has, c, Bool.false_or]
            simpa using a
      | fn x y =>
        rw [Kd.D] at hd
        have gx := gk_fn hg
        refine q_when (b := false) (et_is (by walk_at "edt") (by rfl)) (fun c => by cases c) (fun _ H1 e1 => ?_)
        have hd := hd.ex e1; have hw := hw.ex e1
        refine q_when (b := decide (("function" : Str) = wd)) (by walk_at "edt") (fun c H2 e2 => ?_) (fun c H2 e2 => ?_)
        · exact d_ret (M := M) (d := .bool true) (by walk_at "ed") fun v' H3 e3 a => k v' H3 ((e1.trans e2).trans e3) (show At M _ v' (.bool (Kd.has wd _)) by rw [Kd.has, c]; exact a)
        · have hd := hd.ex e2; have hw := hw.ex e2
          refine q_when (b := false) (et_is (by walk_at "edt") (by rfl)) (fun c => by cases c) (fun _ H3 e3 => ?_)
          have hd := hd.ex e3; have hw := hw.ex e3
          refine q_when (b := false) (et_is (by walk_at "edt") (by rfl)) (fun c => by cases c) (fun _ H4 e4 => ?_)
          have hd := hd.ex e4; have hw := hw.ex e4
          have hM4 := hM.same (((e1.trans e2).trans e3).trans e4)
          refine d_ret (M := M) (ed_any (as := [x, y]) (p := fun y => y.has wd) (ed_lcN (gd := Kd.D) (fun y => .bool (y.has wd)) (ed_slT (lo := some 1) (by walk_at "ed") hM4 (eo_some ev_c) eo_none (by simp) (by simp [HT.sIx])) rfl rfl hM4 (by simp) (fun _ => rfl)
            fun M' x' z H5 e5 hy hM' ax => ?_)) fun v' H5 e5 a => k v' H5 ((((e1.trans e2).trans e3).trans e4).trans e5) ?_
          · have gz : gk n z := by
              simp only [List.mem_cons, List.not_mem_nil, or_false] at hy
              rcases hy with rfl | rfl
              · exact gx.1
              · exact gx.2
            have hw5 : At M' H5 (.str wd) (.str wd) := .str _ hw.str_inv.2
            exact ed_callX (dom := fun x : Kd × Str => [x.1.D, .str x.2]) (z, wd) (by walk_at "eds") hM' gz
          · show At M H5 v' (.bool (Kd.has wd _))
            rw [Kd.has, c, Bool.false_or]
            simpa using a
      | rcd ls =>
        rw [Kd.D] at hd
        have gx := gk_rcd hg
        refine q_when (b := false) (et_is (by walk_at "edt") (by rfl)) (fun c => by cases c) (fun _ H1 e1 => ?_)
        have hd := hd.ex e1; have hw := hw.ex e1
        refine q_when (b := decide (("record" : Str) = wd)) (by walk_at "edt") (fun c H2 e2 => ?_) (fun c H2 e2 => ?_)
        · exact d_ret (M := M) (d := .bool true) (by walk_at "ed") fun v' H3 e3 a => k v' H3 ((e1.trans e2).trans e3) (show At M _ v' (.bool (Kd.has wd _)) by rw [Kd.has, c]; exact a)
        · have hd := hd.ex e2; have hw := hw.ex e2
          refine q_when (b := false) (et_is (by walk_at "edt") (by rfl)) (fun c => by cases c) (fun _ H3 e3 => ?_)
          have hd := hd.ex e3; have hw := hw.ex e3
          have hM3 := hM.same ((e1.trans e2).trans e3)
          refine q_when (b := true) (et_is (by walk_at "edt") (by rfl)) (fun _ H4 e4 => ?_) (fun c => by cases c)
          have hd := hd.ex e4; have hw := hw.ex e4
          have hM4 := hM3.same e4
          refine d_ret (M := M) (ed_any (as := ls.toL) (p := fun y => y.2.has wd) (ed_lcT (a := .tuple ls.Ds) (gd := coupD) (g1 := fun p => .str p.1) (g2 := fun p => p.2.D) (fun y => .bool (y.2.has wd)) (by walk_at "ed") rfl (Kl.Ds_eq ls) (fun _ => rfl) hM4 (by omega) (fun _ _ => rfl)
            fun M' x' x2 z H5 e5 hy hM' ax ax2 => ?_)) fun v' H5 e5 a => k v' H5 ((((e1.trans e2).trans e3).trans e4).trans e5) ?_
          · have hw5 : At M' H5 (.str wd) (.str wd) := .str _ hw.str_inv.2
            exact ed_callX (dom := fun x : Kd × Str => [x.1.D, .str x.2]) (z.2, wd) (by walk_at "eds") hM' (gx.2 z hy)
          · show At M H5 v' (.bool (Kd.has wd _))
            rw [Kd.has, c, Bool.false_or, Kl.has_eq]
            exact a
abbrev sp1 (n : Nat) (F : Kd → PyData) : Sp := spX (dom1 Kd.D) (gk n) F
theorem ed_has {σ : L2.St} {H : Hp} {te tb : TE} {M : Addr → Prop} {k : Kd} {wd : Str} {E : XK} {n : Nat} (h : EvD M te σ H k.D) (h2 : EvD M tb σ H (.str wd)) (hM : Trk M H) (g : gk n k) : EvD M (tCall (spHas n) [] E (tCons te (tCons tb tNil))) σ H (.bool (k.has wd)) :=
  ed_callX (dom := fun x : Kd × Str => [x.1.D, .str x.2]) (k, wd) (eds_cons h (eds_cons h2 eds_nil)) hM g
theorem ed_k1 {σ : L2.St} {H : Hp} {te : TE} {M : Addr → Prop} {k : Kd} {F : Kd → PyData} {E : XK} {n : Nat} (h : EvD M te σ H k.D) (hM : Trk M H) (g : gk n k) : EvD M (tCall (sp1 n F) [] E (tCons te tNil)) σ H (F k) :=
  ed_callX (dom := dom1 Kd.D) k (eds_cons h eds_nil) hM g
theorem ok_open (T : Txt K mg A) : FnOk P w K mg base CX0 10 A.a_has_open A.f_has_open ["kind"] (sp1 6 fun k => .bool (k.has "any")) := by
  have G_has_word := ok_has (P := P) (w := w) (base := base) T 6
  refine T.F_has_open.ok sc_has_open (fun vs H Q E h => (let ⟨M, x, h, _⟩ := h; ats_len h rfl)) (fun cdv Ar outer s H vs Q E hr h => ?_)
  obtain ⟨M, x, h, hM, hg, k⟩ := h
  obtain ⟨v, rfl, hd⟩ := Ats.one_inv h
  refine ⟨_, (pss_one (ps_ret (pe_call G_has_word (hr.mono (by omega)) rfl T.g_has_word T.F_has_word.kp T.b_has_word .nil pass0 (pa_cons (pv 0) (pa_cons pe_str pa_nil))))), ?_⟩
  exact d_ret (ed_has (ed_var rfl hd) ed_str hM hg) k
theorem ok_function (T : Txt K mg A) : FnOk P w K mg base CX0 10 A.a_has_function A.f_has_function ["kind"] (sp1 6 fun k => .bool (k.has "function")) := by
  have G_has_word := ok_has (P := P) (w := w) (base := base) T 6
  refine T.F_has_function.ok sc_has_function (fun vs H Q E h => (let ⟨M, x, h, _⟩ := h; ats_len h rfl)) (fun cdv Ar outer s H vs Q E hr h => ?_)
  obtain ⟨M, x, h, hM, hg, k⟩ := h
  obtain ⟨v, rfl, hd⟩ := Ats.one_inv h
  refine ⟨_, (pss_one (ps_ret (pe_call G_has_word (hr.mono (by omega)) rfl T.g_has_word T.F_has_word.kp T.b_has_word .nil pass0 (pa_cons (pv 0) (pa_cons pe_str pa_nil))))), ?_⟩
  exact d_ret (ed_has (ed_var rfl hd) ed_str hM hg) k
theorem isStr_D (k : Kd) : isStr k.D = k.isB := by cases k <;> rfl
theorem head_D {k : Kd} (h : k.isB = false) : ∃ s : Str, isSeq k.D = true ∧ atI (itemsD k.D) 0 = some (.str s) ∧ (decide (s = "list") = k.isLst) := by
  cases k with
  | base s => cases h
  | any i => exact ⟨"any", rfl, rfl, rfl⟩
  | lst k => exact ⟨"list", rfl, rfl, rfl⟩
  | fn a b => exact ⟨"function", rfl, rfl, rfl⟩
  | rcd ls => exact ⟨"record", rfl, rfl, rfl⟩
def answerD (k : Kd) : Bool := !k.isB && (k.isLst && (!k.has "any" && !k.has "function"))
theorem ok_answer (T : Txt K mg A) : FnOk P w K mg base CX0 12 A.a_is_answer_kind A.f_is_answer_kind ["kind"] (sp1 6 fun k => .bool (answerD k)) := by
  have G_is_base := ok_isb (P := P) (w := w) (base := base) T
  have G_has_open := ok_open (P := P) (w := w) (base := base) T
  have G_has_function := ok_function (P := P) (w := w) (base := base) T
  refine T.F_is_answer_kind.ok sc_is_answer_kind (fun vs H Q E h => (let ⟨M, x, h, _⟩ := h; ats_len h rfl)) (fun cdv Ar outer s H vs Q E hr h => ?_)
  obtain ⟨M, x, h, hM, hg, k⟩ := h
  obtain ⟨v, rfl, hd⟩ := Ats.one_inv h
  refine ⟨_, (pss_one (ps_ret (pe_and (pe_not (pe_call G_is_base (hr.mono (by omega)) rfl T.g_is_base T.F_is_base.kp T.b_is_base .nil pass0 (pa_cons (pv 0) pa_nil))) (pe_and (pe_cmpR (opEq (K := K) hr) (pe_ix (ixAny (K := K)) (pv 0) pe_int (fun _ _ => rfl)) pe_str (nomark _)) (pe_and (pe_not (pe_call G_has_open (hr.mono (by omega)) rfl T.g_has_open T.F_has_open.kp T.b_has_open .nil pass0 (pa_cons (pv 0) pa_nil))) (pe_one (pe_not (pe_call G_has_function (hr.mono (by omega)) rfl T.g_has_function T.F_has_function.kp T.b_has_function .nil pass0 (pa_cons (pv 0) pa_nil))))))))), ?_⟩
  refine d_ret (M := M) (d := .bool (answerD x)) ?_ k
  unfold answerD
  rw [← isStr_D]
  refine ed_and (ed_not (ed_isb (ed_var rfl hd) hM)) fun c => ?_
  obtain ⟨s, h1, h2, h3⟩ := head_D (k := x) (by rw [← isStr_D]; simpa using c)
  rw [← h3]
  exact ed_and (ed_eqS (ed_ix (ed_var rfl hd) ed_int h1 h2) ed_str) fun _ => ed_and (ed_not (ed_k1 (F := fun k => .bool (k.has "any")) (ed_var rfl hd) hM hg)) fun _ => ed_not (ed_k1 (F := fun k => .bool (k.has "function")) (ed_var rfl hd) hM hg)
end
end K1
set_option Elab.async false
set_option linter.all false
set_option maxRecDepth 100000
set_option maxHeartbeats 600000
namespace K1
open PySem PySem.Spec PyProof.Rows L2 LK Evl
local macro_rules | `(tactic| walk_at "rv") => `(tactic| first
  | exact rv_addI | exact rv_I0 | exact rv_I (by decide) | exact rv_I (Or.inr (by omega)) | exact rv_I (Or.inl (by omega)) | exact rv_I (by omega) | exact rv_I ⟨by omega, by omega⟩ | exact rv_I ⟨by decide, by decide, by decide⟩ | exact rv_ltI | exact rv_leI | exact rv_gtI | exact rv_geI | exact rv_eqS rfl | exact rv_neS rfl | exact rv_leS | exact rv_ltS
  | exact rv_inC | exact rv_niC | exact rv_isBl | exact rv_isntBl | exact rv_isN | exact rv_isntN
  | exact rv_xA (by assumption) (by assumption) | exact rv_xT (by assumption) (by assumption) | exact rv_xL (by assumption) (by assumption) | exact rv_xS (by assumption) (by assumption)
  | exact rv_xT (by assumption) rfl | exact rv_xL (by assumption) rfl | exact rv_inA (by assumption) rfl rfl | exact rv_addS (by assumption))
local macro_rules | `(tactic| walk_at "rc") => `(tactic| first
  | exact rc_int | exact rc_ord | exact rc_lenS (by assumption) | exact rc_lenL (by assumption) | exact rc_lenT (by assumption) | exact rc_lenA (by assumption) | exact rc_isiS (by assumption) | exact rc_isiI (by assumption) | exact rc_isiB (by assumption) | exact rc_isiL (by assumption) | exact rc_isiT (by assumption))
local macro_rules | `(tactic| walk_at "ea") => `(tactic| first | exact ea_nil | (apply ea_cons; walk_at "ev"; walk_at "ea"))
local macro_rules | `(tactic| walk_at "ev") => `(tactic| first
  | assumption
  | exact ev_var rfl
  | exact ev_c
  | (apply ev_op; walk_at "ev"; walk_at "ev"; walk_at "rv")
  | (apply ev_un; walk_at "ev"; exact ru_neg)
  | (apply ev_isiLT; walk_at "ev"; assumption)
  | (apply ev_call; walk_at "ea"; walk_at "sv")
  | (apply ev_cb; walk_at "ea"; walk_at "rc")
  | (apply ev_if; walk_at "et"; (intro _; walk_at "ev"); (intro _; walk_at "ev"))
  | (apply ev_chain; walk_at "ev"; walk_at "ev"; walk_at "rv"; walk_at "ev"; walk_at "rv")
  | (apply ev_notV; walk_at "ev")
  | (apply ev_andV; walk_at "ev"; (intro _; walk_at "ev"))
  | (apply ev_orV; walk_at "ev"; (intro _; walk_at "ev")))
local macro_rules | `(tactic| walk_at "et") => `(tactic| first
  | assumption
  | (apply et_test; walk_at "ev")
  | (apply et_B; walk_at "ev")
  | (apply et_not; walk_at "et")
  | (apply et_and; walk_at "et"; (intro _; walk_at "et"))
  | (apply et_or; walk_at "et"; (intro _; walk_at "et"))
  | (apply et_tru; walk_at "ev"; walk_at "tru"))
local macro_rules | `(tactic| walk_at "tru") => `(tactic| first | exact tr_bl | exact tr_L (by assumption) | exact tr_T (by assumption) | exact tr_A (by assumption))
local macro_rules | `(tactic| walk_at "ed") => `(tactic| first
  | exact ed_non | exact ed_bl | exact ed_int | exact ed_str
  | exact ed_var rfl (by assumption)
  | (apply ed_ix; walk_at "ed"; walk_at "ed"; rfl; rfl)
  | (apply ed_eqS; walk_at "ed"; walk_at "ed")
  | (apply ed_neS; walk_at "ed"; walk_at "ed")
  | (apply ed_eqI; walk_at "ed"; walk_at "ed")
  | (apply ed_isiS; walk_at "ed")
  | (apply ed_isiT; walk_at "ed")
  | walk_at "edc"
  | (apply ed_not; walk_at "ed")
  | (apply ed_and; walk_at "ed"; (intro _; walk_at "ed"))
  | (apply ed_or; walk_at "ed"; (intro _; walk_at "ed"))
  | (refine ed_tup ?_ (by assumption) (by first | decide | (simp; done)); walk_at "eds")
  | (refine ed_lst ?_ (by assumption) (by first | decide | (simp; done)); walk_at "eds"))
local macro_rules | `(tactic| walk_at "eds") => `(tactic| first | exact eds_nil | (apply eds_cons; walk_at "ed"; walk_at "eds"))
local macro_rules | `(tactic| walk_at "edt") => `(tactic| first
  | (apply et_D; walk_at "ed")
  | (apply et_DT; walk_at "ed")
  | (apply et_DB; walk_at "ed")
  | (apply et_not; walk_at "edt")
  | (apply et_and; walk_at "edt"; (intro _; walk_at "edt"))
  | (apply et_or; walk_at "edt"; (intro _; walk_at "edt")))
local macro_rules | `(tactic| walk_at "edc") => `(tactic| first
  | (apply ed_isb; walk_at "ed"; assumption))
def lpD (k : Kd) : PyData := .tuple (k.lp.map stD)
def fpD (k : Kd) : PyData := .tuple (k.fp.map stD)
section
variable {P : Program} {w : World} {K : PySem.W.Frag} {mg : Str → Option Value} {base : Heap} {A : Adr}
/-- [(label,) + steps for steps in ..] -/
theorem ed_pre {σ : L2.St} {H : Hp} {tl ta : TE} {M : Addr → Prop} {ls : List (List Str)} {s : Str} {n j : Nat} {vs : List Nat} (h : EvD M tl σ H (.tuple (ls.map stD))) (hM : Trk M H) (hz : ls.length ≤ 40000) (hd : ∀ st ∈ ls, st.length ≤ 1000) (hs : s.length ≤ 100000)
    (hw : ∀ x, wipe ((wipe σ vs).set j (some x)) vs = wipe σ vs) (ha : ∀ (M' : Addr → Prop) (x : V) H1, Ex H H1 → Trk M' H1 → EvD M' ta ((wipe σ vs).set j (some x)) H1 (.tuple [.str s])) (hj : ∀ x, ((wipe σ vs).set j (some x))[j]? = some (some x)) :
    EvD M (tLc (iSeq K tl) (gName j) tYes (tOp (rAddA K) ta (tVar j)) vs) σ H (.list ((ls.map (s :: ·)).map stD)) := by
  have z := ed_lcN (K := K) (te := tOp (rAddA K) ta (tVar j)) (j := j) (vs := vs) (fun st => stD (s :: st)) h rfl rfl hM hz hw fun M' x st H1 e hy hM' ax => ed_catT (ds := [.str s]) (es := st.map .str) (ha M' x H1 e hM') (ed_var (hj x) ax) hM' (by
    have := hd st hy
    simp
    omega)
  rw [List.map_map]
  exact z
/-- for label, inner in kind[1]: out.extend([(label,) + steps for steps in f(inner)]) -/
theorem for_out {F : Kd → List (List Str)} {n : Nat} {M : Addr → Prop} {H1 H : Hp} {q : Addr} {v : V} {ls : Kl} {D : Ends} (hF : ∀ k, (F k).length ≤ k.sz) (hF2 : ∀ k, ∀ st ∈ F k, st.length ≤ k.dep) (hg : gk (n + 1) (.rcd ls))
    (hd : At M H1 v (T2 (S "record") (.tuple ls.Ds))) (hM : Trk M H1) (hq : H1 q = none) (e : Ex H1 H) (o : OutAt M q H [])
    (k : ∀ c1 c2 H2, Ex H1 H2 → OutAt M q H2 ((ls.toL.flatMap fun p => (F p.2).map (p.1 :: ·)).map stD) → D.nx [some v, some (.ref q), c1, c2, none] H2) :
    tFor (iSeq K (tOp (rIx K) (tVar 0) (tC (.int 1)))) (gTup K 2 (gCons (gName 2) (gCons (gName 3) gNil)))
      (tDrop (tBM K "list" rExtend (tVar 1) (tCons (tLc (iSeq K (tCall (sp1 n fun k => .tuple ((F k).map stD)) [] E0 (tCons (tVar 3) tNil))) (gName 4) tYes (tOp (rAddA K) (tTup (tCons (tVar 2) tNil)) (tVar 4)) [4]) tNil))) D [some v, some (.ref q), none, none, none] H := by
  have gx := gk_rcd hg
  have hsz : ls.sz ≤ 1000 := by
    have := hg.2.2
    rw [Kd.sz] at this
    omega
  obtain ⟨p, xs, rfl, np, hp, rp⟩ := hd.tup_inv
  cases rp with
  | cons h1 rp => cases rp with
    | cons h2 rp =>
    cases rp
    obtain ⟨a, ys, rfl, na, ha, ra⟩ := h2.tup_inv
    rw [Kl.Ds_eq] at ra
    refine s_forA (K := K) (Hb := H1) (a := a) (xs := ys) (ev_op (ev_var rfl) ev_c (rv_xT (.of (e _ _ hp)) rfl)) (.inr (.of ha)) (fun i σ' H' => Ex H1 H' ∧ OutAt M q H' (((ls.toL.take i).flatMap fun p => (F p.2).map (p.1 :: ·)).map stD) ∧ ∃ c1 c2, σ' = [some (.ref p), some (.ref q), c1, c2, none])
      (fun H2 e2 => ⟨e.trans e2, o.ex e2, none, none, rfl⟩) (fun i σ' H' pv => pv.1) ?_ ?_
    · rintro i x σ' H2 hx ⟨e2, o2, c1, c2, rfl⟩
      obtain ⟨di, hdi, ai⟩ := ra.get hx
      rw [List.getElem?_map] at hdi
      obtain ⟨y, hy, rfl⟩ := Option.map_eq_some_iff.mp hdi
      have hm := List.mem_of_getElem? hy
      have ai2 : At (And1 M q) H2 x (.tuple [.str y.1, y.2.D]) := (ai.add hq).ex e2
      obtain ⟨x1, x2, a1, a2, tk⟩ := tk_two (K := K) (i := 2) (j := 3) (σ0 := [some (.ref p), some (.ref q), c1, c2, none]) ai2
      refine tk _ ?_
      have t2 := o2.trk hM e2
      have g2 := gx.2 y hm
      have b1 := hF y.2
      have b2 := g2.2.2
      refine s_extD (M := M) (G := H1) (ds := ((F y.2).map (y.1 :: ·)).map stD) rfl hq e2 o2 (ed_pre (K := K) (n := n) (s := y.1) (ed_k1 (F := fun k => .tuple ((F k).map stD)) (ed_var rfl a2) t2 g2) t2 (by omega) (fun st hs => ?_) a1.str_inv.2 (fun _ => rfl)
        (fun M' x' H5 e5 hM' => ed_tup (eds_cons (eo_of (ev_var rfl) (by rw [a1.str_inv.1]; exact .str _ a1.str_inv.2)) eds_nil) hM' (by simp)) (fun _ => rfl)) ?_ fun H5 e5 o5 => ⟨e5, ?_, _, _, rfl⟩
      · have := hF2 y.2 st hs
        have := Kd.dep_sz y.2
        omega
      · have := Kl.sum_len hF ls i
        rw [List.length_map, List.length_map, List.length_map]
        omega
      · rw [List.take_add_one, hy, Option.toList_some, List.flatMap_append, List.map_append]
        simpa using o5
    · rintro σ' H2 ⟨e2, o2, c1, c2, rfl⟩
      rw [ra.len, List.length_map, List.take_length] at o2
      exact k c1 c2 H2 e2 o2
theorem ok_places (T : Txt K mg A) : ∀ n : Nat, FnOk P w K mg base CX0 (n + 1) A.a_list_places A.f_list_places ["kind"] (sp1 n lpD)
  | 0 => T.F_list_places.ok sc_list_places (fun vs H Q E h => (let ⟨M, x, h, _⟩ := h; ats_len h rfl)) (fun cdv Ar outer s H vs Q E hr h => by
      obtain ⟨M, x, h, hM, hg, k⟩ := h
      exact absurd hg.1 (Nat.not_lt_zero _))
  | n + 1 => by
    have G_is_base := ok_isb (P := P) (w := w) (base := base) T
    have G_list_places := ok_places T n
    refine T.F_list_places.ok sc_list_places (fun vs H Q E h => (let ⟨M, x, h, _⟩ := h; ats_len h rfl)) (fun cdv Ar outer s H vs Q E hr h => ?_)
    obtain ⟨M, x, h, hM, hg, k⟩ := h
    obtain ⟨v, rfl, hd⟩ := Ats.one_inv h
    refine ⟨_, (pss_cons (ps_if (ptTr (K := K) (pe_call G_is_base (hr.mono (by omega)) rfl T.g_is_base T.F_is_base.kp T.b_is_base .nil pass0 (pa_cons (pv 0) pa_nil))) (pss_one (ps_ret (pe_tup pa_nil))) pss_nil)
      (pss_cons (ps_set (i := 1) sc_list_places.nd rfl (by first | exact Or.inl rfl | exact Or.inr rfl) (pe_lst pa_nil))
      (pss_cons (ps_if (pt_cmpR (opEq (K := K) hr) (pe_ix (ixAny (K := K)) (pv 0) pe_int (fun _ _ => rfl)) pe_str (nomark _)) (pss_cons (ps_expr (pe_bm PySem.F.plainAttrs_list PySem.F.slot_list_append PySem.F.type_list_append mt_append (pv 1) (pa_cons (pe_tup pa_nil) pa_nil)))
      (pss_one (ps_expr (pe_bm PySem.F.plainAttrs_list PySem.F.slot_list_extend PySem.F.type_list_extend mt_extend (pv 1) (pa_cons (pe_lc (own := [("steps", 4)]) (g := gName 4) rfl sc_list_places.nd (pi_seq (K := K) (pe_call G_list_places (hr.mono (by omega)) rfl T.g_list_places T.F_list_places.kp T.b_list_places .nil pass0 (pa_cons (pe_ix (ixAny (K := K)) (pv 0) pe_int (fun _ _ => rfl)) pa_nil))) (blkOk_by (own := [("steps", 4)]) (N := N_list_places) (sc := defScope s_list_places) (by decide +kernel)) (fun _ _ _ _ _ => (pg_name (i := 4) sc_list_places.nd rfl (by first | exact Or.inl rfl | exact Or.inr rfl))) (fun _ _ _ _ _ => pts_nil) (fun _ _ _ _ _ => (pe_op (opAdd (K := K)) (pe_tup (pa_cons pe_str pa_nil)) (pv 4)))) pa_nil))))) pss_nil)
      (pss_cons (ps_if (pt_cmpR (opEq (K := K) hr) (pe_ix (ixAny (K := K)) (pv 0) pe_int (fun _ _ => rfl)) pe_str (nomark _)) (pss_one (ps_for PassesOwn.never rfl (pi_seq (K := K) (pe_ix (ixAny (K := K)) (pv 0) pe_int (fun _ _ => rfl))) (pg_tup rfl (pgs_cons (pg_name (i := 2) sc_list_places.nd rfl (by first | exact Or.inl rfl | exact Or.inr rfl)) (pgs_cons (pg_name (i := 3) sc_list_places.nd rfl (by first | exact Or.inl rfl | exact Or.inr rfl)) pgs_nil))) (pss_one (ps_expr (pe_bm PySem.F.plainAttrs_list PySem.F.slot_list_extend PySem.F.type_list_extend mt_extend (pv 1) (pa_cons (pe_lc (own := [("steps", 4)]) (g := gName 4) rfl sc_list_places.nd (pi_seq (K := K) (pe_call G_list_places (hr.mono (by omega)) rfl T.g_list_places T.F_list_places.kp T.b_list_places .nil pass0 (pa_cons (pv 3) pa_nil))) (blkOk_by (own := [("steps", 4)]) (N := N_list_places) (sc := defScope s_list_places) (by decide +kernel)) (fun _ _ _ _ _ => (pg_name (i := 4) sc_list_places.nd rfl (by first | exact Or.inl rfl | exact Or.inr rfl))) (fun _ _ _ _ _ => pts_nil) (fun _ _ _ _ _ => (pe_op (opAdd (K := K)) (pe_tup (pa_cons (pv 2) pa_nil)) (pv 4)))) pa_nil)))))) pss_nil)
      (pss_one (ps_ret (pe_callTy (tupOf (K := K)) (by rfl) T.b_tuple (by decide +kernel) (pa_cons (pv 1) pa_nil)))))))), ?_⟩
    cases x with
    | base s =>
      rw [Kd.D] at hd
      refine q_when (b := true) (et_is (by walk_at "edt") (by rfl)) (fun _ H1 e1 => ?_) (fun c => by cases c)
      have hM1 := hM.same e1
      exact d_ret (M := M) (ed_tup eds_nil hM1 (by decide)) fun v' H2 e2 a => k v' H2 (e1.trans e2) a
    | any i =>
      rw [Kd.D] at hd
      refine q_when (b := false) (et_is (by walk_at "edt") (by rfl)) (fun c => by cases c) (fun _ H1 e1 => ?_)
      have hd := hd.ex e1
      refine q_asgL (i := 1) (xs := []) (el_lst ea_nil (by decide)) fun q H2 hq e2 h2 => ?_
      have hdq := (hd.add hq).ex e2
      refine q_when (b := false) (et_is (by walk_at "edt") (by rfl)) (fun c => by cases c) (fun _ H3 e3 => ?_)
      have hdq := hdq.ex e3
      refine q_when (b := false) (et_is (by walk_at "edt") (by rfl)) (fun c => by cases c) (fun _ H4 e4 => ?_)
      exact s_retOut rfl ((e2.trans e3).trans e4) (hM.same e1) (out_new ((e3.trans e4) _ _ h2)) fun v' H5 e5 a => k v' H5 (e1.trans e5) a
    | fn a b =>
      rw [Kd.D] at hd
      refine q_when (b := false) (et_is (by walk_at "edt") (by rfl)) (fun c => by cases c) (fun _ H1 e1 => ?_)
      have hd := hd.ex e1
      refine q_asgL (i := 1) (xs := []) (el_lst ea_nil (by decide)) fun q H2 hq e2 h2 => ?_
      have hdq := (hd.add hq).ex e2
      refine q_when (b := false) (et_is (by walk_at "edt") (by rfl)) (fun c => by cases c) (fun _ H3 e3 => ?_)
      have hdq := hdq.ex e3
      refine q_when (b := false) (et_is (by walk_at "edt") (by rfl)) (fun c => by cases c) (fun _ H4 e4 => ?_)
      exact s_retOut rfl ((e2.trans e3).trans e4) (hM.same e1) (out_new ((e3.trans e4) _ _ h2)) fun v' H5 e5 a => k v' H5 (e1.trans e5) a
    | lst x =>
      have gx := gk_lst hg
      rw [Kd.D] at hd
      refine q_when (b := false) (et_is (by walk_at "edt") (by rfl)) (fun c => by cases c) (fun _ H1 e1 => ?_)
      have hd := hd.ex e1
      have hM1 : Trk M H1 := hM.same e1
      refine q_asgL (i := 1) (xs := []) (el_lst ea_nil (by decide)) fun q H2 hq e2 h2 => ?_
      have hdq := (hd.add hq).ex e2
      refine q_when (b := true) (et_is (by walk_at "edt") (by rfl)) (fun _ H3 e3 => ?_) (fun c => by cases c)
      have hdq := hdq.ex e3
      have o3 := (out_new (M := M) h2).ex e3
      have e13 := e2.trans e3
      have t3 := o3.trk hM1 e13
      refine q_appD (M := M) (G := H1) (d := .tuple []) rfl hq e13 o3 (by walk_at "ed") (by decide) fun H4 e4 o4 => ?_
      have t4 := o4.trk hM1 e4
      have hd4 : At (And1 M q) H4 v (T2 (S "list") x.D) := (hd.add hq).ex e4
      have hz : (x.lp.map ((("*" : Str)) :: ·)).length ≤ 1000 := by
        have := Kd.lp_len x
        have := gx.2.2
        rw [List.length_map]
        omega
      have hz' : x.lp.length ≤ 1000 := by rw [List.length_map] at hz; exact hz
      refine s_extD (M := M) (G := H1) (ds := (x.lp.map (("*" : Str) :: ·)).map stD) rfl hq e4 o4 (ed_pre (K := K) (n := n) (s := "*") (ed_k1 (F := lpD) (by walk_at "ed") t4 gx) t4 (by omega) (fun st hs => ?_) (by decide) (fun _ => rfl) (fun M' x' H5 e5 hM' => by walk_at "ed") (fun _ => rfl)) (by
        rw [List.length_map]
        simp only [List.nil_append, List.length_cons, List.length_nil]
        omega) fun H5 e5 o5 => ?_
      · have := Kd.lp_dep x st hs
        have := Kd.lp_len x
        have := Kd.dep_sz x
        have := gx.2.2
        omega
      have hd5 : At (And1 M q) H5 v (T2 (S "list") x.D) := (hd.add hq).ex e5
      have t5 := o5.trk hM1 e5
      refine q_when (b := false) (et_is (et_DT (ed_eqS (s := "list") (t := "record") (ed_ix (ed_var rfl hd5) ed_int rfl rfl) ed_str)) (by decide)) (fun c => by cases c) (fun _ H6 e6 => ?_)
      exact s_retOut rfl (e5.trans e6) hM1 (o5.ex e6) fun v' H7 e7 a => k v' H7 (e1.trans e7) a
    | rcd ls =>
      rw [Kd.D] at hd
      refine q_when (b := false) (et_is (by walk_at "edt") (by rfl)) (fun c => by cases c) (fun _ H1 e1 => ?_)
      have hd := hd.ex e1
      have hM1 : Trk M H1 := hM.same e1
      refine q_asgL (i := 1) (xs := []) (el_lst ea_nil (by decide)) fun q H2 hq e2 h2 => ?_
      have hdq := (hd.add hq).ex e2
      refine q_when (b := false) (et_is (by walk_at "edt") (by rfl)) (fun c => by cases c) (fun _ H3 e3 => ?_)
      have hdq := hdq.ex e3
      refine q_when (b := true) (et_is (by walk_at "edt") (by rfl)) (fun _ H4 e4 => ?_) (fun c => by cases c)
      refine for_out (F := Kd.lp) Kd.lp_len Kd.lp_dep hg hd hM1 hq ((e2.trans e3).trans e4) (out_new ((e3.trans e4) _ _ h2)) fun c1 c2 H5 e5 o5 => ?_
      refine s_retOut rfl e5 hM1 o5 fun v' H6 e6 a => k v' H6 (e1.trans e6) ?_
      show At M H6 v' (.tuple ((Kl.lp ls).map stD))
      rw [flatMap_eq_lp]
      exact a
theorem ok_flat (T : Txt K mg A) : ∀ n : Nat, FnOk P w K mg base CX0 (n + 1) A.a_flat_paths A.f_flat_paths ["kind"] (sp1 n fpD)
  | 0 => T.F_flat_paths.ok sc_flat_paths (fun vs H Q E h => (let ⟨M, x, h, _⟩ := h; ats_len h rfl)) (fun cdv Ar outer s H vs Q E hr h => by
      obtain ⟨M, x, h, hM, hg, k⟩ := h
      exact absurd hg.1 (Nat.not_lt_zero _))
  | n + 1 => by
    have G_is_base := ok_isb (P := P) (w := w) (base := base) T
    have G_flat_paths := ok_flat T n
    refine T.F_flat_paths.ok sc_flat_paths (fun vs H Q E h => (let ⟨M, x, h, _⟩ := h; ats_len h rfl)) (fun cdv Ar outer s H vs Q E hr h => ?_)
    obtain ⟨M, x, h, hM, hg, k⟩ := h
    obtain ⟨v, rfl, hd⟩ := Ats.one_inv h
    refine ⟨_, (pss_cons (ps_if (ptTr (K := K) (pe_call G_is_base (hr.mono (by omega)) rfl T.g_is_base T.F_is_base.kp T.b_is_base .nil pass0 (pa_cons (pv 0) pa_nil))) (pss_one (ps_ret (pe_tup (pa_cons (pe_tup pa_nil) pa_nil)))) pss_nil)
      (pss_cons (ps_set (i := 1) sc_flat_paths.nd rfl (by first | exact Or.inl rfl | exact Or.inr rfl) (pe_lst pa_nil))
      (pss_cons (ps_if (pt_cmpR (opEq (K := K) hr) (pe_ix (ixAny (K := K)) (pv 0) pe_int (fun _ _ => rfl)) pe_str (nomark _)) (pss_one (ps_for PassesOwn.never rfl (pi_seq (K := K) (pe_ix (ixAny (K := K)) (pv 0) pe_int (fun _ _ => rfl))) (pg_tup rfl (pgs_cons (pg_name (i := 2) sc_flat_paths.nd rfl (by first | exact Or.inl rfl | exact Or.inr rfl)) (pgs_cons (pg_name (i := 3) sc_flat_paths.nd rfl (by first | exact Or.inl rfl | exact Or.inr rfl)) pgs_nil))) (pss_one (ps_expr (pe_bm PySem.F.plainAttrs_list PySem.F.slot_list_extend PySem.F.type_list_extend mt_extend (pv 1) (pa_cons (pe_lc (own := [("steps", 4)]) (g := gName 4) rfl sc_flat_paths.nd (pi_seq (K := K) (pe_call G_flat_paths (hr.mono (by omega)) rfl T.g_flat_paths T.F_flat_paths.kp T.b_flat_paths .nil pass0 (pa_cons (pv 3) pa_nil))) (blkOk_by (own := [("steps", 4)]) (N := N_flat_paths) (sc := defScope s_flat_paths) (by decide +kernel)) (fun _ _ _ _ _ => (pg_name (i := 4) sc_flat_paths.nd rfl (by first | exact Or.inl rfl | exact Or.inr rfl))) (fun _ _ _ _ _ => pts_nil) (fun _ _ _ _ _ => (pe_op (opAdd (K := K)) (pe_tup (pa_cons (pv 2) pa_nil)) (pv 4)))) pa_nil)))))) pss_nil)
      (pss_one (ps_ret (pe_callTy (tupOf (K := K)) (by rfl) T.b_tuple (by decide +kernel) (pa_cons (pv 1) pa_nil))))))), ?_⟩
    cases x with
    | base s =>
      rw [Kd.D] at hd
      refine q_when (b := true) (et_is (by walk_at "edt") (by rfl)) (fun _ H1 e1 => ?_) (fun c => by cases c)
      have hM1 := hM.same e1
      exact d_ret (M := M) (ed_tup (eds_cons (ed_tup eds_nil hM1 (by decide)) eds_nil) hM1 (by decide)) fun v' H2 e2 a => k v' H2 (e1.trans e2) a
    | any i =>
      rw [Kd.D] at hd
      refine q_when (b := false) (et_is (by walk_at "edt") (by rfl)) (fun c => by cases c) (fun _ H1 e1 => ?_)
      have hd := hd.ex e1
      refine q_asgL (i := 1) (xs := []) (el_lst ea_nil (by decide)) fun q H2 hq e2 h2 => ?_
      have hdq := (hd.add hq).ex e2
      refine q_when (b := false) (et_is (by walk_at "edt") (by rfl)) (fun c => by cases c) (fun _ H3 e3 => ?_)
      exact s_retOut rfl (e2.trans e3) (hM.same e1) (out_new (e3 _ _ h2)) fun v' H5 e5 a => k v' H5 (e1.trans e5) a
    | fn a b =>
      rw [Kd.D] at hd
      refine q_when (b := false) (et_is (by walk_at "edt") (by rfl)) (fun c => by cases c) (fun _ H1 e1 => ?_)
      have hd := hd.ex e1
      refine q_asgL (i := 1) (xs := []) (el_lst ea_nil (by decide)) fun q H2 hq e2 h2 => ?_
      have hdq := (hd.add hq).ex e2
      refine q_when (b := false) (et_is (by walk_at "edt") (by rfl)) (fun c => by cases c) (fun _ H3 e3 => ?_)
      exact s_retOut rfl (e2.trans e3) (hM.same e1) (out_new (e3 _ _ h2)) fun v' H5 e5 a => k v' H5 (e1.trans e5) a
    | lst x =>
      rw [Kd.D] at hd
      refine q_when (b := false) (et_is (by walk_at "edt") (by rfl)) (fun c => by cases c) (fun _ H1 e1 => ?_)
      have hd := hd.ex e1
      refine q_asgL (i := 1) (xs := []) (el_lst ea_nil (by decide)) fun q H2 hq e2 h2 => ?_
      have hdq := (hd.add hq).ex e2
      refine q_when (b := false) (et_is (by walk_at "edt") (by rfl)) (fun c => by cases c) (fun _ H3 e3 => ?_)
      exact s_retOut rfl (e2.trans e3) (hM.same e1) (out_new (e3 _ _ h2)) fun v' H5 e5 a => k v' H5 (e1.trans e5) a
    | rcd ls =>
      rw [Kd.D] at hd
      refine q_when (b := false) (et_is (by walk_at "edt") (by rfl)) (fun c => by cases c) (fun _ H1 e1 => ?_)
      have hd := hd.ex e1
      have hM1 : Trk M H1 := hM.same e1
      refine q_asgL (i := 1) (xs := []) (el_lst ea_nil (by decide)) fun q H2 hq e2 h2 => ?_
      have hdq := (hd.add hq).ex e2
      refine q_when (b := true) (et_is (by walk_at "edt") (by rfl)) (fun _ H4 e4 => ?_) (fun c => by cases c)
      refine for_out (F := Kd.fp) Kd.fp_len Kd.fp_dep hg hd hM1 hq (e2.trans e4) (out_new (e4 _ _ h2)) fun c1 c2 H5 e5 o5 => ?_
      refine s_retOut rfl e5 hM1 o5 fun v' H6 e6 a => k v' H6 (e1.trans e6) ?_
      show At M H6 v' (.tuple ((Kl.fp ls).map stD))
      rw [flatMap_eq_fp]
      exact a
theorem ok_count (T : Txt K mg A) : FnOk P w K mg base CX0 10 A.a_ask_count A.f_ask_count ["kind"] (sp1 6 fun k => .int (k.lp.length : Nat)) := by
  have G_list_places := ok_places (P := P) (w := w) (base := base) T 6
  refine T.F_ask_count.ok sc_ask_count (fun vs H Q E h => (let ⟨M, x, h, _⟩ := h; ats_len h rfl)) (fun cdv Ar outer s H vs Q E hr h => ?_)
  obtain ⟨M, x, h, hM, hg, k⟩ := h
  obtain ⟨v, rfl, hd⟩ := Ats.one_inv h
  refine ⟨_, (pss_one (ps_ret (pe_callB (lenAny (K := K)) (by rfl) T.b_len (by decide +kernel) (pa_cons (pe_call G_list_places (hr.mono (by omega)) rfl T.g_list_places T.F_list_places.kp T.b_list_places .nil pass0 (pa_cons (pv 0) pa_nil)) pa_nil)))), ?_⟩
  exact d_ret (ed_is (ed_len (ed_k1 (F := lpD) (ed_var rfl hd) hM hg) rfl) (by show PyData.int ((x.lp.map stD).length : Nat) = _; rw [List.length_map])) k
/-! ### lists for tuples -/
def relN : Nat → PyData → PyData
  | 0, d => d
  | n + 1, .tuple ds => .list (ds.map (relN n))
  | _ + 1, d => d
def gRel : Nat → PyData → Prop
  | 0, _ => False
  | n + 1, d => DepLe n d
abbrev spRel (n : Nat) : Sp := spX (dom1 fun d : PyData => d) (gRel n) (relN n)
theorem ok_rel (T : Txt K mg A) : ∀ n : Nat, FnOk P w K mg base CX0 (n + 1) A.a__law_relisted A.f__law_relisted ["_law_thing"] (spRel n)
  | 0 => T.F__law_relisted.ok sc__law_relisted (fun vs H Q E h => (let ⟨M, x, h, _⟩ := h; ats_len h rfl)) (fun cdv Ar outer s H vs Q E hr h => by
      obtain ⟨M, x, h, hM, hg, k⟩ := h
      exact hg.elim)
  | n + 1 => by
    have G__law_relisted := ok_rel T n
    refine T.F__law_relisted.ok sc__law_relisted (fun vs H Q E h => (let ⟨M, x, h, _⟩ := h; ats_len h rfl)) (fun cdv Ar outer s H vs Q E hr h => ?_)
    obtain ⟨M, x, h, hM, hg, k⟩ := h
    obtain ⟨v, rfl, hd⟩ := Ats.one_inv h
    refine ⟨_, (pss_cons (ps_if (ptTr (K := K) (pe_callB (isiOne (K := K)) (by rfl) T.b_isinstance (by decide +kernel) (pa_cons (pv 0) (pa_cons (pe_bltn (v := .ty "tuple") (u := .type "tuple") (by rfl) T.b_tuple (by decide +kernel) rfl) pa_nil)))) (pss_one (ps_ret (pe_lc (own := [("_law_part", 1)]) (g := gName 1) rfl sc__law_relisted.nd (pi_seq (K := K) (pv 0)) (blkOk_by (own := [("_law_part", 1)]) (N := N__law_relisted) (sc := defScope s__law_relisted) (by decide +kernel)) (fun _ _ _ _ _ => (pg_name (i := 1) sc__law_relisted.nd rfl (by first | exact Or.inl rfl | exact Or.inr rfl))) (fun _ _ _ _ _ => pts_nil) (fun _ _ _ _ _ => (pe_call G__law_relisted (hr.mono (by omega)) rfl T.g__law_relisted T.F__law_relisted.kp T.b__law_relisted .nil pass0 (pa_cons (pv 1) pa_nil)))))) pss_nil)
      (pss_one (ps_ret (pv 0)))), ?_⟩
    by_cases hs : isTup x = true
    · cases x with
      | tuple ds =>
        refine q_when (b := true) (et_D (ed_isiT (ed_var rfl hd))) (fun _ H1 e1 => ?_) (fun c => by cases c)
        have hd1 := hd.ex e1
        have hM1 := hM.same e1
        have hg' : ds.length ≤ 10000 ∧ ∀ y ∈ ds, gRel n y := by
          cases n with
          | zero =>
            have z : isSeq (.tuple ds) = false := hg
            cases z
          | succ n => exact hg
        have hl := hg'.1
        refine d_ret (M := M) (ed_lcN (gd := fun d : PyData => d) (as := ds) (relN n) (ed_var rfl hd1) rfl (by simp [itemsD]) hM1 (by omega) (fun _ => rfl) fun M' x y H2 e2 hy hM' ax => ?_) fun v' H2 e2 a => k v' H2 (e1.trans e2) a
        exact ed_callX (dom := dom1 fun d : PyData => d) y (eds_cons (ed_var rfl ax) eds_nil) hM' (hg'.2 y hy)
      | _ => cases hs
    · have hs' : isTup x = false := by simpa using hs
      refine q_when (b := false) (et_is (et_D (ed_isiT (ed_var rfl hd))) hs') (fun c => by cases c) (fun _ H1 e1 => ?_)
      refine d_ret (M := M) (ed_var rfl (hd.ex e1)) fun v' H2 e2 a => k v' H2 (e1.trans e2) ?_
      have e : relN (n + 1) x = x := by
        cases x <;> first | rfl | (cases hs'; done)
      rw [e]
      exact a
/-! ### what is reached -/
def rcD (p : List Str × Kd) : PyData := T2 (stD p.1) p.2.D
abbrev spLed (n : Nat) : Sp := spX (fun x : Kd × List Str => [x.1.D, stD x.2]) (fun x => gk n x.1 ∧ x.2.length + n ≤ 1000) (fun x => .list ((x.1.rc x.2).map rcD))
theorem ed_led {σ : L2.St} {H : Hp} {te tb : TE} {M : Addr → Prop} {k : Kd} {st : List Str} {E : XK} {n : Nat} (h : EvD M te σ H k.D) (h2 : EvD M tb σ H (stD st)) (hM : Trk M H) (g : gk n k) (hs : st.length + n ≤ 1000) :
    EvD M (tCall (spLed n) [] E (tCons te (tCons tb tNil))) σ H (.list ((k.rc st).map rcD)) :=
  ed_callX (dom := fun x : Kd × List Str => [x.1.D, stD x.2]) (k, st) (eds_cons h (eds_cons h2 eds_nil)) hM ⟨g, hs⟩
theorem ed_snoc {σ : L2.St} {H : Hp} {te tb : TE} {M : Addr → Prop} {st : List Str} {s : Str} (h : EvD M te σ H (stD st)) (h2 : EvD M tb σ H (.tuple [.str s])) (hM : Trk M H) (hs : st.length ≤ 1000) : EvD M (tOp (rAddA K) te tb) σ H (stD (st ++ [s])) :=
  ed_is (ed_catT (ds := st.map .str) (es := [.str s]) h h2 hM (by simp; omega)) (by unfold stD; rw [List.map_append]; rfl)
theorem ok_led (T : Txt K mg A) : ∀ n : Nat, FnOk P w K mg base CX0 (n + 1) A.a__law_led_to A.f__law_led_to ["_law_kind", "_law_steps"] (spLed n)
  | 0 => T.F__law_led_to.ok sc__law_led_to (fun vs H Q E h => (let ⟨M, x, h, _⟩ := h; ats_len h rfl)) (fun cdv Ar outer s H vs Q E hr h => by
      obtain ⟨M, x, h, hM, hg, k⟩ := h
      exact absurd hg.1.1 (Nat.not_lt_zero _))
  | n + 1 => by
    have G__law_led_to := ok_led T n
    refine T.F__law_led_to.ok sc__law_led_to (fun vs H Q E h => (let ⟨M, x, h, _⟩ := h; ats_len h rfl)) (fun cdv Ar outer s H vs Q E hr h => ?_)
    obtain ⟨M, ⟨x, st⟩, h, hM, ⟨hg, hst⟩, k⟩ := h
    obtain ⟨v, vs, rfl, hd, hw⟩ := Ats.two_inv h
    replace hg : gk (n + 1) x := hg
    replace hst : st.length + (n + 1) ≤ 1000 := hst
    replace hd : At M H v x.D := hd
    replace hw : At M H vs (stD st) := hw
    refine ⟨_, (pss_cons (ps_set (i := 2) sc__law_led_to.nd rfl (by first | exact Or.inl rfl | exact Or.inr rfl) (pe_lst (pa_cons (pe_tup (pa_cons (pv 1) (pa_cons (pv 0) pa_nil))) pa_nil)))
      (pss_cons (ps_if (PW.pt (pw_and (pt_not (ptTr (K := K) (pe_callB (isiOne (K := K)) (by rfl) T.b_isinstance (by decide +kernel) (pa_cons (pv 0) (pa_cons (pe_bltn (v := .ty "str") (u := .type "str") (by rfl) T.b_str (by decide +kernel) rfl) pa_nil))))) (pw_and1 (pt_cmpR (opEq (K := K) hr) (pe_ix (ixAny (K := K)) (pv 0) pe_int (fun _ _ => rfl)) pe_str (nomark _))))) (pss_one (ps_set (i := 2) sc__law_led_to.nd rfl (by first | exact Or.inl rfl | exact Or.inr rfl) (pe_op (opAdd (K := K)) (pv 2) (pe_call G__law_led_to (hr.mono (by omega)) rfl T.g__law_led_to T.F__law_led_to.kp T.b__law_led_to .nil pass0 (pa_cons (pe_ix (ixAny (K := K)) (pv 0) pe_int (fun _ _ => rfl)) (pa_cons (pe_op (opAdd (K := K)) (pv 1) (pe_tup (pa_cons pe_str pa_nil))) pa_nil)))))) pss_nil)
      (pss_cons (ps_if (PW.pt (pw_and (pt_not (ptTr (K := K) (pe_callB (isiOne (K := K)) (by rfl) T.b_isinstance (by decide +kernel) (pa_cons (pv 0) (pa_cons (pe_bltn (v := .ty "str") (u := .type "str") (by rfl) T.b_str (by decide +kernel) rfl) pa_nil))))) (pw_and1 (pt_cmpR (opEq (K := K) hr) (pe_ix (ixAny (K := K)) (pv 0) pe_int (fun _ _ => rfl)) pe_str (nomark _))))) (pss_one (ps_for PassesOwn.never rfl (pi_seq (K := K) (pe_ix (ixAny (K := K)) (pv 0) pe_int (fun _ _ => rfl))) (pg_tup rfl (pgs_cons (pg_name (i := 3) sc__law_led_to.nd rfl (by first | exact Or.inl rfl | exact Or.inr rfl)) (pgs_cons (pg_name (i := 4) sc__law_led_to.nd rfl (by first | exact Or.inl rfl | exact Or.inr rfl)) pgs_nil))) (pss_one (ps_set (i := 2) sc__law_led_to.nd rfl (by first | exact Or.inl rfl | exact Or.inr rfl) (pe_op (opAdd (K := K)) (pv 2) (pe_call G__law_led_to (hr.mono (by omega)) rfl T.g__law_led_to T.F__law_led_to.kp T.b__law_led_to .nil pass0 (pa_cons (pv 4) (pa_cons (pe_op (opAdd (K := K)) (pv 1) (pe_tup (pa_cons (pv 3) pa_nil))) pa_nil)))))))) pss_nil)
      (pss_one (ps_ret (pv 2)))))), ?_⟩
    refine d_asg (M := M) (d := .list [rcD (st, x)]) (ed_lst (eds_cons (ed_tup (eds_cons (ed_var rfl hw) (eds_cons (ed_var rfl hd) eds_nil)) hM (by simp)) eds_nil) hM (by simp)) fun vo H1 e1 ao => ?_
    have hd := hd.ex e1
    have hw := hw.ex e1
    have hM1 := hM.same e1
    cases x with
    | base s =>
      rw [Kd.D] at hd
      refine q_when (b := false) (et_and0 (et_no (et_D (ed_isiS (ed_var rfl hd))))) (fun c => by cases c) (fun _ H2 e2 => ?_)
      have hd := hd.ex e2
      refine q_when (b := false) (et_and0 (et_no (et_D (ed_isiS (ed_var rfl hd))))) (fun c => by cases c) (fun _ H3 e3 => ?_)
      exact d_ret (M := M) (ed_var rfl (ao.ex (e2.trans e3))) fun v' H4 e4 a => k v' H4 (((e1.trans e2).trans e3).trans e4) a
    | any i =>
      rw [Kd.D] at hd
      refine q_when (b := false) (et_is (by walk_at "edt") (by rfl)) (fun c => by cases c) (fun _ H2 e2 => ?_)
      have hd := hd.ex e2
      refine q_when (b := false) (et_is (by walk_at "edt") (by rfl)) (fun c => by cases c) (fun _ H3 e3 => ?_)
      exact d_ret (M := M) (ed_var rfl (ao.ex (e2.trans e3))) fun v' H4 e4 a => k v' H4 (((e1.trans e2).trans e3).trans e4) a
    | fn a b =>
      rw [Kd.D] at hd
      refine q_when (b := false) (et_is (by walk_at "edt") (by rfl)) (fun c => by cases c) (fun _ H2 e2 => ?_)
      have hd := hd.ex e2
      refine q_when (b := false) (et_is (by walk_at "edt") (by rfl)) (fun c => by cases c) (fun _ H3 e3 => ?_)
      exact d_ret (M := M) (ed_var rfl (ao.ex (e2.trans e3))) fun v' H4 e4 a => k v' H4 (((e1.trans e2).trans e3).trans e4) a
    | lst x =>
      have gx := gk_lst hg
      rw [Kd.D] at hd
      refine q_when (b := true) (et_is (by walk_at "edt") (by rfl)) (fun _ H2 e2 => ?_) (fun c => by cases c)
      have hd := hd.ex e2
      have hw := hw.ex e2
      have hM2 := hM1.same e2
      refine d_sasg (M := M) (d := .list ([rcD (st, .lst x)] ++ (x.rc (st ++ [("*" : Str)])).map rcD)) (ed_cat (ed_var rfl (ao.ex e2)) (ed_led (n := n) (ed_ix (ed_var rfl hd) ed_int rfl rfl) (ed_snoc (ed_var rfl hw) (ed_tup (eds_cons (ed_str (by decide)) eds_nil) hM2 (by simp)) hM2 (by omega)) hM2 gx (by simp; omega)) hM2 (by
        have := Kd.rc_len x (st ++ [("*" : Str)])
        have := gx.2.2
        simp
        omega)) fun vo2 H3 e3 ao2 => ?_
      have hd := hd.ex e3
      refine q_when (b := false) (et_is (et_and (et_not (et_D (ed_isiS (ed_var rfl hd)))) fun _ => et_DT (ed_eqS (s := "list") (t := "record") (ed_ix (ed_var rfl hd) ed_int rfl rfl) ed_str)) (show (!false && decide (Str.ofString "list" = Str.ofString "record")) = false by decide +kernel)) (fun c => by cases c) (fun _ H4 e4 => ?_)
      exact d_ret (M := M) (ed_var rfl (ao2.ex e4)) fun v' H5 e5 a => k v' H5 ((((e1.trans e2).trans e3).trans e4).trans e5) a
    | rcd ls =>
      have gx := gk_rcd hg
      rw [Kd.D] at hd
      refine q_when (b := false) (et_is (by walk_at "edt") (by rfl)) (fun c => by cases c) (fun _ H2 e2 => ?_)
      have hd := hd.ex e2
      have hw := hw.ex e2
      have hM2 := hM1.same e2
      refine q_when (b := true) (et_is (by walk_at "edt") (by rfl)) (fun _ H3 e3 => ?_) (fun c => by cases c)
      have hd := hd.ex e3
      have hw := hw.ex e3
      have hM3 := hM2.same e3
      have hsz : ls.sz ≤ 1000 := by
        have := hg.2.2
        rw [Kd.sz] at this
        omega
      obtain ⟨p, xs, rfl, np, hp, rp⟩ := hd.tup_inv
      cases rp with
      | cons h1 rp => cases rp with
        | cons h2 rp =>
        cases rp
        obtain ⟨a, ys, rfl, na, ha, ra⟩ := h2.tup_inv
        rw [Kl.Ds_eq] at ra
        refine s_forA (K := K) (Hb := H3) (a := a) (xs := ys) (ev_op (ev_var rfl) ev_c (rv_xT (.of hp) rfl)) (.inr (.of ha)) (fun i σ' H' => Ex H3 H' ∧ ∃ vo c1 c2, At M H' vo (.list ((((st, .rcd ls) : List Str × Kd) :: ((ls.toL.take i).flatMap fun p => p.2.rc (st ++ [p.1]))).map rcD)) ∧ σ' = [some (.ref p), some vs, some vo, c1, c2])
          (fun H4 e4 => ⟨e4, vo, none, none, ao.ex ((e2.trans e3).trans e4), rfl⟩) (fun i σ' H' pv => pv.1) ?_ ?_
        · rintro i x σ' H4 hx ⟨e4, vo, c1, c2, ao4, rfl⟩
          obtain ⟨di, hdi, ai⟩ := ra.get hx
          rw [List.getElem?_map] at hdi
          obtain ⟨y, hy, rfl⟩ := Option.map_eq_some_iff.mp hdi
          have hm := List.mem_of_getElem? hy
          have ai2 : At M H4 x (.tuple [.str y.1, y.2.D]) := ai.ex e4
          obtain ⟨x1, x2, a1, a2, tk⟩ := tk_two (K := K) (i := 3) (j := 4) (σ0 := [some (.ref p), some vs, some vo, c1, c2]) ai2
          refine tk _ ?_
          have hM4 := hM3.same e4
          refine d_sasg (M := M) (ed_cat (ed_var rfl ao4) (ed_led (n := n) (ed_var rfl a2) (ed_snoc (s := y.1) (ed_var rfl (hw.ex e4)) (ed_tup (eds_cons (ed_var rfl a1) eds_nil) hM4 (by simp)) hM4 (by omega)) hM4 (gx.2 y hm) (by simp; omega)) hM4 (by
            have := Kd.rc_len y.2 (st ++ [y.1])
            have := (gx.2 y hm).2.2
            have := Kl.sum_rc st ls i Kd.rc_len
            rw [List.length_map, List.length_map, List.length_cons]
            omega)) fun vo2 H5 e5 ao5 => ⟨e4.trans e5, vo2, _, _, ?_, rfl⟩
          rw [List.take_add_one, hy, Option.toList_some, List.flatMap_append]
          rw [← List.map_append] at ao5
          simpa using ao5
        · rintro σ' H4 ⟨e4, vo, c1, c2, ao4, rfl⟩
          rw [ra.len, List.length_map, List.take_length] at ao4
          refine d_ret (M := M) (ed_var rfl ao4) fun v' H5 e5 a => k v' H5 ((((e1.trans e2).trans e3).trans e4).trans e5) ?_
          show At M H5 v' (.list ((Kd.rc (.rcd ls) st).map rcD))
          rw [Kd.rc, flatMap_eq_rc]
          exact a
end
end K1
set_option Elab.async false
set_option linter.all false
set_option maxRecDepth 100000
set_option maxHeartbeats 600000
namespace K1
open PySem PySem.Spec PyProof.Rows L2 LK Evl
local macro_rules | `(tactic| walk_at "rv") => `(tactic| first
  | exact rv_addI | exact rv_I0 | exact rv_I (by decide) | exact rv_I (Or.inr (by omega)) | exact rv_I (Or.inl (by omega)) | exact rv_I (by omega) | exact rv_I ⟨by omega, by omega⟩ | exact rv_I ⟨by decide, by decide, by decide⟩ | exact rv_ltI | exact rv_leI | exact rv_gtI | exact rv_geI | exact rv_eqS rfl | exact rv_neS rfl | exact rv_leS | exact rv_ltS
  | exact rv_inC | exact rv_niC | exact rv_isBl | exact rv_isntBl | exact rv_isN | exact rv_isntN
  | exact rv_xA (by assumption) (by assumption) | exact rv_xT (by assumption) (by assumption) | exact rv_xL (by assumption) (by assumption) | exact rv_xS (by assumption) (by assumption)
  | exact rv_xT (by assumption) rfl | exact rv_xL (by assumption) rfl | exact rv_inA (by assumption) rfl rfl | exact rv_addS (by assumption))
local macro_rules | `(tactic| walk_at "rc") => `(tactic| first
  | exact rc_int | exact rc_ord | exact rc_lenS (by assumption) | exact rc_lenL (by assumption) | exact rc_lenT (by assumption) | exact rc_lenA (by assumption) | exact rc_isiS (by assumption) | exact rc_isiI (by assumption) | exact rc_isiB (by assumption) | exact rc_isiL (by assumption) | exact rc_isiT (by assumption))
local macro_rules | `(tactic| walk_at "ea") => `(tactic| first | exact ea_nil | (apply ea_cons; walk_at "ev"; walk_at "ea"))
local macro_rules | `(tactic| walk_at "ev") => `(tactic| first
  | assumption
  | exact ev_var rfl
  | exact ev_c
  | (apply ev_op; walk_at "ev"; walk_at "ev"; walk_at "rv")
  | (apply ev_un; walk_at "ev"; exact ru_neg)
  | (apply ev_isiLT; walk_at "ev"; assumption)
  | (apply ev_call; walk_at "ea"; walk_at "sv")
  | (apply ev_cb; walk_at "ea"; walk_at "rc")
  | (apply ev_if; walk_at "et"; (intro _; walk_at "ev"); (intro _; walk_at "ev"))
  | (apply ev_chain; walk_at "ev"; walk_at "ev"; walk_at "rv"; walk_at "ev"; walk_at "rv")
  | (apply ev_notV; walk_at "ev")
  | (apply ev_andV; walk_at "ev"; (intro _; walk_at "ev"))
  | (apply ev_orV; walk_at "ev"; (intro _; walk_at "ev")))
local macro_rules | `(tactic| walk_at "et") => `(tactic| first
  | assumption
  | (apply et_test; walk_at "ev")
  | (apply et_B; walk_at "ev")
  | (apply et_not; walk_at "et")
  | (apply et_and; walk_at "et"; (intro _; walk_at "et"))
  | (apply et_or; walk_at "et"; (intro _; walk_at "et"))
  | (apply et_tru; walk_at "ev"; walk_at "tru"))
local macro_rules | `(tactic| walk_at "tru") => `(tactic| first | exact tr_bl | exact tr_L (by assumption) | exact tr_T (by assumption) | exact tr_A (by assumption))
local macro_rules | `(tactic| walk_at "ed") => `(tactic| first
  | exact ed_non | exact ed_bl | exact ed_int | exact ed_str
  | exact ed_var rfl (by assumption)
  | (apply ed_ix; walk_at "ed"; walk_at "ed"; rfl; rfl)
  | (apply ed_eqS; walk_at "ed"; walk_at "ed")
  | (apply ed_neS; walk_at "ed"; walk_at "ed")
  | (apply ed_eqI; walk_at "ed"; walk_at "ed")
  | (apply ed_isiS; walk_at "ed")
  | (apply ed_isiT; walk_at "ed")
  | walk_at "edc"
  | (apply ed_not; walk_at "ed")
  | (apply ed_and; walk_at "ed"; (intro _; walk_at "ed"))
  | (apply ed_or; walk_at "ed"; (intro _; walk_at "ed"))
  | (refine ed_tup ?_ (by assumption) (by first | decide | (simp; done)); walk_at "eds")
  | (refine ed_lst ?_ (by assumption) (by first | decide | (simp; done)); walk_at "eds"))
local macro_rules | `(tactic| walk_at "eds") => `(tactic| first | exact eds_nil | (apply eds_cons; walk_at "ed"; walk_at "eds"))
local macro_rules | `(tactic| walk_at "edt") => `(tactic| first
  | (apply et_D; walk_at "ed")
  | (apply et_DT; walk_at "ed")
  | (apply et_DB; walk_at "ed")
  | (apply et_not; walk_at "edt")
  | (apply et_and; walk_at "edt"; (intro _; walk_at "edt"))
  | (apply et_or; walk_at "edt"; (intro _; walk_at "edt")))
section
variable {P : Program} {w : World} {K : PySem.W.Frag} {mg : Str → Option Value} {base : Heap} {A : Adr}
theorem wf_small {n : Nat} {k : Kd} (h : gk n k) (hn : n ≤ 8) : k.D.canLay0 = true ∧ k.D.depth ≤ 30 := by
  obtain ⟨h1, h2⟩ := Kd.lay k h.2.1
  have := h.1
  exact ⟨h1, by omega⟩
theorem any_empty {α β : Type} (p : α → Bool) (f : α → β) : ∀ xs : List α, (!((xs.filter p).map f).isEmpty) = xs.any p
  | [] => rfl
  | x :: xs => by
    rw [List.any_cons, ← any_empty p f xs, List.filter_cons]
    cases p x <;> simp
theorem ok_khas (T : Txt K mg A) : ∀ n : Nat, n ≤ 7 → FnOk P w K mg base CX0 (n + 1) A.a__law_kind_has A.f__law_kind_has ["_law_kind", "_law_word"] (spHas n)
  | 0, _ => T.F__law_kind_has.ok sc__law_kind_has (fun vs H Q E h => (let ⟨M, x, h, _⟩ := h; ats_len h rfl)) (fun cdv Ar outer s H vs Q E hr h => by
      obtain ⟨M, x, h, hM, hg, k⟩ := h
      exact absurd hg.1 (Nat.not_lt_zero _))
  | n + 1, hn7 => by
    have G__law_kind_has := ok_khas T n (by omega)
    refine T.F__law_kind_has.ok sc__law_kind_has (fun vs H Q E h => (let ⟨M, x, h, _⟩ := h; ats_len h rfl)) (fun cdv Ar outer s H vs Q E hr h => ?_)
    obtain ⟨M, ⟨x, wd⟩, h, hM, hg, k⟩ := h
    obtain ⟨v, v2, rfl, hd, hw⟩ := Ats.two_inv h
    obtain ⟨rfl, _⟩ := hw.str_inv
    refine ⟨_, (pss_cons (ps_if (ptTr (K := K) (pe_callB (isiOne (K := K)) (by rfl) T.b_isinstance (by decide +kernel) (pa_cons (pv 0) (pa_cons (pe_bltn (v := .ty "str") (u := .type "str") (by rfl) T.b_str (by decide +kernel) rfl) pa_nil)))) (pss_one (ps_ret pe_bl)) pss_nil)
      (pss_cons (ps_if (pt_cmpR (opEq (K := K) hr) (pe_ix (ixAny (K := K)) (pv 0) pe_int (fun _ _ => rfl)) (pv 1) (nomark _)) (pss_one (ps_ret pe_bl)) pss_nil)
      (pss_cons (ps_if (pt_cmpR (opEq (K := K) hr) (pe_ix (ixAny (K := K)) (pv 0) pe_int (fun _ _ => rfl)) pe_str (nomark _)) (pss_one (ps_ret pe_bl)) pss_nil)
      (pss_cons (ps_if (pt_cmpR (opEq (K := K) hr) (pe_ix (ixAny (K := K)) (pv 0) pe_int (fun _ _ => rfl)) pe_str (nomark _)) (pss_one (ps_ret (pe_cmpR (opNe (K := K) hr) (pe_lc (own := [("_law_label", 2), ("_law_inner", 3)]) (g := gTup K 2 (gCons (gName 2) (gCons (gName 3) (gNil)))) rfl sc__law_kind_has.nd (pi_seq (K := K) (pe_ix (ixAny (K := K)) (pv 0) pe_int (fun _ _ => rfl))) (blkOk_by (own := [("_law_label", 2), ("_law_inner", 3)]) (N := N__law_kind_has) (sc := defScope s__law_kind_has) (by decide +kernel)) (fun _ _ _ _ _ => (pgTup (K := K) rfl (pgs_cons (pg_name (i := 2) sc__law_kind_has.nd rfl (by first | exact Or.inl rfl | exact Or.inr rfl)) (pgs_cons (pg_name (i := 3) sc__law_kind_has.nd rfl (by first | exact Or.inl rfl | exact Or.inr rfl)) pgs_nil)))) (fun _ _ _ _ _ => (pts_one (ptTr (K := K) (pe_call G__law_kind_has (hr.mono (by omega)) rfl T.g__law_kind_has T.F__law_kind_has.kp T.b__law_kind_has .nil pass0 (pa_cons (pv 3) (pa_cons (pv 1) pa_nil)))))) (fun _ _ _ _ _ => (pv 2))) (pe_lst pa_nil) (nomark _)))) pss_nil)
      (pss_one (ps_ret (pe_cmpR (opNe (K := K) hr) (pe_lc (own := [("_law_inner", 3)]) (g := gName 3) rfl sc__law_kind_has.nd (pi_seq (K := K) (pe_slice (slAny (K := K)) (pv 0) (po_some pe_int) po_none)) (blkOk_by (own := [("_law_inner", 3)]) (N := N__law_kind_has) (sc := defScope s__law_kind_has) (by decide +kernel)) (fun _ _ _ _ _ => (pg_name (i := 3) sc__law_kind_has.nd rfl (by first | exact Or.inl rfl | exact Or.inr rfl))) (fun _ _ _ _ _ => (pts_one (ptTr (K := K) (pe_call G__law_kind_has (hr.mono (by omega)) rfl T.g__law_kind_has T.F__law_kind_has.kp T.b__law_kind_has .nil pass0 (pa_cons (pv 3) (pa_cons (pv 1) pa_nil)))))) (fun _ _ _ _ _ => (pv 3))) (pe_lst pa_nil) (nomark _)))))))), ?_⟩
    replace hg : gk (n + 1) x := hg
    replace hd : At M H v x.D := hd
    replace hw : At M H (.str wd) (.str wd) := hw
    -- any of [inner for inner in kind[1:] if ..]
    have tailD : ∀ (xs : List Kd) (H4 : Hp), (∀ z ∈ xs, gk n z) → xs.length ≤ 2 → ∀ te, Trk M H4 → EvD M te (L2.start N__law_kind_has [v, .str wd]) H4 (.tuple (xs.map Kd.D)) →
        EvD M (tOp (rNeA K) (tLc (iSeq K te) (gName 3) (tTr K (tCall (spHas n) [] E0 (tCons (tVar 3) (tCons (tVar 1) tNil)))) (tVar 3) [3]) (tLst tNil)) (L2.start N__law_kind_has [v, .str wd]) H4 (.bool (xs.any fun y => y.has wd)) := fun xs H4 hx hl te hM4 hte => by
      refine ed_is (ed_neNil (ed_lcA (gd := Kd.D) (as := xs) (fun y : Kd => y.has wd) Kd.D hte rfl rfl hM4 (by omega) fun M' x' y H5 e5 hy hM' ax => ⟨(wipe (L2.start N__law_kind_has [v, .str wd]) [3]).set 3 (some x'), rfl, tk_name, ?_, fun _ => ed_var rfl ax⟩) hM4 (shaped_lst (n := 30) (fun d hd => ?_) (by omega))) ?_
      · have hw5 : At M' H5 (.str wd) (.str wd) := .str _ hw.str_inv.2
        exact et_D (ed_has (ed_var rfl ax) (ed_var rfl hw5) hM' (hx y hy))
      · obtain ⟨y, hy, rfl⟩ := List.mem_map.mp hd
        exact wf_small (hx y (List.mem_filter.mp hy).1) (by omega)
      · rw [any_empty]
    cases x with
    | base s =>
      rw [Kd.D] at hd
      refine q_when (b := true) (et_is (et_D (ed_isiS (ed_var rfl hd))) (by rfl)) (fun _ H1 e1 => ?_) (fun c => by cases c)
      exact d_ret (M := M) (d := .bool false) ed_bl fun v' H2 e2 a => k v' H2 (e1.trans e2) a
    | any i =>
      rw [Kd.D] at hd
      refine q_when (b := false) (et_is (et_D (ed_isiS (ed_var rfl hd))) (by rfl)) (fun c => by cases c) (fun _ H1 e1 => ?_)
      have hd := hd.ex e1; have hw := hw.ex e1
      refine q_when (b := decide (("any" : Str) = wd)) (et_DT (ed_eqS (ed_ix (ed_var rfl hd) ed_int rfl rfl) (ed_var rfl hw))) (fun c H2 e2 => ?_) (fun c H2 e2 => ?_)
      · exact d_ret (M := M) (d := .bool true) ed_bl fun v' H3 e3 a => k v' H3 ((e1.trans e2).trans e3) (show At M _ v' (.bool (Kd.has wd _)) by rw [Kd.has, c]; exact a)
      · have hd := hd.ex e2
        refine q_when (b := true) (et_is (et_DT (ed_eqS (s := "any") (t := "any") (ed_ix (ed_var rfl hd) ed_int rfl rfl) ed_str)) (by decide +kernel)) (fun _ H3 e3 => ?_) (fun c => by cases c)
        exact d_ret (M := M) (d := .bool false) ed_bl fun v' H4 e4 a => k v' H4 (((e1.trans e2).trans e3).trans e4) (show At M _ v' (.bool (Kd.has wd _)) by rw [Kd.has, c]; exact a)
    | lst x =>
      rw [Kd.D] at hd
      have gx := gk_lst hg
      refine q_when (b := false) (et_is (et_D (ed_isiS (ed_var rfl hd))) (by rfl)) (fun c => by cases c) (fun _ H1 e1 => ?_)
      have hd := hd.ex e1; have hw := hw.ex e1
      refine q_when (b := decide (("list" : Str) = wd)) (et_DT (ed_eqS (ed_ix (ed_var rfl hd) ed_int rfl rfl) (ed_var rfl hw))) (fun c H2 e2 => ?_) (fun c H2 e2 => ?_)
      · exact d_ret (M := M) (d := .bool true) ed_bl fun v' H3 e3 a => k v' H3 ((e1.trans e2).trans e3) (show At M _ v' (.bool (Kd.has wd _)) by rw [Kd.has, c]; exact a)
      · have hd := hd.ex e2; have hw := hw.ex e2
        refine q_when (b := false) (et_is (et_DT (ed_eqS (s := "list") (t := "any") (ed_ix (ed_var rfl hd) ed_int rfl rfl) ed_str)) (by decide +kernel)) (fun c => by cases c) (fun _ H3 e3 => ?_)
        have hd := hd.ex e3; have hw := hw.ex e3
        refine q_when (b := false) (et_is (et_DT (ed_eqS (s := "list") (t := "record") (ed_ix (ed_var rfl hd) ed_int rfl rfl) ed_str)) (by decide +kernel)) (fun c => by cases c) (fun _ H4 e4 => ?_)
        have hd := hd.ex e4; have hw := hw.ex e4
        have hM4 := hM.same (((e1.trans e2).trans e3).trans e4)
        refine d_ret (M := M) (tailD [x] H4 (fun z hz => ?_) (by simp) _ hM4 (ed_slT (lo := some 1) (ed_var rfl hd) hM4 (eo_some ev_c) eo_none (by simp) (by simp [HT.sIx]))) fun v' H5 e5 a => k v' H5 ((((e1.trans e2).trans e3).trans e4).trans e5) ?_
        · rw [List.mem_singleton] at hz; rw [hz]; exact gx
        · show At M H5 v' (.bool (Kd.has wd _))
          rw [Kd.has, c, Bool.false_or]
          simpa using a
    | fn a b =>
      rw [Kd.D] at hd
      have gx := gk_fn hg
      refine q_when (b := false) (et_is (et_D (ed_isiS (ed_var rfl hd))) (by rfl)) (fun c => by cases c) (fun _ H1 e1 => ?_)
      have hd := hd.ex e1; have hw := hw.ex e1
      refine q_when (b := decide (("function" : Str) = wd)) (et_DT (ed_eqS (ed_ix (ed_var rfl hd) ed_int rfl rfl) (ed_var rfl hw))) (fun c H2 e2 => ?_) (fun c H2 e2 => ?_)
      · exact d_ret (M := M) (d := .bool true) ed_bl fun v' H3 e3 a => k v' H3 ((e1.trans e2).trans e3) (show At M _ v' (.bool (Kd.has wd _)) by rw [Kd.has, c]; exact a)
      · have hd := hd.ex e2; have hw := hw.ex e2
        refine q_when (b := false) (et_is (et_DT (ed_eqS (s := "function") (t := "any") (ed_ix (ed_var rfl hd) ed_int rfl rfl) ed_str)) (by decide +kernel)) (fun c => by cases c) (fun _ H3 e3 => ?_)
        have hd := hd.ex e3; have hw := hw.ex e3
        refine q_when (b := false) (et_is (et_DT (ed_eqS (s := "function") (t := "record") (ed_ix (ed_var rfl hd) ed_int rfl rfl) ed_str)) (by decide +kernel)) (fun c => by cases c) (fun _ H4 e4 => ?_)
        have hd := hd.ex e4; have hw := hw.ex e4
        have hM4 := hM.same (((e1.trans e2).trans e3).trans e4)
        refine d_ret (M := M) (tailD [a, b] H4 (fun z hz => ?_) (by simp) _ hM4 (ed_slT (lo := some 1) (ed_var rfl hd) hM4 (eo_some ev_c) eo_none (by simp) (by simp [HT.sIx]))) fun v' H5 e5 a => k v' H5 ((((e1.trans e2).trans e3).trans e4).trans e5) ?_
        · simp only [List.mem_cons, List.not_mem_nil, or_false] at hz; rcases hz with rfl | rfl; exact gx.1; exact gx.2
        · show At M H5 v' (.bool (Kd.has wd _))
          rw [Kd.has, c, Bool.false_or]
          simpa using a
    | rcd ls =>
      rw [Kd.D] at hd
      have gx := gk_rcd hg
      refine q_when (b := false) (et_is (et_D (ed_isiS (ed_var rfl hd))) (by rfl)) (fun c => by cases c) (fun _ H1 e1 => ?_)
      have hd := hd.ex e1; have hw := hw.ex e1
      refine q_when (b := decide (("record" : Str) = wd)) (et_DT (ed_eqS (ed_ix (ed_var rfl hd) ed_int rfl rfl) (ed_var rfl hw))) (fun c H2 e2 => ?_) (fun c H2 e2 => ?_)
      · exact d_ret (M := M) (d := .bool true) ed_bl fun v' H3 e3 a => k v' H3 ((e1.trans e2).trans e3) (show At M _ v' (.bool (Kd.has wd _)) by rw [Kd.has, c]; exact a)
      · have hd := hd.ex e2; have hw := hw.ex e2
        refine q_when (b := false) (et_is (et_DT (ed_eqS (s := "record") (t := "any") (ed_ix (ed_var rfl hd) ed_int rfl rfl) ed_str)) (by decide +kernel)) (fun c => by cases c) (fun _ H3 e3 => ?_)
        have hd := hd.ex e3; have hw := hw.ex e3
        refine q_when (b := true) (et_is (et_DT (ed_eqS (s := "record") (t := "record") (ed_ix (ed_var rfl hd) ed_int rfl rfl) ed_str)) (by decide +kernel)) (fun _ H4 e4 => ?_) (fun c => by cases c)
        have hd := hd.ex e4; have hw := hw.ex e4
        have hM4 := hM.same (((e1.trans e2).trans e3).trans e4)
        refine d_ret (M := M) (ed_is (ed_neNil (ed_lcTt (a := .tuple ls.Ds) (gd := coupD) (g1 := fun p => .str p.1) (g2 := fun p => p.2.D) (fun p => p.2.has wd) (fun p => .str p.1) (ed_ix (ed_var rfl hd) ed_int rfl rfl) rfl (Kl.Ds_eq ls) (fun _ => rfl) hM4 (by omega) (fun _ _ => rfl)
          fun M' x1 x2 y H5 e5 hy hM' a1 a2 => ⟨?_, ed_var rfl a1⟩) hM4 (shaped_lst (n := 0) (fun d hd => ?_) (by omega))) (by rw [any_empty])) fun v' H5 e5 a => k v' H5 ((((e1.trans e2).trans e3).trans e4).trans e5) ?_
        · have hw5 : At M' H5 (.str wd) (.str wd) := .str _ hw.str_inv.2
          exact et_D (ed_has (ed_var rfl a2) (ed_var rfl hw5) hM' (gx.2 y hy))
        · obtain ⟨y, hy, rfl⟩ := List.mem_map.mp hd
          have hwf := hg.2.1
          rw [Kd.wf] at hwf
          refine ⟨strOk_name (Kl.mem_wf hwf.1 (List.mem_filter.mp hy).1).1, ?_⟩
          simp [PyData.depth]
        · show At M H5 v' (.bool (Kd.has wd _))
          rw [Kd.has, c, Bool.false_or, Kl.has_eq]
          exact a
end
end K1
set_option Elab.async false
set_option linter.all false
set_option maxRecDepth 100000
set_option maxHeartbeats 1000000
namespace K1
open PySem PySem.Spec PyProof.Rows L2 LK Evl
local macro_rules | `(tactic| walk_at "rv") => `(tactic| first
  | exact rv_addI | exact rv_I0 | exact rv_I (by decide) | exact rv_I (Or.inr (by omega)) | exact rv_I (Or.inl (by omega)) | exact rv_I (by omega) | exact rv_I ⟨by omega, by omega⟩ | exact rv_I ⟨by decide, by decide, by decide⟩ | exact rv_ltI | exact rv_leI | exact rv_gtI | exact rv_geI | exact rv_eqS rfl | exact rv_neS rfl | exact rv_leS | exact rv_ltS
  | exact rv_inC | exact rv_niC | exact rv_isBl | exact rv_isntBl | exact rv_isN | exact rv_isntN
  | exact rv_xA (by assumption) (by assumption) | exact rv_xT (by assumption) (by assumption) | exact rv_xL (by assumption) (by assumption) | exact rv_xS (by assumption) (by assumption)
  | exact rv_xT (by assumption) rfl | exact rv_xL (by assumption) rfl | exact rv_inA (by assumption) rfl rfl | exact rv_addS (by assumption))
local macro_rules | `(tactic| walk_at "rc") => `(tactic| first
  | exact rc_int | exact rc_ord | exact rc_lenS (by assumption) | exact rc_lenL (by assumption) | exact rc_lenT (by assumption) | exact rc_lenA (by assumption) | exact rc_isiS (by assumption) | exact rc_isiI (by assumption) | exact rc_isiB (by assumption) | exact rc_isiL (by assumption) | exact rc_isiT (by assumption))
local macro_rules | `(tactic| walk_at "ea") => `(tactic| first | exact ea_nil | (apply ea_cons; walk_at "ev"; walk_at "ea"))
local macro_rules | `(tactic| walk_at "ev") => `(tactic| first
  | assumption
  | exact ev_var rfl
  | exact ev_c
  | (apply ev_op; walk_at "ev"; walk_at "ev"; walk_at "rv")
  | (apply ev_un; walk_at "ev"; exact ru_neg)
  | (apply ev_isiLT; walk_at "ev"; assumption)
  | (apply ev_call; walk_at "ea"; walk_at "sv")
  | (apply ev_cb; walk_at "ea"; walk_at "rc")
  | (apply ev_if; walk_at "et"; (intro _; walk_at "ev"); (intro _; walk_at "ev"))
  | (apply ev_chain; walk_at "ev"; walk_at "ev"; walk_at "rv"; walk_at "ev"; walk_at "rv")
  | (apply ev_notV; walk_at "ev")
  | (apply ev_andV; walk_at "ev"; (intro _; walk_at "ev"))
  | (apply ev_orV; walk_at "ev"; (intro _; walk_at "ev")))
local macro_rules | `(tactic| walk_at "et") => `(tactic| first
  | assumption
  | (apply et_test; walk_at "ev")
  | (apply et_B; walk_at "ev")
  | (apply et_not; walk_at "et")
  | (apply et_and; walk_at "et"; (intro _; walk_at "et"))
  | (apply et_or; walk_at "et"; (intro _; walk_at "et"))
  | (apply et_tru; walk_at "ev"; walk_at "tru"))
local macro_rules | `(tactic| walk_at "tru") => `(tactic| first | exact tr_bl | exact tr_L (by assumption) | exact tr_T (by assumption) | exact tr_A (by assumption))
def szb : Nat → Nat
  | 0 => 1
  | n + 1 => 3 * szb n + 1
theorem szb_pos : ∀ n, 1 ≤ szb n
  | 0 => Nat.le_refl _
  | n + 1 => by
    rw [szb]
    omega
/-- a kind that is drawn with so much left -/
def drk (n : Nat) (k : Kd) : Prop := k.dep ≤ n ∧ k.wf ∧ k.sz ≤ szb n
def spAny (m : Nat) : Sp := fun vs H Q _ => ∃ (M : Addr → Prop) (p : Addr) (L : Pool) (n : Nat), vs = [.ref p, .int (n : Int)] ∧ n < m ∧ PlAt H p L ∧ Trk M H ∧ M p ∧
  ∀ k v' H' L', drk n k → KeepP p H H' → PlAt H' p L' → At M H' v' k.D → Q v' H'
abbrev labs : List Str := ["a", "b2", "list", "text", "zzzzzzzz"]
theorem labs_ok : ∀ l ∈ labs, nameL l.cps.toList = true ∧ l ≠ "q" := by decide +kernel
theorem labs_lt : (labs.map fun l => l.cps.toList).Pairwise (· < ·) := by decide +kernel
theorem cut_labs (lo hi : Option Int) : cutV (labs.map V.str) lo hi = ((labs.drop (HT.sIx 5 0 lo)).take (HT.sIx 5 5 hi - HT.sIx 5 0 lo)).map V.str := by
  have hL : (labs.map V.str).length = 5 := rfl
  unfold cutV
  rw [hL, List.map_take, List.map_drop]
/-- couples that were made, as a record's own -/
theorem kl_of {n : Nat} : ∀ {ls : List Str} {ds : List PyData}, All2 (fun l d => ∃ k, drk n k ∧ d = T2 (.str l) k.D) ls ds → (∀ l ∈ ls, nameL l.cps.toList = true ∧ l ≠ "q") →
    ∃ kl : Kl, kl.toL.map (·.1) = ls ∧ kl.Ds = ds ∧ kl.wf ∧ kl.dep ≤ n ∧ kl.sz ≤ ls.length * szb n
  | _, _, .nil, _ => ⟨.nil, rfl, rfl, by rw [Kl.wf]; trivial, Nat.zero_le _, Nat.zero_le _⟩
  | l :: ls, _, .cons ⟨k, ⟨d1, d2, d3⟩, e⟩ r, h => by
    obtain ⟨kl, h1, h2, h3, h4, h5⟩ := kl_of r fun x hx => h x (by simp [hx])
    refine ⟨.cons l k kl, by rw [Kl.toL, List.map_cons, h1], by rw [Kl.Ds, h2, e], ?_, ?_, ?_⟩
    · rw [Kl.wf]
      exact ⟨(h l (by simp)).1, (h l (by simp)).2, d2, h3⟩
    · rw [Kl.dep]
      omega
    · rw [Kl.sz, List.length_cons, Nat.succ_mul]
      omega
section
variable {P : Program} {w : World} {K : PySem.W.Frag} {mg : Str → Option Value} {base : Heap} {A : Adr}
theorem ok_any (T : Txt K mg A) : ∀ m : Nat, FnOk P w K mg base CX0 (m + 2) A.a__law_any_kind A.f__law_any_kind ["_law_pool_here", "_law_left"] (spAny m)
  | 0 => T.F__law_any_kind.ok sc__law_any_kind (fun vs H Q E h => (let ⟨M, p, L, n, e, _⟩ := h; by rw [e]; rfl)) (fun cdv Ar outer s H vs Q E hr h => by
      obtain ⟨M, p, L, n, _, hn, _⟩ := h
      exact absurd hn (Nat.not_lt_zero _))
  | m + 1 => by
    have G__law_draw := ok_draw (P := P) (w := w) (base := base) T
    have G__law_any_kind := ok_any T m
    refine T.F__law_any_kind.ok sc__law_any_kind (fun vs H Q E h => (let ⟨M, p, L, n, e, _⟩ := h; by rw [e]; rfl)) (fun cdv Ar outer s H vs Q E hr h => ?_)
    obtain ⟨M, p, L, n, rfl, hn, hp, hM, hm, k⟩ := h
    refine ⟨_, (pss_cons (ps_set (i := 2) sc__law_any_kind.nd rfl (by first | exact Or.inl rfl | exact Or.inr rfl) (pe_call G__law_draw (hr.mono (by omega)) rfl T.g__law_draw T.F__law_draw.kp T.b__law_draw .nil pass0 (pa_cons (pv 0) (pa_cons pe_int pa_nil))))
      (pss_cons (ps_if (PW.pt (pw_or (pt_cmpR (opEq (K := K) hr) (pv 1) pe_int (nomark _)) (pw_or1 (pt_cmpR opLt (pv 2) pe_int (nomark _))))) (pss_one (ps_ret (pe_ix (ixAny (K := K)) (pe_lst (pa_cons pe_str (pa_cons pe_str (pa_cons pe_str pa_nil)))) (pe_op op_mod (pv 2) pe_int) (fun _ _ => rfl)))) pss_nil)
      (pss_cons (ps_if (pt_cmpR (opEq (K := K) hr) (pv 2) pe_int (nomark _)) (pss_one (ps_ret (pe_tup (pa_cons pe_str (pa_cons (pe_call G__law_draw (hr.mono (by omega)) rfl T.g__law_draw T.F__law_draw.kp T.b__law_draw .nil pass0 (pa_cons (pv 0) (pa_cons pe_int pa_nil))) pa_nil))))) pss_nil)
      (pss_cons (ps_if (PW.pt (pw_or (pt_cmpR (opEq (K := K) hr) (pv 2) pe_int (nomark _)) (pw_or1 (pt_cmpR (opEq (K := K) hr) (pv 2) pe_int (nomark _))))) (pss_one (ps_ret (pe_tup (pa_cons pe_str (pa_cons (pe_call G__law_any_kind (hr.mono (by omega)) rfl T.g__law_any_kind T.F__law_any_kind.kp T.b__law_any_kind .nil pass0 (pa_cons (pv 0) (pa_cons (pe_op op_sub (pv 1) pe_int) pa_nil))) pa_nil))))) pss_nil)
      (pss_cons (ps_if (pt_cmpR (opEq (K := K) hr) (pv 2) pe_int (nomark _)) (pss_one (ps_ret (pe_tup (pa_cons pe_str (pa_cons (pe_call G__law_any_kind (hr.mono (by omega)) rfl T.g__law_any_kind T.F__law_any_kind.kp T.b__law_any_kind .nil pass0 (pa_cons (pv 0) (pa_cons (pe_op op_sub (pv 1) pe_int) pa_nil))) (pa_cons (pe_call G__law_any_kind (hr.mono (by omega)) rfl T.g__law_any_kind T.F__law_any_kind.kp T.b__law_any_kind .nil pass0 (pa_cons (pv 0) (pa_cons (pe_op op_sub (pv 1) pe_int) pa_nil))) pa_nil)))))) pss_nil)
      (pss_cons (ps_set (i := 3) sc__law_any_kind.nd rfl (by first | exact Or.inl rfl | exact Or.inr rfl) (pe_call G__law_draw (hr.mono (by omega)) rfl T.g__law_draw T.F__law_draw.kp T.b__law_draw .nil pass0 (pa_cons (pv 0) (pa_cons pe_int pa_nil))))
      (pss_cons (ps_set (i := 4) sc__law_any_kind.nd rfl (by first | exact Or.inl rfl | exact Or.inr rfl) (pe_slice (slAny (K := K)) (pe_lst (pa_cons pe_str (pa_cons pe_str (pa_cons pe_str (pa_cons pe_str (pa_cons pe_str pa_nil)))))) (po_some (pv 3)) (po_some (pe_op (opAdd (K := K)) (pv 3) (pe_call G__law_draw (hr.mono (by omega)) rfl T.g__law_draw T.F__law_draw.kp T.b__law_draw .nil pass0 (pa_cons (pv 0) (pa_cons pe_int pa_nil)))))))
      (pss_one (ps_ret (pe_tup (pa_cons pe_str (pa_cons (pe_callTy (tupOf (K := K)) (by rfl) T.b_tuple (by decide +kernel) (pa_cons (pe_lc (own := [("_law_label", 5)]) (g := gName 5) rfl sc__law_any_kind.nd (pi_seq (K := K) (pv 4)) (blkOk_by (own := [("_law_label", 5)]) (N := N__law_any_kind) (sc := defScope s__law_any_kind) (by decide +kernel)) (fun _ _ _ _ _ => (pg_name (i := 5) sc__law_any_kind.nd rfl (by first | exact Or.inl rfl | exact Or.inr rfl))) (fun _ _ _ _ _ => pts_nil) (fun _ _ _ _ _ => (pe_tup (pa_cons (pv 5) (pa_cons (pe_call G__law_any_kind (hr.mono (by omega)) rfl T.g__law_any_kind T.F__law_any_kind.kp T.b__law_any_kind .nil pass0 (pa_cons (pv 0) (pa_cons (pe_op op_sub (pv 1) pe_int) pa_nil))) pa_nil))))) pa_nil)) pa_nil)))))))))))), ?_⟩
    have hG : wo H p p = none := wo_none
    refine k_asg (G := wo H p) (ek_draw rfl ev_c (by decide) (by decide)) wo_ex hp fun v H1 L1 k1 hp1 ⟨wy, hw, w0, w1⟩ => ?_
    subst hw
    have hM1 := kp_trk hM k1 hp1
    have e1 := ex_keep hG wo_ex k1
    refine q_when (b := decide (V.int (n : Int) = .int 0) || decide (wy < 3)) (by walk_at "et") (fun c H2 e2 => ?_) (fun c H2 e2 => ?_)
    · obtain ⟨b, hb, hat⟩ : ∃ b : Str, isBaseS b = true ∧ atI ([.str "int", .str "text", .str "truth"] : List V) (wy % 3) = some (.str b) := by
        have z : wy % 3 = 0 ∨ wy % 3 = 1 ∨ wy % 3 = 2 := by omega
        rcases z with z | z | z
        · exact ⟨"int", by decide, by rw [z]; rfl⟩
        · exact ⟨"text", by decide, by rw [z]; rfl⟩
        · exact ⟨"truth", by decide, by rw [z]; rfl⟩
      refine s_ret (v := .str b) (ev_opL1 (xs := [.str "int", .str "text", .str "truth"]) (y := .int (wy % 3)) (el_lst (by walk_at "ea") (by decide)) (fun H3 e3 => by walk_at "ev") fun pl H3 h3 e3 => rv_xL (.of h3) hat) fun H3 e3 => ?_
      have hbl : b.length ≤ 100000 := by
        unfold isBaseS at hb
        simp only [Bool.or_eq_true, decide_eq_true_eq] at hb
        rcases hb with rfl | rfl | rfl <;> decide
      exact k (.base b) _ H3 L1 ⟨Nat.zero_le _, hb, szb_pos n⟩ ((k1.trans (.of e2)).trans (.of e3)) (pl_ex (pl_ex hp1 e2) e3) (.str b hbl)
    · obtain ⟨n', rfl⟩ : ∃ n', n = n' + 1 := by
        cases n with
        | zero => simp at c
        | succ n' => exact ⟨n', rfl⟩
      have hn' : n' < m := by omega
      have e2' := e1.trans e2
      have k02 := k1.trans (.of e2)
      have hp2 := pl_ex hp1 e2
      have hM2 := hM1.same e2
      have fin : ∀ {te : TE} {σ : L2.St} {D : Ends} {H3 : Hp} {L3 : Pool}, D.rt = Q → EvKA M p te σ (wo H p) (fun d => ∃ k, drk (n' + 1) k ∧ d = k.D) → KeepP p H H3 → PlAt H3 p L3 → Trk M H3 → tRet te D σ H3 := fun {te σ D H3 L3} hD h k3 hp3 t3 =>
        a_ret h (ex_keep hG wo_ex k3) hp3 t3 fun v H4 L4 k4 hp4 ⟨d, ⟨kd, hk, hd⟩, a⟩ => by
          rw [hD]
          subst hd
          exact k kd v H4 L4 hk (k3.trans k4) hp4 a
      have recK : ∀ {M' : Addr → Prop} {G' : Hp} {σ : L2.St}, G' p = none → M' p → σ[0]? = some (some (.ref p)) → σ[1]? = some (some (.int ((n' + 1 : Nat) : Int))) →
          EvKA M' p (tCall (spAny m) [] E0 (tCons (tVar 0) (tCons (tOp (rI0 fun i j => V.int (i - j)) (tVar 1) (tC (V.int 1))) tNil))) σ G' (fun d => ∃ k, drk n' k ∧ d = k.D) := fun {M' G' σ} hG' hm' h0 h1 H3 L3 e3 hp3 t3 Q3 q3 =>
        ⟨_, h0, (show Ev _ σ H3 (.int (n' : Int)) from ev_is (ev_op (ev_var h1) ev_c rv_I0) (by congr 1; omega)) H3 (Ex.refl _) _ fun H4 e4 => ⟨M', p, L3, n', rfl, hn', pl_ex hp3 e4, t3.same e4, hm', fun kd v' H5 L5 hk k5 hp5 a5 => q3 v' H5 L5 ((Keep.of e4).trans k5) hp5 ⟨_, ⟨kd, hk, rfl⟩, a5⟩⟩⟩
      refine q_when (b := decide (V.int wy = .int 3)) (by walk_at "et") (fun c H3 e3 => ?_) (fun c H3 e3 => ?_)
      · refine fin rfl (eka_imp (eka_tup (eks_cons hG hm (eka_of (d := S "any") fun _ _ _ _ _ => ed_str (by decide)) (eks_cons hG hm (eka_int (ek_draw (m := 4) rfl ev_c (by decide) (by decide))) eks_nil)) ?_) ?_) (k02.trans (.of e3)) (pl_ex hp2 e3) (hM2.same e3)
        · rintro ds ⟨d, r, rfl, _, d2, r2, rfl, _, rfl⟩
          simp
        · rintro d ⟨ds, ⟨d1, r, rfl, rfl, d2, r2, rfl, ⟨i, rfl, i0, _⟩, rfl⟩, rfl⟩
          exact ⟨.any i, ⟨Nat.zero_le _, i0, szb_pos _⟩, rfl⟩
      · have e3' := e2.trans e3
        refine q_when (b := decide (V.int wy = .int 4) || decide (V.int wy = .int 5)) (by walk_at "et") (fun c H4 e4 => ?_) (fun c H4 e4 => ?_)
        · refine fin rfl (eka_imp (eka_tup (eks_cons hG hm (eka_of (d := S "list") fun _ _ _ _ _ => ed_str (by decide)) (eks_cons hG hm (recK hG hm rfl rfl) eks_nil)) ?_) ?_) ((k02.trans (.of e3)).trans (.of e4)) (pl_ex (pl_ex hp2 e3) e4) ((hM2.same e3).same e4)
          · rintro ds ⟨d, r, rfl, _, d2, r2, rfl, _, rfl⟩
            simp
          · rintro d ⟨ds, ⟨d1, r, rfl, rfl, d2, r2, rfl, ⟨kd, ⟨h1, h2, h3⟩, rfl⟩, rfl⟩, rfl⟩
            refine ⟨.lst kd, ⟨by rw [Kd.dep]; omega, by rw [Kd.wf]; exact h2, ?_⟩, rfl⟩
            rw [Kd.sz, szb]
            omega
        · refine q_when (b := decide (V.int wy = .int 6)) (by walk_at "et") (fun c H5 e5 => ?_) (fun c H5 e5 => ?_)
          · refine fin rfl (eka_imp (eka_tup (eks_cons hG hm (eka_of (d := S "function") fun _ _ _ _ _ => ed_str (by decide)) (eks_cons hG hm (recK hG hm rfl rfl) (eks_cons hG hm (recK hG hm rfl rfl) eks_nil))) ?_) ?_) (((k02.trans (.of e3)).trans (.of e4)).trans (.of e5)) (pl_ex (pl_ex (pl_ex hp2 e3) e4) e5) (((hM2.same e3).same e4).same e5)
            · rintro ds ⟨d, r, rfl, _, d2, r2, rfl, _, d3, r3, rfl, _, rfl⟩
              simp
            · rintro d ⟨ds, ⟨d1, r, rfl, rfl, d2, r2, rfl, ⟨kd, ⟨h1, h2, h3⟩, rfl⟩, d3, r3, rfl, ⟨kd', ⟨h1', h2', h3'⟩, rfl⟩, rfl⟩, rfl⟩
              refine ⟨.fn kd kd', ⟨by rw [Kd.dep]; omega, by rw [Kd.wf]; exact ⟨h2, h2'⟩, ?_⟩, rfl⟩
              rw [Kd.sz, szb]
              omega
          · have k05 := ((k02.trans (.of e3)).trans (.of e4)).trans (.of e5)
            have hp5 := pl_ex (pl_ex (pl_ex hp2 e3) e4) e5
            have hM5 := ((hM2.same e3).same e4).same e5
            refine k_asg (G := wo H5 p) (ek_draw (m := 5) rfl ev_c (by decide) (by decide)) wo_ex hp5 fun v H6 L6 k6 hp6 ⟨fi, hf, f0, f1⟩ => ?_
            subst hf
            have hM6 := kp_trk hM5 k6 hp6
            -- labels
            refine k_asg (G := wo H6 p) (ek_sl (K := K) (xs := labs.map V.str) (lo := fi) (Ph := fun i => ∃ dn : Int, i = fi + dn ∧ 0 ≤ dn ∧ dn < 4) wo_none (el_lst (by walk_at "ea") (by decide)) (ev_var rfl)
              (ek_imp (ek_add (i := fi) (m := 4) wo_none (ev_var rfl) (ek_draw rfl ev_c (by decide) (by decide))) fun v _ ⟨dn, hv, d0, d1⟩ => ⟨fi + dn, hv, dn, rfl, d0, d1⟩)) wo_ex hp6 fun v H9 L8 k78 hp9 ⟨q, hi, hv, ⟨dn, hdn, d0, d1⟩, hqp, h9⟩ => ?_
            subst hv
            subst hdn
            have hM9 := kp_trk hM6 k78 hp9
            obtain ⟨ls', hls, hsub, hlen⟩ : ∃ ls' : List Str, cutV (labs.map V.str) (some fi) (some (fi + dn)) = ls'.map V.str ∧ ls'.Sublist labs ∧ ls'.length ≤ 3 := by
              refine ⟨(labs.drop (HT.sIx 5 0 (some fi))).take (HT.sIx 5 5 (some (fi + dn)) - HT.sIx 5 0 (some fi)), ?_, (List.take_sublist _ _).trans (List.drop_sublist _ _), ?_⟩
              · exact cut_labs _ _
              · obtain ⟨a, ha⟩ : ∃ a : Nat, fi = a := ⟨fi.toNat, by omega⟩
                obtain ⟨b, hb⟩ : ∃ b : Nat, fi + dn = b := ⟨(fi + dn).toNat, by omega⟩
                rw [hb, ha, HT.sIx_nat, HT.sIx_nat, List.length_take]
                omega
            rw [hls] at h9
            have hG9 : wo H9 p p = none := wo_none
            refine a_ret (G := wo H9 p) (P := fun d => ∃ k, drk (n' + 1) k ∧ d = k.D) (eka_imp (eka_tup (eks_cons hG9 hm (eka_of (d := S "record") fun _ _ _ _ _ => ed_str (by decide)) (eks_cons hG9 hm (eka_tupOf (eka_lc (K := K) (as := ls') (gv := V.str) (R := fun l d => ∃ k, drk n' k ∧ d = T2 (.str l) k.D) hG9 hm (fun H10 e10 Q3 q3 => ⟨_, rfl, q3⟩) (.of (by rw [wo_ne hqp]; exact h9)) (by omega) (fun _ => rfl) fun M' y hm' hy => ?_)) eks_nil)) ?_) ?_)
              wo_ex hp9 hM9 fun v' H10 L10 k10 hp10 ⟨d, ⟨kd, hk, hd⟩, a⟩ => ?_
            · have hyl : y.length ≤ 100000 := by
                have hy' := hsub.subset hy
                simp only [labs, List.mem_cons, List.not_mem_nil, or_false] at hy'
                rcases hy' with rfl | rfl | rfl | rfl | rfl <;> decide
              refine eka_imp (eka_tup (eks_cons hG9 hm' (eka_of (d := .str y) fun _ _ _ _ _ => eo_of (ev_var rfl) (.str _ hyl)) (eks_cons hG9 hm' (recK hG9 hm' rfl rfl) eks_nil)) ?_) ?_
              · rintro ds ⟨d, r, rfl, _, d2, r2, rfl, _, rfl⟩
                simp
              · rintro d ⟨ds, ⟨d1, r, rfl, rfl, d2, r2, rfl, ⟨kd, hk, rfl⟩, rfl⟩, rfl⟩
                exact ⟨kd, hk, rfl⟩
            · rintro ds ⟨d, r, rfl, _, d2, r2, rfl, _, rfl⟩
              simp
            · rintro d ⟨ds, ⟨d1, r, rfl, rfl, d2, r2, rfl, ⟨es, rfl, hall⟩, rfl⟩, rfl⟩
              obtain ⟨kl, h1, h2, h3, h4, h5⟩ := kl_of hall fun l hl => labs_ok l (hsub.subset hl)
              refine ⟨.rcd kl, ⟨by rw [Kd.dep]; omega, ?_, ?_⟩, by rw [Kd.D, h2]⟩
              · rw [Kd.wf]
                refine ⟨h3, ?_, ?_⟩
                · have z := congrArg List.length h1
                  rw [List.length_map] at z
                  omega
                · have e : (kl.toL.map fun p => p.1.cps.toList) = ls'.map fun l => l.cps.toList := by
                    rw [← h1, List.map_map]
                    rfl
                  rw [e]
                  exact List.Pairwise.sublist (hsub.map _) labs_lt
              · rw [Kd.sz, szb]
                have : ls'.length * szb n' ≤ 3 * szb n' := Nat.mul_le_mul_right _ hlen
                omega
            · subst hd
              exact k kd v' H10 L10 hk (((k05.trans k6).trans k78).trans k10) hp10 a
end
end K1
set_option Elab.async false
set_option linter.all false
set_option maxRecDepth 100000
set_option maxHeartbeats 1000000
namespace K1
open PySem PySem.Spec PyProof.Rows L2 LK Evl
local macro_rules | `(tactic| walk_at "rv") => `(tactic| first
  | exact rv_addI | exact rv_I0 | exact rv_I (by decide) | exact rv_I (Or.inr (by omega)) | exact rv_I (Or.inl (by omega)) | exact rv_I (by omega) | exact rv_I ⟨by omega, by omega⟩ | exact rv_I ⟨by decide, by decide, by decide⟩ | exact rv_ltI | exact rv_leI | exact rv_gtI | exact rv_geI | exact rv_eqS rfl | exact rv_neS rfl | exact rv_leS | exact rv_ltS
  | exact rv_inC | exact rv_niC | exact rv_isBl | exact rv_isntBl | exact rv_isN | exact rv_isntN
  | exact rv_xA (by assumption) (by assumption) | exact rv_xT (by assumption) (by assumption) | exact rv_xL (by assumption) (by assumption) | exact rv_xS (by assumption) (by assumption)
  | exact rv_xT (by assumption) rfl | exact rv_xL (by assumption) rfl | exact rv_inA (by assumption) rfl rfl | exact rv_addS (by assumption))
local macro_rules | `(tactic| walk_at "rc") => `(tactic| first
  | exact rc_int | exact rc_ord | exact rc_lenS (by assumption) | exact rc_lenL (by assumption) | exact rc_lenT (by assumption) | exact rc_lenA (by assumption) | exact rc_isiS (by assumption) | exact rc_isiI (by assumption) | exact rc_isiB (by assumption) | exact rc_isiL (by assumption) | exact rc_isiT (by assumption))
local macro_rules | `(tactic| walk_at "ea") => `(tactic| first | exact ea_nil | (apply ea_cons; walk_at "ev"; walk_at "ea"))
local macro_rules | `(tactic| walk_at "ev") => `(tactic| first
  | assumption
  | exact ev_var rfl
  | exact ev_c
  | (apply ev_op; walk_at "ev"; walk_at "ev"; walk_at "rv")
  | (apply ev_un; walk_at "ev"; exact ru_neg)
  | (apply ev_isiLT; walk_at "ev"; assumption)
  | (apply ev_call; walk_at "ea"; walk_at "sv")
  | (apply ev_cb; walk_at "ea"; walk_at "rc")
  | (apply ev_if; walk_at "et"; (intro _; walk_at "ev"); (intro _; walk_at "ev"))
  | (apply ev_chain; walk_at "ev"; walk_at "ev"; walk_at "rv"; walk_at "ev"; walk_at "rv")
  | (apply ev_notV; walk_at "ev")
  | (apply ev_andV; walk_at "ev"; (intro _; walk_at "ev"))
  | (apply ev_orV; walk_at "ev"; (intro _; walk_at "ev")))
local macro_rules | `(tactic| walk_at "et") => `(tactic| first
  | assumption
  | (apply et_test; walk_at "ev")
  | (apply et_B; walk_at "ev")
  | (apply et_not; walk_at "et")
  | (apply et_and; walk_at "et"; (intro _; walk_at "et"))
  | (apply et_or; walk_at "et"; (intro _; walk_at "et"))
  | (apply et_tru; walk_at "ev"; walk_at "tru"))
local macro_rules | `(tactic| walk_at "tru") => `(tactic| first | exact tr_bl | exact tr_L (by assumption) | exact tr_T (by assumption) | exact tr_A (by assumption))
section
variable {P : Program} {w : World} {K : PySem.W.Frag} {mg : Str → Option Value} {base : Heap} {A : Adr}
def spNP (C : Addr) : Sp := fun vs H Q _ => ∃ (a : Addr) (y : V), vs = [.ref a, y] ∧ H a = some (exo a C none) ∧ ∀ d, H d = none → d ≠ a → Q .non (upd (upd H d (exd d [("steps", y)])) a (exo a C (some d)))
theorem ok_np (T : Txt K mg A) : FnOk P w K mg base CX0 1 A.a_NoPlace___init__ A.f_NoPlace___init__ ["self", "steps"] (spNP A.c_NoPlace) := by
  refine T.F_NoPlace___init__.ok sc_NoPlace___init__ (fun vs H Q E h => ?_) (fun cdv Ar outer s H vs Q E hr h => ?_)
  · obtain ⟨a, y, rfl, _⟩ := h
    rfl
  · obtain ⟨a, y, rfl, ha, k⟩ := h
    refine ⟨_, (pss_one (ps_ost (pv 0) (pv 1))), ?_⟩
    exact ⟨_, rfl, _, rfl, a, A.c_NoPlace, rfl, T.x_NoPlace, T.n_steps, .inl ⟨ha, fun d hd hne => k d hd hne⟩⟩
abbrev NoP (C : Addr) (y : V) (E : XK) (H : Hp) : Prop := ∀ d H', Same H H' → H' d = some (.xd [("steps", y)]) → E (.ref C) (some d) H'
theorem raise_np {C : Addr} {E : XK} {H : Hp} {σ : L2.St} {y : V} (hσ : σ[1]? = some (some y)) (h : NoP C y E H) : tMkO C (spNP C) [] (tCons (tVar 1) tNil) σ H fun cls d H' => E cls d H' := by
  refine ⟨_, hσ, by simp, fun a ha => ?_⟩
  refine ⟨a, y, rfl, upd_same, fun d hd hne => ⟨rfl, d, [("steps", y)], upd_same, ?_, ?_, ?_⟩⟩
  · rw [upd_ne hne]
    exact upd_same
  · rw [upd_ne hne] at hd
    exact hd
  · rw [upd_ne hne] at hd
    refine h d _ (fun b o e => ?_) upd_same
    have n1 : b ≠ a := ne_of_none e ha
    have n2 : b ≠ d := ne_of_none e hd
    rw [upd_ne n2, del_ne n1, upd_ne n1, upd_ne n2, upd_ne n1]
    exact e
def spAt (C : Addr) : Sp := fun vs H Q E => ∃ (v ws : V) (k : Kd) (st : List Str) (M : Addr → Prop), vs = [v, ws] ∧ At M H v k.D ∧ At M H ws (stD st) ∧ Trk M H ∧ gk 6 k ∧
  (∀ kr v' H', k.go st = some kr → Same H H' → At M H' v' kr.D → Q v' H') ∧ (k.go st = none → NoP C ws E H)
theorem D_non {M : Addr → Prop} {H : Hp} {k : Kd} {v : V} (h : At M H v k.D) : v ≠ .non := fun e => by
  subst e
  cases k <;> cases h
def pick (s : Str) (o : Option Kd) (p : Str × Kd) : Option Kd := if p.1 = s then some p.2 else o
theorem look_eq (s : Str) : ∀ (ls : Kl) (o : Option Kd), ls.look s o = ls.toL.foldl (pick s) o
  | .nil, _ => rfl
  | .cons l k r, o => by
    rw [Kl.look, Kl.toL, List.foldl_cons, look_eq s r]
    rfl
theorem look_mem (s : Str) : ∀ (ls : Kl) (o : Option Kd) (b : Kd), ls.look s o = some b → o = some b ∨ ∃ p ∈ ls.toL, p.2 = b
  | .nil, _, _, h => .inl h
  | .cons l k r, o, b, h => by
    rw [Kl.look] at h
    rcases look_mem s r _ b h with h | ⟨p, hp, e⟩
    · by_cases hl : l = s
      · rw [if_pos hl] at h
        cases h
        exact .inr ⟨(l, k), by simp [Kl.toL], rfl⟩
      · rw [if_neg hl] at h
        exact .inl h
    · exact .inr ⟨p, by simp [Kl.toL, hp], e⟩
theorem gk_up {n : Nat} {k : Kd} (h : gk n k) : gk (n + 1) k := ⟨Nat.lt_succ_of_lt h.1, h.2⟩
theorem gk_child {n : Nat} {k b : Kd} {s : Str} (h : gk (n + 1) k) (e : k.child s = some b) : gk (n + 1) b := by
  cases k with
  | lst x =>
    rw [Kd.child] at e
    by_cases hs : s = "*"
    · rw [if_pos hs] at e
      cases e
      exact gk_up (gk_lst h)
    · rw [if_neg hs] at e
      cases e
  | rcd ls =>
    rcases look_mem s ls none b e with z | ⟨p, hp, rfl⟩
    · cases z
    · exact gk_up ((gk_rcd h).2 p hp)
  | _ => cases e
/-- what below holds -/
def Bel (M : Addr → Prop) (H : Hp) (o : Option Kd) (vb : V) : Prop := (o = none ∧ vb = .non) ∨ ∃ kb : Kd, o = some kb ∧ At M H vb kb.D
theorem Bel.ex {M : Addr → Prop} {H H1 : Hp} {o : Option Kd} {vb : V} (h : Bel M H o vb) (e : Ex H H1) : Bel M H1 o vb := h.imp id fun ⟨kb, h1, h2⟩ => ⟨kb, h1, h2.ex e⟩
theorem at_rest {C : Addr} {E : XK} {M : Addr → Prop} {H : Hp} {D : Ends} {o : Option Kd} {v q vh st vb : V} {c5 c6 : Option V} (hb : Bel M H o vb) (hE : o = none → NoP C q E H)
    (k : ∀ kb H1, o = some kb → Ex H H1 → At M H1 vb kb.D → D.nx [some v, some q, some vb, some st, some vb, c5, c6] H1) :
    tSeq (tIfS (tTest (tOp (fun x y H Q => y = V.non ∧ Q (V.bl (decide (x = V.non))) H) (tVar 4) (tC V.non))) (fun _ σ H => tMkO C (spNP C) [] (tCons (tVar 1) tNil) σ H fun cls d H' => E cls d H') tNext) (tAsg (tVar 4) (gName 2)) D
      [some v, some q, some vh, some st, some vb, c5, c6] H := by
  refine q_when (b := decide (vb = V.non)) (et_test (ev_op (ev_var rfl) ev_c rv_isN)) (fun c H1 e1 => ?_) (fun c H1 e1 => ?_)
  · have c' := of_decide_eq_true c
    rcases hb with ⟨h1, _⟩ | ⟨kb, _, h2⟩
    · exact raise_np rfl fun d H' s z => hE h1 d H' (e1.trans s) z
    · exact absurd c' (D_non h2)
  · have c' := of_decide_eq_false c
    rcases hb with ⟨_, h2⟩ | ⟨kb, h1, h2⟩
    · exact absurd h2 c'
    · exact s_asg (v := vb) (ev_var rfl) fun H2 e2 => k kb H2 h1 (e1.trans e2) (h2.ex (e1.trans e2))
theorem ok_at (T : Txt K mg A) : FnOk P w K mg base (L2.CX P w) 4 A.a_kind_at A.f_kind_at ["kind", "steps"] (spAt A.c_NoPlace) := by
  have G_NoPlace := ok_np (P := P) (w := w) (base := base) T
  have G_is_base := ok_isb (P := P) (w := w) (base := base) T
  refine T.F_kind_at.okX sc_kind_at (fun vs H Q E h => ?_) (fun cdv Ar outer s H vs Q E hr h => ?_)
  · obtain ⟨v, ws, k, st, M, rfl, _⟩ := h
    rfl
  · obtain ⟨v, ws, x, st, M, rfl, hd, hw, hM, hg, kS, kN⟩ := h
    refine ⟨_, (pss_cons (ps_set (i := 2) sc_kind_at.nd rfl (by first | exact Or.inl rfl | exact Or.inr rfl) (pv 0))
      (pss_cons (ps_for (passes_of rfl) rfl (pi_seq (K := K) (pv 1)) (pg_name (i := 3) sc_kind_at.nd rfl (by first | exact Or.inl rfl | exact Or.inr rfl)) (pss_cons (ps_set (i := 4) sc_kind_at.nd rfl (by first | exact Or.inl rfl | exact Or.inr rfl) pe_non)
      (pss_cons (ps_if (PW.pt (pw_and (pt_not (ptTr (K := K) (pe_call G_is_base (hr.mono (by omega)) rfl T.g_is_base T.F_is_base.kp T.b_is_base .nil pass0 (pa_cons (pv 2) pa_nil)))) (pw_and (pt_cmpR (opEq (K := K) hr) (pe_ix (ixAny (K := K)) (pv 2) pe_int (fun _ _ => rfl)) pe_str (nomark _)) (pw_and1 (pt_cmpR (opEq (K := K) hr) (pv 3) pe_str (nomark _)))))) (pss_one (ps_set (i := 4) sc_kind_at.nd rfl (by first | exact Or.inl rfl | exact Or.inr rfl) (pe_ix (ixAny (K := K)) (pv 2) pe_int (fun _ _ => rfl)))) (pss_one (ps_if (PW.pt (pw_and (pt_not (ptTr (K := K) (pe_call G_is_base (hr.mono (by omega)) rfl T.g_is_base T.F_is_base.kp T.b_is_base .nil pass0 (pa_cons (pv 2) pa_nil)))) (pw_and1 (pt_cmpR (opEq (K := K) hr) (pe_ix (ixAny (K := K)) (pv 2) pe_int (fun _ _ => rfl)) pe_str (nomark _))))) (pss_one (ps_for (passes_of rfl) rfl (pi_seq (K := K) (pe_ix (ixAny (K := K)) (pv 2) pe_int (fun _ _ => rfl))) (pg_tup rfl (pgs_cons (pg_name (i := 5) sc_kind_at.nd rfl (by first | exact Or.inl rfl | exact Or.inr rfl)) (pgs_cons (pg_name (i := 6) sc_kind_at.nd rfl (by first | exact Or.inl rfl | exact Or.inr rfl)) pgs_nil))) (pss_one (ps_if (pt_cmpR (opEq (K := K) hr) (pv 5) (pv 3) (nomark _)) (pss_one (ps_set (i := 4) sc_kind_at.nd rfl (by first | exact Or.inl rfl | exact Or.inr rfl) (pv 6))) pss_nil)))) pss_nil)))
      (pss_cons (ps_if (pt_cmpR op_isN (pv 4) pe_non (nomark _)) (pss_one (ps_raise rfl (W := fun cls d _ H => E cls d H) (takes_of rfl rfl rfl rfl) (pmk_oex T.x_NoPlace T.i_NoPlace T.t_NoPlace G_NoPlace (hr.mono (by omega)) T.b_NoPlace___init__ .nil pass0 rfl T.g_NoPlace (pa_cons (pv 1) pa_nil)))) pss_nil)
      (pss_one (ps_set (i := 2) sc_kind_at.nd rfl (by first | exact Or.inl rfl | exact Or.inr rfl) (pv 4)))))))
      (pss_one (ps_ret (pv 2))))), ?_⟩
    obtain ⟨q, ys, rfl, nq, hq, rq⟩ := hw.tup_inv
    refine q_asg (i := 2) (v := v) (ev_var rfl) fun H1 e1 => ?_
    refine q_forA (K := K) (Hb := H1) (a := q) (xs := ys) (ev_var rfl) (.inr (.of (e1 _ _ hq))) (fun i σ' H' => Ex H1 H' ∧ ∃ (vh : V) (kh : Kd) (c3 c4 c5 c6 : Option V), σ' = [some v, some (.ref q), some vh, c3, c4, c5, c6] ∧ At M H' vh kh.D ∧ gk 6 kh ∧ kh.go (st.drop i) = x.go st)
      (fun H2 e2 => ⟨e2, v, x, none, none, none, none, rfl, hd.ex (e1.trans e2), hg, rfl⟩) (fun i σ' H' pv => pv.1) ?_ ?_
    · rintro i y σ' H2 hy ⟨e2, vh, kh, c3, c4, c5, c6, rfl, ah, gh, hgo⟩
      obtain ⟨d, hdi, ad⟩ := rq.get hy
      rw [List.getElem?_map] at hdi
      obtain ⟨sn, hsn, rfl⟩ := Option.map_eq_some_iff.mp hdi
      obtain ⟨rfl, hsl⟩ := ad.str_inv
      have hdr : st.drop i = sn :: st.drop (i + 1) := by
        obtain ⟨h1, h2⟩ := List.getElem?_eq_some_iff.mp hsn
        rw [List.drop_eq_getElem_cons h1, h2]
      rw [hdr] at hgo
      have hgo' : (kh.child sn).bind (fun b => b.go (st.drop (i + 1))) = x.go st := hgo
      have e12 := e1.trans e2
      have fin : ∀ {vb : V} {c5 c6 : Option V} {H5 : Hp} {D : Ends}, Ex H2 H5 → Bel M H5 (kh.child sn) vb → (∀ σ' H', (Ex H1 H' ∧ ∃ (vh : V) (kh : Kd) (c3 c4 c5 c6 : Option V), σ' = [some v, some (.ref q), some vh, c3, c4, c5, c6] ∧ At M H' vh kh.D ∧ gk 6 kh ∧ kh.go (st.drop (i + 1)) = x.go st) → D.nx σ' H') →
          tSeq (tIfS (tTest (tOp (fun x y H Q => y = V.non ∧ Q (V.bl (decide (x = V.non))) H) (tVar 4) (tC V.non))) (fun _ σ H => tMkO A.c_NoPlace (spNP A.c_NoPlace) [] (tCons (tVar 1) tNil) σ H fun cls d H' => E cls d H') tNext) (tAsg (tVar 4) (gName 2)) D
            [some v, some (.ref q), some vh, some (.str sn), some vb, c5, c6] H5 := fun {vb c5 c6 H5 D} e5 hb hk =>
        at_rest hb (fun z d H' s f => kN (by rw [← hgo', z]; rfl) d H' ((e12.trans e5).trans s) f) fun kb H6 hc e6 a6 => hk _ _ ⟨(e2.trans e5).trans e6, vb, kb, _, _, _, _, rfl, a6, gk_child gh hc, by rw [← hgo', hc]; rfl⟩
      refine q_asg (i := 4) (v := .non) ev_c fun H3 e3 => ?_
      have ah3 := ah.ex e3
      have hM3 := hM.same (e12.trans e3)
      have hs3 : At M H3 (.str sn) (.str sn) := .str _ hsl
      cases kh with
      | base s =>
        rw [Kd.D] at ah3
        refine q_if (b := false) (et_and0 (et_no (et_is (et_D (ed_isb (ed_var rfl ah3) hM3)) (by rfl)))) (fun c => by cases c) (fun _ H4 e4 => ?_)
        have ah4 := ah3.ex e4
        have hM4 := hM3.same e4
        refine s_when (b := false) (et_and0 (et_no (et_is (et_D (ed_isb (ed_var rfl ah4) hM4)) (by rfl)))) (fun c => by cases c) (fun _ H5 e5 => ?_)
        exact fin ((e3.trans e4).trans e5) (.inl ⟨rfl, rfl⟩) fun σ' H' h => h
      | any i =>
        rw [Kd.D] at ah3
        refine q_if (b := false) (et_and1 (et_ya (et_is (et_D (ed_isb (ed_var rfl ah3) hM3)) (by rfl))) (et_and0 (et_is (et_DT (ed_eqS (s := "any") (t := "list") (ed_ix (ed_var rfl ah3) ed_int rfl rfl) ed_str)) (by decide +kernel)))) (fun c => by cases c) (fun _ H4 e4 => ?_)
        have ah4 := ah3.ex e4
        have hM4 := hM3.same e4
        refine s_when (b := false) (et_and1 (et_ya (et_is (et_D (ed_isb (ed_var rfl ah4) hM4)) (by rfl))) (et_is (et_DT (ed_eqS (s := "any") (t := "record") (ed_ix (ed_var rfl ah4) ed_int rfl rfl) ed_str)) (by decide +kernel))) (fun c => by cases c) (fun _ H5 e5 => ?_)
        exact fin ((e3.trans e4).trans e5) (.inl ⟨rfl, rfl⟩) fun σ' H' h => h
      | fn a b =>
        rw [Kd.D] at ah3
        refine q_if (b := false) (et_and1 (et_ya (et_is (et_D (ed_isb (ed_var rfl ah3) hM3)) (by rfl))) (et_and0 (et_is (et_DT (ed_eqS (s := "function") (t := "list") (ed_ix (ed_var rfl ah3) ed_int rfl rfl) ed_str)) (by decide +kernel)))) (fun c => by cases c) (fun _ H4 e4 => ?_)
        have ah4 := ah3.ex e4
        have hM4 := hM3.same e4
        refine s_when (b := false) (et_and1 (et_ya (et_is (et_D (ed_isb (ed_var rfl ah4) hM4)) (by rfl))) (et_is (et_DT (ed_eqS (s := "function") (t := "record") (ed_ix (ed_var rfl ah4) ed_int rfl rfl) ed_str)) (by decide +kernel))) (fun c => by cases c) (fun _ H5 e5 => ?_)
        exact fin ((e3.trans e4).trans e5) (.inl ⟨rfl, rfl⟩) fun σ' H' h => h
      | lst z =>
        rw [Kd.D] at ah3
        refine q_if (b := decide (sn = "*")) (et_and1 (et_ya (et_is (et_D (ed_isb (ed_var rfl ah3) hM3)) (by rfl))) (et_and1 (et_is (et_DT (ed_eqS (s := "list") (t := "list") (ed_ix (ed_var rfl ah3) ed_int rfl rfl) ed_str)) (by decide +kernel)) (et_DT (ed_eqS (t := "*") (ed_var rfl hs3) ed_str)))) (fun c H4 e4 => ?_) (fun c H4 e4 => ?_)
        · have ah4 := ah3.ex e4
          refine d_sasg (M := M) (d := z.D) (ed_ix (ed_var rfl ah4) ed_int rfl rfl) fun vb H5 e5 a => ?_
          exact fin ((e3.trans e4).trans e5) (.inr ⟨z, by rw [Kd.child, if_pos (of_decide_eq_true c)], a⟩) fun σ' H' h => h
        · have ah4 := ah3.ex e4
          have hM4 := hM3.same e4
          refine s_when (b := false) (et_and1 (et_ya (et_is (et_D (ed_isb (ed_var rfl ah4) hM4)) (by rfl))) (et_is (et_DT (ed_eqS (s := "list") (t := "record") (ed_ix (ed_var rfl ah4) ed_int rfl rfl) ed_str)) (by decide +kernel))) (fun c => by cases c) (fun _ H5 e5 => ?_)
          exact fin ((e3.trans e4).trans e5) (.inl ⟨by rw [Kd.child, if_neg (of_decide_eq_false c)], rfl⟩) fun σ' H' h => h
      | rcd ls =>
        rw [Kd.D] at ah3
        refine q_if (b := false) (et_and1 (et_ya (et_is (et_D (ed_isb (ed_var rfl ah3) hM3)) (by rfl))) (et_and0 (et_is (et_DT (ed_eqS (s := "record") (t := "list") (ed_ix (ed_var rfl ah3) ed_int rfl rfl) ed_str)) (by decide +kernel)))) (fun c => by cases c) (fun _ H4 e4 => ?_)
        have ah4 := ah3.ex e4
        have hM4 := hM3.same e4
        refine s_when (b := true) (et_and1 (et_ya (et_is (et_D (ed_isb (ed_var rfl ah4) hM4)) (by rfl))) (et_is (et_DT (ed_eqS (s := "record") (t := "record") (ed_ix (ed_var rfl ah4) ed_int rfl rfl) ed_str)) (by decide +kernel))) (fun _ H5 e5 => ?_) (fun c => by cases c)
        have ah5 := ah4.ex e5
        obtain ⟨p, xs, rfl, np, hp, rp⟩ := ah5.tup_inv
        cases rp with
        | cons h1 rp => cases rp with
          | cons h2 rp =>
          cases rp
          obtain ⟨a, zs, rfl, na, ha, ra⟩ := h2.tup_inv
          rw [Kl.Ds_eq] at ra
          refine s_forA (K := K) (Hb := H5) (a := a) (xs := zs) (ev_op (ev_var rfl) ev_c (rv_xT (.of hp) rfl)) (.inr (.of ha)) (fun j σ' H' => Ex H5 H' ∧ ∃ (vb : V) (c5 c6 : Option V), σ' = [some v, some (.ref q), some (.ref p), some (.str sn), some vb, c5, c6] ∧ Bel M H' ((ls.toL.take j).foldl (pick sn) none) vb)
            (fun H6 e6 => ⟨e6, .non, _, _, rfl, .inl ⟨rfl, rfl⟩⟩) (fun j σ' H' pv => pv.1) ?_ ?_
          · rintro j y σ' H6 hy ⟨e6, vb, c5, c6, rfl, hb⟩
            obtain ⟨dj, hdj, aj⟩ := ra.get hy
            rw [List.getElem?_map] at hdj
            obtain ⟨pj, hpj, rfl⟩ := Option.map_eq_some_iff.mp hdj
            have aj2 : At M H6 y (.tuple [.str pj.1, pj.2.D]) := aj.ex e6
            obtain ⟨x1, x2, a1, a2, tk⟩ := tk_two (K := K) (i := 5) (j := 6) (σ0 := [some v, some (.ref q), some (.ref p), some (.str sn), some vb, c5, c6]) aj2
            refine tk _ ?_
            have hs6 : At M H6 (.str sn) (.str sn) := .str _ hsl
            have hfold : (ls.toL.take (j + 1)).foldl (pick sn) none = pick sn ((ls.toL.take j).foldl (pick sn) none) pj := by
              rw [List.take_add_one, hpj, Option.toList_some, List.foldl_append]
              rfl
            refine s_when (b := decide (pj.1 = sn)) (et_DT (ed_eqS (ed_var rfl a1) (ed_var rfl hs6))) (fun c H7 e7 => ?_) (fun c H7 e7 => ?_)
            · refine d_sasg (M := M) (ed_var rfl (a2.ex e7)) fun vb' H8 e8 a8 => ⟨(e6.trans e7).trans e8, vb', _, _, rfl, ?_⟩
              rw [hfold]
              exact .inr ⟨pj.2, by unfold pick; rw [if_pos (of_decide_eq_true c)], a8⟩
            · refine ⟨e6.trans e7, vb, _, _, rfl, ?_⟩
              rw [hfold]
              unfold pick
              rw [if_neg (of_decide_eq_false c)]
              exact hb.ex e7
          · rintro σ' H6 ⟨e6, vb, c5, c6, rfl, hb⟩
            rw [ra.len, List.length_map, List.take_length] at hb
            refine fin (((e3.trans e4).trans e5).trans e6) ?_ fun σ' H' h => h
            rw [show (Kd.rcd ls).child sn = ls.toL.foldl (pick sn) none by rw [Kd.child, look_eq]]
            exact hb
    · rintro σ' H2 ⟨e2, vh, kh, c3, c4, c5, c6, rfl, ah, gh, hgo⟩
      rw [rq.len, List.length_map, List.drop_length] at hgo
      exact d_ret (M := M) (ed_var rfl ah) fun v' H3 e3 a => kS kh v' H3 hgo.symm ((e1.trans e2).trans e3) a
end
end K1
set_option Elab.async false
set_option linter.all false
set_option maxRecDepth 100000
set_option maxHeartbeats 1000000
namespace K1
open PySem PySem.Spec PyProof.Rows L2 LK Evl
local macro_rules | `(tactic| walk_at "rv") => `(tactic| first
  | exact rv_addI | exact rv_I0 | exact rv_I (by decide) | exact rv_I (Or.inr (by omega)) | exact rv_I (Or.inl (by omega)) | exact rv_I (by omega) | exact rv_I ⟨by omega, by omega⟩ | exact rv_I ⟨by decide, by decide, by decide⟩ | exact rv_ltI | exact rv_leI | exact rv_gtI | exact rv_geI | exact rv_eqS rfl | exact rv_neS rfl | exact rv_leS | exact rv_ltS
  | exact rv_inC | exact rv_niC | exact rv_isBl | exact rv_isntBl | exact rv_isN | exact rv_isntN
  | exact rv_xA (by assumption) (by assumption) | exact rv_xT (by assumption) (by assumption) | exact rv_xL (by assumption) (by assumption) | exact rv_xS (by assumption) (by assumption)
  | exact rv_xT (by assumption) rfl | exact rv_xL (by assumption) rfl | exact rv_inA (by assumption) rfl rfl | exact rv_addS (by assumption))
local macro_rules | `(tactic| walk_at "rc") => `(tactic| first
  | exact rc_int | exact rc_ord | exact rc_lenS (by assumption) | exact rc_lenL (by assumption) | exact rc_lenT (by assumption) | exact rc_lenA (by assumption) | exact rc_isiS (by assumption) | exact rc_isiI (by assumption) | exact rc_isiB (by assumption) | exact rc_isiL (by assumption) | exact rc_isiT (by assumption))
local macro_rules | `(tactic| walk_at "ea") => `(tactic| first | exact ea_nil | (apply ea_cons; walk_at "ev"; walk_at "ea"))
local macro_rules | `(tactic| walk_at "ev") => `(tactic| first
  | assumption
  | exact ev_var rfl
  | exact ev_c
  | (apply ev_op; walk_at "ev"; walk_at "ev"; walk_at "rv")
  | (apply ev_un; walk_at "ev"; exact ru_neg)
  | (apply ev_isiLT; walk_at "ev"; assumption)
  | (apply ev_call; walk_at "ea"; walk_at "sv")
  | (apply ev_cb; walk_at "ea"; walk_at "rc")
  | (apply ev_if; walk_at "et"; (intro _; walk_at "ev"); (intro _; walk_at "ev"))
  | (apply ev_chain; walk_at "ev"; walk_at "ev"; walk_at "rv"; walk_at "ev"; walk_at "rv")
  | (apply ev_notV; walk_at "ev")
  | (apply ev_andV; walk_at "ev"; (intro _; walk_at "ev"))
  | (apply ev_orV; walk_at "ev"; (intro _; walk_at "ev")))
local macro_rules | `(tactic| walk_at "et") => `(tactic| first
  | assumption
  | (apply et_test; walk_at "ev")
  | (apply et_B; walk_at "ev")
  | (apply et_not; walk_at "et")
  | (apply et_and; walk_at "et"; (intro _; walk_at "et"))
  | (apply et_or; walk_at "et"; (intro _; walk_at "et"))
  | (apply et_tru; walk_at "ev"; walk_at "tru"))
local macro_rules | `(tactic| walk_at "tru") => `(tactic| first | exact tr_bl | exact tr_L (by assumption) | exact tr_T (by assumption) | exact tr_A (by assumption))
theorem opEqU {X : Cx} {K : PySem.W.Frag} (hu : X.A.units + 64 < cLine) (hK : X.K = K := by rfl) : OpR X (compareOp .Eq) (rEqA K) := by
  subst hK
  exact OpR.or op_eq (op_eqD hu)
theorem units_of {u k : Nat} (h : u + 16 * k + 200 < cLine) : u + 64 < cLine := by omega
theorem eqv_strs : ∀ st : List Str, PyData.eqvAll (st.map .str) (st.map .str) = true
  | [] => by simp only [List.map_nil, PyData.eqvAll]
  | s :: st => by simp only [List.map_cons, PyData.eqvAll, PyData.eqv, eqv_strs st, Bool.and_true, beq_self_eq_true]
section
variable {P : Program} {w : World} {K : PySem.W.Frag} {mg : Str → Option Value} {base : Heap} {A : Adr}
def spWrong : Sp := fun vs H Q _ => ∃ (v ws : V) (k : Kd) (st : List Str) (M : Addr → Prop), vs = [v, ws] ∧ At M H v k.D ∧ At M H ws (stD st) ∧ Trk M H ∧ gk 6 k ∧ (∀ s ∈ st, PyData.strOk s = true) ∧ k.go st = none ∧ ∀ H', Same H H' → Q (.bl true) H'
theorem ok_wrong (T : Txt K mg A) : FnOk P w K mg base CX0 8 A.a__law_wrong_steps A.f__law_wrong_steps ["_law_kind", "_law_steps"] spWrong := by
  have G_kind_at := ok_at (P := P) (w := w) (base := base) T
  refine T.F__law_wrong_steps.ok sc__law_wrong_steps (fun vs H Q E h => ?_) (fun cdv Ar outer s H vs Q E hr h => ?_)
  · obtain ⟨v, ws, k, st, M, rfl, _⟩ := h
    rfl
  · obtain ⟨v, ws, x, st, M, rfl, hd, hw, hM, hg, hst, hgo, k⟩ := h
    refine ⟨_, (pss_cons (ps_try_as (i := 2) (tb := fun W => tDrop (tCallS (spAt A.c_NoPlace) (WE W) (tCons (tVar 0) (tCons (tVar 1) tNil))))
        (ts := fun a cls d => tRet (tOp (rEqA K) (tXf a cls d A.c_NoPlace "steps" (tVar 2)) (tVar 1))) (Wout := fun _ _ _ _ => False) rfl rfl sc__law_wrong_steps.nd rfl rfl ⟨rfl, by decide, .inl T.g_NoPlace⟩ takes0
        (fun W pn xe tk _ => pss_one (ps_expr (pe_callS G_kind_at (hr.mono (by decide)) rfl T.g_kind_at T.F_kind_at.kp T.b_kind_at (fun σ => passAt tk σ) (pa_cons (pv 0) (pa_cons (pv 1) pa_nil)))))
        (fun a oe cls d pn hz hf => pss_one (ps_ret (pe_cmpR (opEqU (K := K) (by have z := hr.un; show Around.units (Around.mark _ _) + 64 < cLine; rw [Around.mark_units]; exact units_of (k := 7) z)) (pe_xf T.f_NoPlace T.n_steps hz hf (pv 2)) (pv 1) (nomark _)))))
      (pss_one (ps_ret pe_bl))), ?_⟩
    refine ⟨_, rfl, _, rfl, v, ws, x, st, M, rfl, hd, hw, hM, hg, fun kr v' H1 h e a => ?_, fun h dx H1 e hx => ?_⟩
    · rw [hgo] at h
      cases h
    · refine ⟨true, T.m_NoPlace, fun _ a0 _ => ?_, fun q => Bool.noConfusion q⟩
      refine ⟨_, rfl, rfl, rfl, dx, _, _, rfl, hx, rfl, _, rfl, ?_⟩
      have hw1 := hw.same e
      refine .inr ⟨_, _, hw1.dp, hw1.dp, ?_, ?_, ?_⟩
      · exact shaped_tup (n := 0) (fun d hd => by
          obtain ⟨s, hs, rfl⟩ := List.mem_map.mp hd
          exact ⟨hst s hs, by simp [PyData.depth]⟩) (by omega)
      · exact shaped_tup (n := 0) (fun d hd => by
          obtain ⟨s, hs, rfl⟩ := List.mem_map.mp hd
          exact ⟨hst s hs, by simp [PyData.depth]⟩) (by omega)
      · rw [show PyData.eqv (stD st) (stD st) = true by unfold stD; simp only [PyData.eqv, eqv_strs]]
        exact k H1 e
end
end K1
set_option Elab.async false
set_option linter.all false
set_option maxRecDepth 100000
set_option maxHeartbeats 1000000
/-! Kinds are let by as they stand, and as lists. -/
namespace K1
open PySem LK
mutual
def R : Kd → PyData
  | .base s => .str s
  | .any i => .list [S "any", .int i]
  | .lst k => .list [S "list", R k]
  | .fn a b => .list [S "function", R a, R b]
  | .rcd ls => .list [S "record", .list (Rs ls)]
def Rs : Kl → List PyData
  | .nil => []
  | .cons l k r => .list [.str l, R k] :: Rs r
end
def firstOk (acc : List PyData) : Kl → Prop
  | .nil => True
  | .cons l _ _ => lastOk acc l = true
theorem last_tup {acc : List PyData} {p s : Str} {r : List PyData} : lastOk (acc ++ [.tuple (.str p :: r)]) s = decide (p.cps.toList < s.cps.toList) := by
  unfold lastOk
  rw [List.getLast?_concat]
theorem first_next {acc : List PyData} {l : Str} {d : PyData} {r : Kl} (h : (((l, Kd.base "") :: r.toL).map fun p => p.1.cps.toList).Pairwise (· < ·)) : firstOk (acc ++ [.tuple [.str l, d]]) r := by
  cases r with
  | nil => trivial
  | cons l' k' r' =>
    rw [Kl.toL, List.map_cons, List.pairwise_cons] at h
    show lastOk _ l' = true
    rw [last_tup]
    exact decide_eq_true (h.1 _ (by simp))
mutual
theorem chk_D : ∀ (k : Kd) (n : Nat), k.wf → k.dep < n → chk n k.D = some k.D ∧ chk n (R k) = some k.D
  | .base s, n + 1, w, h => by
    rw [Kd.wf] at w
    have z : chk (n + 1) (.str s) = some (.str s) := by
      show (if isBaseS s = true then some (PyData.str s) else none) = _
      rw [if_pos w]
    exact ⟨z, z⟩
  | .any i, n + 1, w, h => by
    rw [Kd.wf] at w
    have z : anyD (.int i) = some (.tuple [.str "any", .int i]) := by
      unfold anyD
      rw [show wholeD (.int i) = true from rfl, show geD (.int i) = true from decide_eq_true w]
      rfl
    exact ⟨z, z⟩
  | .lst k, n + 1, w, h => by
    rw [Kd.wf] at w
    rw [Kd.dep] at h
    obtain ⟨h1, h2⟩ := chk_D k n w (by omega)
    refine ⟨?_, ?_⟩
    · show (chk n k.D).map (fun y => PyData.tuple [.str "list", y]) = _
      rw [h1]
      rfl
    · show (chk n (R k)).map (fun y => PyData.tuple [.str "list", y]) = _
      rw [h2]
      rfl
  | .fn a b, n + 1, w, h => by
    rw [Kd.wf] at w
    rw [Kd.dep] at h
    obtain ⟨h1, h2⟩ := chk_D a n w.1 (by omega)
    obtain ⟨h3, h4⟩ := chk_D b n w.2 (by omega)
    refine ⟨?_, ?_⟩
    · show (chk n a.D).bind (fun x => (chk n b.D).map fun y => PyData.tuple [.str "function", x, y]) = _
      rw [h1, h3]
      rfl
    · show (chk n (R a)).bind (fun x => (chk n (R b)).map fun y => PyData.tuple [.str "function", x, y]) = _
      rw [h2, h4]
      rfl
  | .rcd ls, n + 1, w, h => by
    rw [Kd.wf] at w
    rw [Kd.dep] at h
    have hf : firstOk [] ls := by
      cases ls with
      | nil => trivial
      | cons l k r => rfl
    obtain ⟨h1, h2⟩ := cpl_D ls n [] w.1 w.2.2 hf (by omega)
    have hl : ls.Ds.length ≤ 5 := by
      rw [Kl.Ds_eq, List.length_map]
      exact w.2.1
    have hl2 : (Rs ls).length ≤ 5 := by
      have : ∀ ls : Kl, (Rs ls).length = ls.toL.length := fun ls => by
        induction ls using Kl.rec (motive_1 := fun _ => True) with
        | nil => rfl
        | cons l k r _ ih => rw [Rs, Kl.toL, List.length_cons, List.length_cons, ih]
        | _ => trivial
      rw [this]
      exact w.2.1
    refine ⟨?_, ?_⟩
    · show (cplD (chk n) (.tuple ls.Ds)).map (fun ys => PyData.tuple [.str "record", .tuple ys]) = _
      rw [show cplD (chk n) (.tuple ls.Ds) = some ls.Ds by
        unfold cplD
        rw [show isSeq (.tuple ls.Ds) = true from rfl, show itemsD (.tuple ls.Ds) = ls.Ds from rfl, decide_eq_true hl]
        exact h1]
      rfl
    · show (cplD (chk n) (.list (Rs ls))).map (fun ys => PyData.tuple [.str "record", .tuple ys]) = _
      rw [show cplD (chk n) (.list (Rs ls)) = some ls.Ds by
        unfold cplD
        rw [show isSeq (.list (Rs ls)) = true from rfl, show itemsD (.list (Rs ls)) = Rs ls from rfl, decide_eq_true hl2]
        exact h2]
      rfl
theorem cpl_D : ∀ (ls : Kl) (n : Nat) (acc : List PyData), ls.wf → (ls.toL.map fun p => p.1.cps.toList).Pairwise (· < ·) → firstOk acc ls → ls.dep < n → cplAll (chk n) acc ls.Ds = some (acc ++ ls.Ds) ∧ cplAll (chk n) acc (Rs ls) = some (acc ++ ls.Ds)
  | .nil, n, acc, w, hp, hf, h => by
    rw [Kl.Ds, Rs, List.append_nil]
    exact ⟨rfl, rfl⟩
  | .cons l k r, n, acc, w, hp, hf, h => by
    rw [Kl.wf] at w
    rw [Kl.dep] at h
    obtain ⟨h1, h2⟩ := chk_D k n w.2.2.1 (by omega)
    have hp' : (((l, Kd.base "") :: r.toL).map fun p => p.1.cps.toList).Pairwise (· < ·) := hp
    have hr : (r.toL.map fun p => p.1.cps.toList).Pairwise (· < ·) := by
      rw [Kl.toL, List.map_cons, List.pairwise_cons] at hp
      exact hp.2
    obtain ⟨h3, h4⟩ := cpl_D r n (acc ++ [.tuple [.str l, k.D]]) w.2.2.2 hr (first_next hp') (by omega)
    have hl : lastOk acc l = true := hf
    have e : acc ++ (Kl.cons l k r).Ds = (acc ++ [.tuple [.str l, k.D]]) ++ r.Ds := by
      rw [Kl.Ds, List.append_assoc]
      rfl
    have s1 : cplStep (chk n) acc (T2 (.str l) k.D) = some (acc ++ [.tuple [.str l, k.D]]) := by
      show (if (nameL l.cps.toList && lastOk acc l) = true then (chk n k.D).map (fun k' => acc ++ [PyData.tuple [.str l, k']]) else none) = _
      rw [w.1, hl, h1]
      rfl
    have s2 : cplStep (chk n) acc (.list [.str l, R k]) = some (acc ++ [.tuple [.str l, k.D]]) := by
      show (if (nameL l.cps.toList && lastOk acc l) = true then (chk n (R k)).map (fun k' => acc ++ [PyData.tuple [.str l, k']]) else none) = _
      rw [w.1, hl, h2]
      rfl
    rw [e]
    refine ⟨?_, ?_⟩
    · rw [Kl.Ds]
      show (cplStep (chk n) acc (T2 (.str l) k.D)).bind _ = _
      rw [s1]
      exact h3
    · rw [Rs]
      show (cplStep (chk n) acc (.list [.str l, R k])).bind _ = _
      rw [s2]
      exact h4
end
theorem rel_str (m : Nat) (s : Str) : relN m (.str s) = .str s := by cases m <;> rfl
theorem rel_int (m : Nat) (s : Int) : relN m (.int s) = .int s := by cases m <;> rfl
mutual
theorem rel_D : ∀ (k : Kd) (m : Nat), k.wf → 3 * k.dep + 1 ≤ m → relN m k.D = R k ∧ DepLe m k.D
  | .base s, m, _, h => ⟨rel_str m s, DepLe.flat rfl⟩
  | .any i, m + 1, _, h => by
    refine ⟨?_, by show 2 ≤ 10000; decide, fun x hx => ?_⟩
    · show PyData.list [relN m (.str "any"), relN m (.int i)] = _
      rw [rel_str, rel_int]
      rfl
    · simp only [itemsD, Kd.D, List.mem_cons, List.not_mem_nil, or_false] at hx
      rcases hx with rfl | rfl <;> exact DepLe.flat rfl
  | .lst k, m + 1, w, h => by
    rw [Kd.dep] at h
    rw [Kd.wf] at w
    obtain ⟨h1, h2⟩ := rel_D k m w (by omega)
    refine ⟨?_, by show 2 ≤ 10000; decide, fun x hx => ?_⟩
    · show PyData.list [relN m (.str "list"), relN m k.D] = _
      rw [rel_str, h1]
      rfl
    · simp only [itemsD, Kd.D, List.mem_cons, List.not_mem_nil, or_false] at hx
      rcases hx with rfl | rfl
      · exact DepLe.flat rfl
      · exact h2
  | .fn a b, m + 1, w, h => by
    rw [Kd.dep] at h
    rw [Kd.wf] at w
    obtain ⟨h1, h2⟩ := rel_D a m w.1 (by omega)
    obtain ⟨h3, h4⟩ := rel_D b m w.2 (by omega)
    refine ⟨?_, by show 3 ≤ 10000; decide, fun x hx => ?_⟩
    · show PyData.list [relN m (.str "function"), relN m a.D, relN m b.D] = _
      rw [rel_str, h1, h3]
      rfl
    · simp only [itemsD, Kd.D, List.mem_cons, List.not_mem_nil, or_false] at hx
      rcases hx with rfl | rfl | rfl
      · exact DepLe.flat rfl
      · exact h2
      · exact h4
  | .rcd ls, m + 2, w, h => by
    rw [Kd.dep] at h
    rw [Kd.wf] at w
    obtain ⟨h1, h2⟩ := rel_L ls m w.1 (by omega)
    have hl : ls.Ds.length ≤ 5 := by
      rw [Kl.Ds_eq, List.length_map]
      exact w.2.1
    refine ⟨?_, by show 2 ≤ 10000; decide, fun x hx => ?_⟩
    · show PyData.list [relN (m + 1) (.str "record"), PyData.list (ls.Ds.map (relN m))] = _
      rw [rel_str, h1]
      rfl
    · simp only [itemsD, Kd.D, List.mem_cons, List.not_mem_nil, or_false] at hx
      rcases hx with rfl | rfl
      · exact DepLe.flat rfl
      · refine ⟨?_, h2⟩
        show ls.Ds.length ≤ 10000
        omega
theorem rel_L : ∀ (ls : Kl) (m : Nat), ls.wf → 3 * ls.dep + 2 ≤ m → ls.Ds.map (relN m) = Rs ls ∧ ∀ x ∈ ls.Ds, DepLe m x
  | .nil, m, _, _ => by
    rw [Kl.Ds, Rs]
    exact ⟨rfl, by simp⟩
  | .cons l k r, m + 1, w, h => by
    rw [Kl.dep] at h
    rw [Kl.wf] at w
    obtain ⟨h1, h2⟩ := rel_D k m w.2.2.1 (by omega)
    obtain ⟨h3, h4⟩ := rel_L r (m + 1) w.2.2.2 (by omega)
    rw [Kl.Ds, Rs, List.map_cons, h3]
    refine ⟨?_, fun x hx => ?_⟩
    · show PyData.list [relN m (.str l), relN m k.D] :: _ = _
      rw [rel_str, h1]
    · rcases List.mem_cons.mp hx with rfl | hx
      · refine ⟨by show 2 ≤ 10000; decide, fun y hy => ?_⟩
        simp only [itemsD, List.mem_cons, List.not_mem_nil, or_false] at hy
        rcases hy with rfl | rfl
        · exact DepLe.flat rfl
        · exact h2
      · exact h4 x hx
end
end K1
set_option Elab.async false
set_option linter.all false
set_option maxRecDepth 100000
set_option maxHeartbeats 2000000
namespace K1
open PySem PySem.Spec PyProof.Rows L2 LK Evl
local macro_rules | `(tactic| walk_at "rv") => `(tactic| first
  | exact rv_addI | exact rv_I0 | exact rv_I (by decide) | exact rv_I (Or.inr (by omega)) | exact rv_I (Or.inl (by omega)) | exact rv_I (by omega) | exact rv_I ⟨by omega, by omega⟩ | exact rv_I ⟨by decide, by decide, by decide⟩ | exact rv_ltI | exact rv_leI | exact rv_gtI | exact rv_geI | exact rv_eqS rfl | exact rv_neS rfl | exact rv_leS | exact rv_ltS
  | exact rv_inC | exact rv_niC | exact rv_isBl | exact rv_isntBl | exact rv_isN | exact rv_isntN
  | exact rv_xA (by assumption) (by assumption) | exact rv_xT (by assumption) (by assumption) | exact rv_xL (by assumption) (by assumption) | exact rv_xS (by assumption) (by assumption)
  | exact rv_xT (by assumption) rfl | exact rv_xL (by assumption) rfl | exact rv_inA (by assumption) rfl rfl | exact rv_addS (by assumption))
local macro_rules | `(tactic| walk_at "rc") => `(tactic| first
  | exact rc_int | exact rc_ord | exact rc_lenS (by assumption) | exact rc_lenL (by assumption) | exact rc_lenT (by assumption) | exact rc_lenA (by assumption) | exact rc_isiS (by assumption) | exact rc_isiI (by assumption) | exact rc_isiB (by assumption) | exact rc_isiL (by assumption) | exact rc_isiT (by assumption))
local macro_rules | `(tactic| walk_at "ea") => `(tactic| first | exact ea_nil | (apply ea_cons; walk_at "ev"; walk_at "ea"))
local macro_rules | `(tactic| walk_at "ev") => `(tactic| first
  | assumption
  | exact ev_var rfl
  | exact ev_c
  | (apply ev_op; walk_at "ev"; walk_at "ev"; walk_at "rv")
  | (apply ev_un; walk_at "ev"; exact ru_neg)
  | (apply ev_isiLT; walk_at "ev"; assumption)
  | (apply ev_call; walk_at "ea"; walk_at "sv")
  | (apply ev_cb; walk_at "ea"; walk_at "rc")
  | (apply ev_if; walk_at "et"; (intro _; walk_at "ev"); (intro _; walk_at "ev"))
  | (apply ev_chain; walk_at "ev"; walk_at "ev"; walk_at "rv"; walk_at "ev"; walk_at "rv")
  | (apply ev_notV; walk_at "ev")
  | (apply ev_andV; walk_at "ev"; (intro _; walk_at "ev"))
  | (apply ev_orV; walk_at "ev"; (intro _; walk_at "ev")))
local macro_rules | `(tactic| walk_at "et") => `(tactic| first
  | assumption
  | (apply et_test; walk_at "ev")
  | (apply et_B; walk_at "ev")
  | (apply et_not; walk_at "et")
  | (apply et_and; walk_at "et"; (intro _; walk_at "et"))
  | (apply et_or; walk_at "et"; (intro _; walk_at "et"))
  | (apply et_tru; walk_at "ev"; walk_at "tru"))
local macro_rules | `(tactic| walk_at "tru") => `(tactic| first | exact tr_bl | exact tr_L (by assumption) | exact tr_T (by assumption) | exact tr_A (by assumption))
theorem slTA {X : Cx} {K : PySem.W.Frag} (hK : X.K = K := by rfl) : SlR X (rSlA K) := by
  subst hK
  exact sl_tupA
section
variable {P : Program} {w : World} {K : PySem.W.Frag} {mg : Str → Option Value} {base : Heap} {A : Adr}
section
variable {σ : L2.St} {G H : Hp} {p : Addr} {ta tb te : TE} {M : Addr → Prop} {d d1 d2 : PyData} {n : Nat} {E : XK} {k kr : Kd} {st : List Str} {C : Addr} {tt : TT} {L : Pool} {D : Ends} {tz : TS}
abbrev W0 : WX := fun _ _ _ _ => False
theorem ed_exact (h : EvD M ta σ H d1) (h2 : EvD M tb σ H d2) (h3 : DepLe n d2) : EvD M (tCall (spExact n) [] E (tCons ta (tCons tb tNil))) σ H (.bool (sameD d1 d2)) := fun H1 e Q q =>
  h H1 e _ fun d' v H2 hd e2 a2 => by
    cases hd
    refine h2 H2 (e.trans e2) _ fun d' w H3 hd e3 a3 => ?_
    cases hd
    exact ⟨v, w, d1, d2, rfl, (a2.ex e3).zero, a3.zero, h3, fun H4 s4 => q _ _ H4 rfl ((e2.trans e3).trans s4) (.bl _)⟩
theorem ed_check (h : EvD M te σ H d) (hM : Trk M H) (hc : chk 12 d = some d1) : EvD M (tCallS (spCheck C) (WE W0) (tCons te tNil)) σ H d1 := fun H1 e Q q =>
  h H1 e _ fun d' v H2 hd e2 a2 => by
    cases hd
    refine ⟨v, d, M, rfl, a2, hM.same (e.trans e2), fun d' v' H3 h s a => ?_, fun h => ?_⟩
    · rw [hc] at h
      cases h
      exact q _ v' H3 rfl (e2.trans s) a
    · rw [hc] at h
      cases h
theorem ed_at (h : EvD M ta σ H k.D) (h2 : EvD M tb σ H (stD st)) (hM : Trk M H) (hg : gk 6 k) (hc : k.go st = some kr) : EvD M (tCallS (spAt C) (WE W0) (tCons ta (tCons tb tNil))) σ H kr.D := fun H1 e Q q =>
  h H1 e _ fun d' v H2 hd e2 a2 => by
    cases hd
    refine h2 H2 (e.trans e2) _ fun d' w H3 hd e3 a3 => ?_
    cases hd
    refine ⟨v, w, k, st, M, rfl, a2.ex e3, a3, hM.same ((e.trans e2).trans e3), hg, fun kr' v' H4 h s a => ?_, fun h => ?_⟩
    · rw [hc] at h
      cases h
      exact q _ v' H4 rfl ((e2.trans e3).trans s) a
    · rw [hc] at h
      cases h
theorem ats_strs {xs : List V} : ∀ {st : List Str}, Ats M H xs (st.map .str) → xs = st.map V.str := fun {st} h => by
  induction st generalizing xs with
  | nil =>
    cases h
    rfl
  | cons s st ih =>
    cases h with
    | cons h r =>
    rw [h.str_inv.1, ih r]
    rfl
theorem inV_strs (s : Str) : ∀ st : List Str, inV (.str s) (st.map V.str) = decide (s ∈ st)
  | [] => by simp [inV]
  | x :: st => by
    have z := inV_strs s st
    unfold inV at z ⊢
    rw [List.map_cons, List.any_cons, z]
    have e : eqV (.str x) (.str s) = decide (s = x) := by
      show (x == s) = _
      rw [Bool.eq_iff_iff, beq_iff_eq, decide_eq_true_iff]
      exact eq_comm
    rw [e, ← Bool.decide_or]
    congr 1
    simp
theorem ed_niS {s : Str} (h : EvD M ta σ H (.str s)) (h2 : EvD M tb σ H (stD st)) : EvD M (tOp (rNiA K) ta tb) σ H (.bool (!decide (s ∈ st))) :=
  ed_op h h2 fun x y H1 e ax ay => by
    rw [ax.str_inv.1]
    obtain ⟨q, xs, rfl, _, hq, r⟩ := ay.tup_inv
    rw [ats_strs r] at hq
    refine ⟨.bl (!inV (.str s) (st.map V.str)), rv_r (rv_niT (.of hq) rfl ?_), by rw [inV_strs]; exact .bl _⟩
    rw [List.all_eq_true]
    intro z hz
    obtain ⟨c, _, rfl⟩ := List.mem_map.mp hz
    rfl
/-- if drawn: x = e; told by what x has behind it -/
theorem k_ifA {P : V → Hp → Prop} {i : Nat} {old : V} (h : EtK p tt σ G) (e : Ex G H) (hp : PlAt H p L) (hb : ∀ H2 L', KeepP p H H2 → PlAt H2 p L' → ∀ Q : VK, (∀ v H3, Ex H2 H3 → P v H3 → Q v H3) → te σ H2 Q) (ho : ∀ H2, KeepP p H H2 → P old H2) (hσ : σ.set i (some old) = σ)
    (k : ∀ v H2 L', KeepP p H H2 → PlAt H2 p L' → P v H2 → tz D (σ.set i (some v)) H2) : tSeq (tIfS tt (tAsg te (gName i)) tNext) tz D σ H := h H L e hp _ fun b H2 L' kp hp2 => by
  cases b with
  | true => exact hb H2 L' kp hp2 _ fun v H3 e3 pv => k v H3 L' (kp.trans (.of e3)) (pl_ex hp2 e3) pv
  | false =>
    have z := k old H2 L' kp hp2 (ho H2 kp)
    rw [hσ] at z
    exact z
theorem head_test {x : V} {tx : TE} (hx : Ev tx σ H x) (a : At M H x k.D) : EvT (tAnd (tNot (tTr K (tCB (rIsi K) (tCons tx (tCons (tC (.ty "str")) tNil))))) (tTest (tOp (rEqA K) (tOp (rIx K) tx (tC (.int 0))) (tC (.str "list"))))) σ H k.isLst := by
  cases hb : k.isB with
  | true =>
    have e : k.isLst = false := by
      cases k <;> first | rfl | (cases hb; done)
    rw [e]
    exact et_and0 (et_no (et_is (et_D (ed_isiS (eo_of hx a))) (by rw [isStr_D, hb])))
  | false =>
    obtain ⟨s, h1, h2, h3⟩ := head_D hb
    rw [← h3]
    exact et_and1 (et_ya (et_is (et_D (ed_isiS (eo_of hx a))) (by rw [isStr_D, hb]))) (et_DT (ed_eqS (ed_ix (eo_of hx a) ed_int h1 h2) ed_str))
end
theorem lp_told (kd : Kd) : PyData.tuple (((kd.rc []).filter fun p => p.2.isLst).map fun p => stD p.1) = lpD kd := by
  have h := Kd.rc_lp kd []
  have e : kd.lp.map (([] : List Str) ++ ·) = kd.lp := by simp
  rw [e] at h
  unfold lpD
  rw [← h, List.map_map]
  rfl
theorem fp_told (kd : Kd) (w : kd.wf) : PyData.tuple (((kd.rc []).filter flatP).map fun p => stD p.1) = fpD kd := by
  have h := Kd.rc_fp kd [] w (by simp)
  have e : kd.fp.map (([] : List Str) ++ ·) = kd.fp := by simp
  rw [e] at h
  unfold fpD
  rw [← h, List.map_map]
  rfl
theorem dep_sts {l : List (List Str)} {n : Nat} (h : l.length ≤ 10000) (h2 : ∀ st ∈ l, st.length ≤ 10000) : DepLe (n + 2) (.tuple (l.map stD)) := by
  refine ⟨?_, fun x hx => ?_⟩
  · show (l.map stD).length ≤ 10000
    rw [List.length_map]
    exact h
  · obtain ⟨st, hst, rfl⟩ := List.mem_map.mp hx
    refine ⟨?_, fun y hy => ?_⟩
    · show (st.map PyData.str).length ≤ 10000
      rw [List.length_map]
      exact h2 st hst
    · obtain ⟨s, _, rfl⟩ := List.mem_map.mp hy
      exact DepLe.flat rfl
theorem head_ne {σ : L2.St} {H : Hp} {M : Addr → Prop} {k : Kd} {x : V} {tx : TE} (hx : Ev tx σ H x) (a : At M H x k.D) : EvT (tOr (tTr K (tCB (rIsi K) (tCons tx (tCons (tC (.ty "str")) tNil)))) (tTest (tOp (rNeA K) (tOp (rIx K) tx (tC (.int 0))) (tC (.str "list"))))) σ H (!k.isLst) := by
  cases hb : k.isB with
  | true =>
    have e : k.isLst = false := by
      cases k <;> first | rfl | (cases hb; done)
    rw [e]
    exact et_or1 (et_is (et_D (ed_isiS (eo_of hx a))) (by rw [isStr_D, hb]))
  | false =>
    obtain ⟨s, h1, h2, h3⟩ := head_D hb
    rw [← h3]
    exact et_or0 (et_is (et_D (ed_isiS (eo_of hx a))) (by rw [isStr_D, hb])) (et_DT (ed_neS (ed_ix (eo_of hx a) ed_int h1 h2) ed_str))
theorem child_dep {k b : Kd} {s : Str} (h : k.child s = some b) : b.dep < k.dep := by
  cases k with
  | lst x =>
    rw [Kd.child] at h
    by_cases e : s = "*"
    · rw [if_pos e] at h
      cases h
      rw [Kd.dep]
      exact Nat.lt_succ_self _
    · rw [if_neg e] at h
      cases h
  | rcd ls =>
    rcases look_mem s ls none b h with z | ⟨p, hp, rfl⟩
    · cases z
    · rw [Kd.dep]
      exact Nat.lt_succ_of_le (Kl.mem_dep hp)
  | _ => cases h
theorem go_len : ∀ (st : List Str) (k b : Kd), k.go st = some b → st.length ≤ k.dep
  | [], _, _, _ => Nat.zero_le _
  | s :: st, k, b, h => by
    have h' : (k.child s).bind (fun c => c.go st) = some b := h
    cases hc : k.child s with
    | none =>
      rw [hc] at h'
      cases h'
    | some c =>
      rw [hc] at h'
      have z := go_len st c b h'
      have := child_dep hc
      rw [List.length_cons]
      omega
mutual
theorem Kd.rc_ok : ∀ (k : Kd) (st : List Str), k.wf → (∀ s ∈ st, PyData.strOk s = true) → ∀ p ∈ k.rc st, ∀ s ∈ p.1, PyData.strOk s = true
  | .base _, st, _, h, p, hp => by
    rw [Kd.rc, List.mem_singleton] at hp
    rw [hp]
    exact h
  | .any _, st, _, h, p, hp => by
    rw [Kd.rc, List.mem_singleton] at hp
    rw [hp]
    exact h
  | .fn _ _, st, _, h, p, hp => by
    rw [Kd.rc, List.mem_singleton] at hp
    rw [hp]
    exact h
  | .lst k, st, w, h, p, hp => by
    rw [Kd.rc] at hp
    rw [Kd.wf] at w
    rcases List.mem_cons.mp hp with rfl | hp
    · exact h
    · refine Kd.rc_ok k _ w (fun s hs => ?_) p hp
      rcases List.mem_append.mp hs with hs | hs
      · exact h s hs
      · rw [List.mem_singleton.mp hs]
        decide +kernel
  | .rcd ls, st, w, h, p, hp => by
    rw [Kd.rc] at hp
    rw [Kd.wf] at w
    rcases List.mem_cons.mp hp with rfl | hp
    · exact h
    · exact Kl.rc_ok ls st w.1 h p hp
theorem Kl.rc_ok : ∀ (k : Kl) (st : List Str), k.wf → (∀ s ∈ st, PyData.strOk s = true) → ∀ p ∈ k.rc st, ∀ s ∈ p.1, PyData.strOk s = true
  | .nil, st, _, h, p, hp => by simp [Kl.rc] at hp
  | .cons l k r, st, w, h, p, hp => by
    rw [Kl.rc] at hp
    rw [Kl.wf] at w
    rcases List.mem_append.mp hp with hp | hp
    · refine Kd.rc_ok k _ w.2.2.1 (fun s hs => ?_) p hp
      rcases List.mem_append.mp hs with hs | hs
      · exact h s hs
      · rw [List.mem_singleton.mp hs]
        exact strOk_name w.1
    · exact Kl.rc_ok r st w.2.2.2 h p hp
end
theorem ek_wrong {σ : L2.St} {G : Hp} {p : Addr} {vk vs : V} {kd : Kd} {st : List Str} (hG : G p = none) (h1 : σ[1]? = some (some (.ref p))) (h2 : σ[2]? = some (some vk)) (h6 : σ[6]? = some (some vs)) (ak : At (Mp p) G vk kd.D) (as : At (Mp p) G vs (stD st)) (hl : st.length ≤ 1000)
    (hg : gk 6 kd) (hok : ∀ s ∈ st, PyData.strOk s = true) (hq : ∀ rest, kd.go (st ++ ("q" : Str) :: rest) = none) :
    EvP p (tCall spWrong [] E0 (tCons (tVar 2) (tCons (tOp (rAddA K) (tVar 6) (tSl (rSlA K) (tTup (tCons (tC (.str "q")) (tCons (tC (.str "*")) tNil))) tNoPart (tPart (tOp (rAddA K) (tC (.int 1)) (tCall spDraw [] E0 (tCons (tVar 1) (tCons (tC (.int 2)) tNil))))))) tNil))) σ G (.bl true) := fun H1 L e hp Q q => by
  have t0 : ∀ H, Trk M0 H := fun H a z => z.elim
  refine ⟨_, h2, _, h6, ?_⟩
  refine (eu_tup (σ := σ) (H := G) (ea_cons ev_c (ea_cons ev_c ea_nil)) (by decide)) H1 e _ fun pt H2 na e2 ht => ?_
  have ne : pt ≠ p := fun z => by
    rw [z, show H1 p = _ from hp] at na
    cases na
  refine ek_add (K := K) (σ := σ) (G := G) (i := 1) (m := 2) hG ev_c (ek_draw h1 ev_c (by decide) (by decide)) H2 L (e.trans e2) (pl_ex hp e2) _ fun v H3 L3 k3 hp3 ⟨dn, hv, d0, d1⟩ => ⟨1 + dn, hv, ?_⟩
  have e3 := ex_keep hG (e.trans e2) k3
  have ht3 := k3 _ _ ne ht
  have k13 := (Keep.of e2).trans k3
  -- whichever part it is
  have fin : ∀ (y : V) (H4 : Hp) (rest : List Str), Ex H3 H4 → At M0 H4 y (.tuple ((("q" : Str) :: rest).map .str)) → (∀ s ∈ rest, PyData.strOk s = true) → rest.length ≤ 5 →
      rAddA K vs y H4 fun v H5 => spWrong ([vk] ++ [v]) H5 Q E0 := fun y H4 rest e4 ay hr hl5 => by
    have as4 := (as.ex (e3.trans e4)).zero
    refine (ed_catT (K := K) (M := M0) (σ := []) (ta := fun _ H Q => Q vs H) (tb := fun _ H Q => Q y H) (ds := st.map .str) (es := (("q" : Str) :: rest).map .str) (fun H5 e5 Q5 q5 => q5 _ _ H5 rfl (Ex.refl _) (as4.ex e5)) (fun H5 e5 Q5 q5 => q5 _ _ H5 rfl (Ex.refl _) (ay.ex e5)) (t0 H4) (by
      simp
      omega)) H4 (Ex.refl _) _ fun d' v H5 hd e5 a => ?_
    cases hd
    rw [← List.map_append] at a
    refine ⟨vk, v, kd, _, M0, rfl, (ak.ex ((e3.trans e4).trans e5)).zero, a, t0 _, hg, fun s hs => ?_, hq rest, fun H6 s6 => q _ H6 L3 (k13.trans (.of ((e4.trans e5).trans s6))) (pl_ex hp3 ((e4.trans e5).trans s6)) rfl⟩
    rcases List.mem_append.mp hs with hs | hs
    · exact hok s hs
    · rcases List.mem_cons.mp hs with rfl | hs
      · decide +kernel
      · exact hr s hs
  have hd01 : dn = 0 ∨ dn = 1 := by omega
  refine ⟨pt, _, rfl, .of ht3, fun hwh => ?_, fun hnw l hlf => ?_⟩
  · rcases hd01 with rfl | rfl
    · have z := hwh.2
      cases z
    · exact fin _ H3 ["*"] (Ex.refl _) (.tup (fun z => z) ht3 (.cons (.str _ (by decide)) (.cons (.str _ (by decide)) .nil))) (by decide +kernel) (by decide)
  · rcases hd01 with rfl | rfl
    · exact fin _ _ [] (Ex.new hlf) (.tup (fun z => z) upd_same (.cons (.str _ (by decide)) .nil)) (by simp) (by decide)
    · exact absurd ⟨rfl, rfl⟩ hnw
def spLaw (K : PySem.W.Frag) : Sp := fun vs H Q _ => ∃ (a : Addr) (ns : List Int), vs = [.ref a] ∧ SqL K H a (ns.map V.int) ∧ ns.length ≤ 63 ∧ ∀ H', Q (.bl true) H'
theorem ok_law (T : Txt K mg A) : FnOk P w K mg base CX0 60 A.a_law A.f_law ["_law_script"] (spLaw K) := by
  have G__law_pool := ok_pool (P := P) (w := w) (base := base) T
  have G__law_draw := ok_draw (P := P) (w := w) (base := base) T
  have G__law_any_kind := ok_any (P := P) (w := w) (base := base) T 5
  have G_check_kind := ok_check (P := P) (w := w) (base := base) T
  have G__law_relisted := ok_rel (P := P) (w := w) (base := base) T 21
  have G_is_base := ok_isb (P := P) (w := w) (base := base) T
  have G__law_led_to := ok_led (P := P) (w := w) (base := base) T 6
  have G_list_places := ok_places (P := P) (w := w) (base := base) T 6
  have G_ask_count := ok_count (P := P) (w := w) (base := base) T
  have G_flat_paths := ok_flat (P := P) (w := w) (base := base) T 6
  have G_kind_at := ok_at (P := P) (w := w) (base := base) T
  have G__law_wrong_steps := ok_wrong (P := P) (w := w) (base := base) T
  have G__law_kind_has := ok_khas (P := P) (w := w) (base := base) T 6 (by decide)
  have G_has_open := ok_open (P := P) (w := w) (base := base) T
  have G_has_function := ok_function (P := P) (w := w) (base := base) T
  have G_is_answer_kind := ok_answer (P := P) (w := w) (base := base) T
  have G__law_exact := ok_exact (P := P) (w := w) (base := base) T 20
  refine T.F_law.ok sc_law (fun vs H Q E h => ?_) (fun cdv Ar outer s H vs Q E hr h => ?_)
  · obtain ⟨a, ns, rfl, _⟩ := h
    rfl
  · obtain ⟨a, ns, rfl, hS, hlen, k⟩ := h
    refine ⟨_, (pss_cons (ps_set (i := 1) sc_law.nd rfl (by first | exact Or.inl rfl | exact Or.inr rfl) (pe_call G__law_pool (hr.mono (by decide)) rfl T.g__law_pool T.F__law_pool.kp T.b__law_pool .nil pass0 (pa_cons (pv 0) (pa_cons pe_int pa_nil))))
      (pss_cons (ps_set (i := 2) sc_law.nd rfl (by first | exact Or.inl rfl | exact Or.inr rfl) (pe_call G__law_any_kind (hr.mono (by decide)) rfl T.g__law_any_kind T.F__law_any_kind.kp T.b__law_any_kind .nil pass0 (pa_cons (pv 1) (pa_cons pe_int pa_nil))))
      (pss_cons (ps_if (pt_cmpR (opEq (K := K) hr) (pe_call G__law_draw (hr.mono (by decide)) rfl T.g__law_draw T.F__law_draw.kp T.b__law_draw .nil pass0 (pa_cons (pv 1) (pa_cons pe_int pa_nil))) pe_int (nomark _)) (pss_one (ps_set (i := 2) sc_law.nd rfl (by first | exact Or.inl rfl | exact Or.inr rfl) (pe_tup (pa_cons pe_str (pa_cons (pv 2) pa_nil))))) pss_nil)
      (pss_cons (ps_if (PW.pt (pw_or (pt_not (ptTr (K := K) (pe_call G__law_exact (hr.mono (by decide)) rfl T.g__law_exact T.F__law_exact.kp T.b__law_exact .nil pass0 (pa_cons (pe_callS G_check_kind (hr.mono (by decide)) rfl T.g_check_kind T.F_check_kind.kp T.b_check_kind (fun σ => passAt (W := fun _ _ _ _ => False) takes0 σ) (pa_cons (pv 2) pa_nil)) (pa_cons (pv 2) pa_nil))))) (pw_or1 (pt_not (ptTr (K := K) (pe_call G__law_exact (hr.mono (by decide)) rfl T.g__law_exact T.F__law_exact.kp T.b__law_exact .nil pass0 (pa_cons (pe_callS G_check_kind (hr.mono (by decide)) rfl T.g_check_kind T.F_check_kind.kp T.b_check_kind (fun σ => passAt (W := fun _ _ _ _ => False) takes0 σ) (pa_cons (pe_call G__law_relisted (hr.mono (by decide)) rfl T.g__law_relisted T.F__law_relisted.kp T.b__law_relisted .nil pass0 (pa_cons (pv 2) pa_nil)) pa_nil)) (pa_cons (pv 2) pa_nil)))))))) (pss_one (ps_ret pe_bl)) pss_nil)
      (pss_cons (ps_if (pt_not (ptTr (K := K) (pe_call G__law_exact (hr.mono (by decide)) rfl T.g__law_exact T.F__law_exact.kp T.b__law_exact .nil pass0 (pa_cons (pe_call G_is_base (hr.mono (by decide)) rfl T.g_is_base T.F_is_base.kp T.b_is_base .nil pass0 (pa_cons (pv 2) pa_nil)) (pa_cons (pe_callB (isiOne (K := K)) (by rfl) T.b_isinstance (by decide +kernel) (pa_cons (pv 2) (pa_cons (pe_bltn (v := .ty "str") (u := .type "str") (by rfl) T.b_str (by decide +kernel) rfl) pa_nil))) pa_nil))))) (pss_one (ps_ret pe_bl)) pss_nil)
      (pss_cons (ps_set (i := 3) sc_law.nd rfl (by first | exact Or.inl rfl | exact Or.inr rfl) (pe_call G__law_led_to (hr.mono (by decide)) rfl T.g__law_led_to T.F__law_led_to.kp T.b__law_led_to .nil pass0 (pa_cons (pv 2) (pa_cons (pe_tup pa_nil) pa_nil))))
      (pss_cons (ps_set (i := 4) sc_law.nd rfl (by first | exact Or.inl rfl | exact Or.inr rfl) (pe_callTy (tupOf (K := K)) (by rfl) T.b_tuple (by decide +kernel) (pa_cons (pe_lc (own := [("_law_steps", 6), ("_law_inner", 7)]) (g := gTup K 2 (gCons (gName 6) (gCons (gName 7) (gNil)))) rfl sc_law.nd (pi_seq (K := K) (pv 3)) (blkOk_by (own := [("_law_steps", 6), ("_law_inner", 7)]) (N := N_law) (sc := defScope s_law) (by decide +kernel)) (fun _ _ _ _ _ => (pgTup (K := K) rfl (pgs_cons (pg_name (i := 6) sc_law.nd rfl (by first | exact Or.inl rfl | exact Or.inr rfl)) (pgs_cons (pg_name (i := 7) sc_law.nd rfl (by first | exact Or.inl rfl | exact Or.inr rfl)) pgs_nil)))) (fun _ _ _ _ _ => (pts_one (PW.pt (pw_and (pt_not (ptTr (K := K) (pe_callB (isiOne (K := K)) (by rfl) T.b_isinstance (by decide +kernel) (pa_cons (pv 7) (pa_cons (pe_bltn (v := .ty "str") (u := .type "str") (by rfl) T.b_str (by decide +kernel) rfl) pa_nil))))) (pw_and1 (pt_cmpR (opEq (K := K) hr) (pe_ix (ixAny (K := K)) (pv 7) pe_int (fun _ _ => rfl)) pe_str (nomark _))))))) (fun _ _ _ _ _ => (pv 6))) pa_nil)))
      (pss_cons (ps_if (PW.pt (pw_or (pt_not (ptTr (K := K) (pe_call G__law_exact (hr.mono (by decide)) rfl T.g__law_exact T.F__law_exact.kp T.b__law_exact .nil pass0 (pa_cons (pe_call G_list_places (hr.mono (by decide)) rfl T.g_list_places T.F_list_places.kp T.b_list_places .nil pass0 (pa_cons (pv 2) pa_nil)) (pa_cons (pv 4) pa_nil))))) (pw_or1 (pt_not (ptTr (K := K) (pe_call G__law_exact (hr.mono (by decide)) rfl T.g__law_exact T.F__law_exact.kp T.b__law_exact .nil pass0 (pa_cons (pe_call G_ask_count (hr.mono (by decide)) rfl T.g_ask_count T.F_ask_count.kp T.b_ask_count .nil pass0 (pa_cons (pv 2) pa_nil)) (pa_cons (pe_callB (lenAny (K := K)) (by rfl) T.b_len (by decide +kernel) (pa_cons (pv 4) pa_nil)) pa_nil)))))))) (pss_one (ps_ret pe_bl)) pss_nil)
      (pss_cons (ps_set (i := 5) sc_law.nd rfl (by first | exact Or.inl rfl | exact Or.inr rfl) (pe_callTy (tupOf (K := K)) (by rfl) T.b_tuple (by decide +kernel) (pa_cons (pe_lc (own := [("_law_steps", 6), ("_law_inner", 7)]) (g := gTup K 2 (gCons (gName 6) (gCons (gName 7) (gNil)))) rfl sc_law.nd (pi_seq (K := K) (pv 3)) (blkOk_by (own := [("_law_steps", 6), ("_law_inner", 7)]) (N := N_law) (sc := defScope s_law) (by decide +kernel)) (fun _ _ _ _ _ => (pgTup (K := K) rfl (pgs_cons (pg_name (i := 6) sc_law.nd rfl (by first | exact Or.inl rfl | exact Or.inr rfl)) (pgs_cons (pg_name (i := 7) sc_law.nd rfl (by first | exact Or.inl rfl | exact Or.inr rfl)) pgs_nil)))) (fun _ _ _ _ _ => (pts_one (PW.pt (pw_and (ptTr (K := K) (pe_callB (isiOne (K := K)) (by rfl) T.b_isinstance (by decide +kernel) (pa_cons (pv 7) (pa_cons (pe_bltn (v := .ty "str") (u := .type "str") (by rfl) T.b_str (by decide +kernel) rfl) pa_nil)))) (pw_and1 (pt_cmpR (opNotIn (K := K)) pe_str (pv 6) rfl)))))) (fun _ _ _ _ _ => (pv 6))) pa_nil)))
      (pss_cons (ps_if (pt_not (ptTr (K := K) (pe_call G__law_exact (hr.mono (by decide)) rfl T.g__law_exact T.F__law_exact.kp T.b__law_exact .nil pass0 (pa_cons (pe_call G_flat_paths (hr.mono (by decide)) rfl T.g_flat_paths T.F_flat_paths.kp T.b_flat_paths .nil pass0 (pa_cons (pv 2) pa_nil)) (pa_cons (pv 5) pa_nil))))) (pss_one (ps_ret pe_bl)) pss_nil)
      (pss_cons (ps_for PassesOwn.never rfl (pi_seq (K := K) (pv 3)) (pg_tup rfl (pgs_cons (pg_name (i := 6) sc_law.nd rfl (by first | exact Or.inl rfl | exact Or.inr rfl)) (pgs_cons (pg_name (i := 7) sc_law.nd rfl (by first | exact Or.inl rfl | exact Or.inr rfl)) pgs_nil))) (pss_cons (ps_if (PW.pt (pw_or (pt_not (ptTr (K := K) (pe_call G__law_exact (hr.mono (by decide)) rfl T.g__law_exact T.F__law_exact.kp T.b__law_exact .nil pass0 (pa_cons (pe_callS G_kind_at (hr.mono (by decide)) rfl T.g_kind_at T.F_kind_at.kp T.b_kind_at (fun σ => passAt (W := fun _ _ _ _ => False) takes0 σ) (pa_cons (pv 2) (pa_cons (pv 6) pa_nil))) (pa_cons (pv 7) pa_nil))))) (pw_or1 (pt_not (ptTr (K := K) (pe_call G__law_wrong_steps (hr.mono (by decide)) rfl T.g__law_wrong_steps T.F__law_wrong_steps.kp T.b__law_wrong_steps .nil pass0 (pa_cons (pv 2) (pa_cons (pe_op (opAdd (K := K)) (pv 6) (pe_slice (slTA (K := K)) (pe_tup (pa_cons pe_str (pa_cons pe_str pa_nil))) po_none (po_some (pe_op (opAdd (K := K)) pe_int (pe_call G__law_draw (hr.mono (by decide)) rfl T.g__law_draw T.F__law_draw.kp T.b__law_draw .nil pass0 (pa_cons (pv 1) (pa_cons pe_int pa_nil))))))) pa_nil)))))))) (pss_one (ps_ret pe_bl)) pss_nil)
      (pss_one (ps_if (PW.pt (pw_and (PW.pt (pw_or (ptTr (K := K) (pe_callB (isiOne (K := K)) (by rfl) T.b_isinstance (by decide +kernel) (pa_cons (pv 7) (pa_cons (pe_bltn (v := .ty "str") (u := .type "str") (by rfl) T.b_str (by decide +kernel) rfl) pa_nil)))) (pw_or1 (pt_cmpR (opNe (K := K) hr) (pe_ix (ixAny (K := K)) (pv 7) pe_int (fun _ _ => rfl)) pe_str (nomark _))))) (pw_and1 (pt_not (ptTr (K := K) (pe_call G__law_wrong_steps (hr.mono (by decide)) rfl T.g__law_wrong_steps T.F__law_wrong_steps.kp T.b__law_wrong_steps .nil pass0 (pa_cons (pv 2) (pa_cons (pe_op (opAdd (K := K)) (pv 6) (pe_tup (pa_cons pe_str pa_nil))) pa_nil)))))))) (pss_one (ps_ret pe_bl)) pss_nil))))
      (pss_cons (ps_set (i := 8) sc_law.nd rfl (by first | exact Or.inl rfl | exact Or.inr rfl) (pe_call G__law_kind_has (hr.mono (by decide)) rfl T.g__law_kind_has T.F__law_kind_has.kp T.b__law_kind_has .nil pass0 (pa_cons (pv 2) (pa_cons pe_str pa_nil))))
      (pss_cons (ps_set (i := 9) sc_law.nd rfl (by first | exact Or.inl rfl | exact Or.inr rfl) (pe_call G__law_kind_has (hr.mono (by decide)) rfl T.g__law_kind_has T.F__law_kind_has.kp T.b__law_kind_has .nil pass0 (pa_cons (pv 2) (pa_cons pe_str pa_nil))))
      (pss_cons (ps_if (PW.pt (pw_or (pt_not (ptTr (K := K) (pe_call G__law_exact (hr.mono (by decide)) rfl T.g__law_exact T.F__law_exact.kp T.b__law_exact .nil pass0 (pa_cons (pe_call G_has_open (hr.mono (by decide)) rfl T.g_has_open T.F_has_open.kp T.b_has_open .nil pass0 (pa_cons (pv 2) pa_nil)) (pa_cons (pv 8) pa_nil))))) (pw_or1 (pt_not (ptTr (K := K) (pe_call G__law_exact (hr.mono (by decide)) rfl T.g__law_exact T.F__law_exact.kp T.b__law_exact .nil pass0 (pa_cons (pe_call G_has_function (hr.mono (by decide)) rfl T.g_has_function T.F_has_function.kp T.b_has_function .nil pass0 (pa_cons (pv 2) pa_nil)) (pa_cons (pv 9) pa_nil)))))))) (pss_one (ps_ret pe_bl)) pss_nil)
      (pss_cons (ps_set (i := 10) sc_law.nd rfl (by first | exact Or.inl rfl | exact Or.inr rfl) (pe_and (pe_not (pe_callB (isiOne (K := K)) (by rfl) T.b_isinstance (by decide +kernel) (pa_cons (pv 2) (pa_cons (pe_bltn (v := .ty "str") (u := .type "str") (by rfl) T.b_str (by decide +kernel) rfl) pa_nil)))) (pe_and (pe_cmpR (opEq (K := K) hr) (pe_ix (ixAny (K := K)) (pv 2) pe_int (fun _ _ => rfl)) pe_str (nomark _)) (pe_and (pe_not (pv 8)) (pe_one (pe_not (pv 9)))))))
      (pss_one (ps_ret (pe_call G__law_exact (hr.mono (by decide)) rfl T.g__law_exact T.F__law_exact.kp T.b__law_exact .nil pass0 (pa_cons (pe_call G_is_answer_kind (hr.mono (by decide)) rfl T.g_is_answer_kind T.F_is_answer_kind.kp T.b_is_answer_kind .nil pass0 (pa_cons (pv 2) pa_nil)) (pa_cons (pv 10) pa_nil)))))))))))))))))))), ?_⟩
    have same : ∀ d, sameD d d = true := fun d => sameD_iff.mpr rfl
    refine ⟨_, rfl, a, ns, 0, rfl, hS, hlen, by decide, fun p H1 hp0 e1 hp1 => ?_⟩
    refine ⟨_, rfl, Mp p, p, _, 4, rfl, by decide, hp1, pl_trk hp1, rfl, fun k0 v0 H2 L2 hk0 kp2 hp2 a2 => ?_⟩
    have hG2 : wo H2 p p = none := wo_none
    refine k_ifA (G := wo H2 p) (i := 2) (old := v0) (P := fun v H => ∃ kd : Kd, gk 6 kd ∧ kd.dep ≤ 5 ∧ At (Mp p) H v kd.D) (tk_test (ek_eq hG2 (ek_draw (m := 2) rfl ev_c (by decide) (by decide)))) wo_ex hp2 (fun H3 L3 k3 hp3 Q3 q3 => ?_) (fun H3 k3 => ?_) rfl fun vk H3 L3 k3 hp3 ⟨kd, hg, hd5, ak⟩ => ?_
    · have hM3 : Trk (Mp p) H3 := pl_trk hp3
      refine ed_to (M := Mp p) (d := T2 (S "list") k0.D) (ed_tup (eds_cons (ed_str (by decide)) (eds_cons (ed_var rfl (a2.keepP k3)) eds_nil)) hM3 (by simp)) fun v H4 e4 a4 => q3 v H4 e4 ⟨.lst k0, ⟨?_, ?_, ?_⟩, ?_, a4⟩
      · rw [Kd.dep]
        have := hk0.1
        omega
      · rw [Kd.wf]
        exact hk0.2.1
      · rw [Kd.sz]
        have h1 := hk0.2.2
        have h2 : szb 4 = 121 := rfl
        rw [h2] at h1
        omega
      · rw [Kd.dep]
        have := hk0.1
        omega
    · have h1 := hk0.2.2
      have h2 : szb 4 = 121 := rfl
      rw [h2] at h1
      exact ⟨k0, ⟨by have := hk0.1; omega, hk0.2.1, by omega⟩, by have := hk0.1; omega, a2.keepP k3⟩
    have hM3 : Trk (Mp p) H3 := pl_trk hp3
    obtain ⟨c1, c2⟩ := chk_D kd 12 hg.2.1 (by omega)
    obtain ⟨r1, r2⟩ := rel_D kd 20 hg.2.1 (by omega)
    have r3 := (rel_D kd 21 hg.2.1 (by omega)).1
    refine q_when (b := !sameD kd.D kd.D || !sameD kd.D kd.D) (et_or (et_not (et_D (ed_exact (ed_check (ed_var rfl ak) hM3 c1) (ed_var rfl ak) r2))) fun _ => et_not (et_D (ed_exact (ed_check (ed_is (ed_callX (dom := dom1 fun d : PyData => d) kd.D (eds_cons (ed_var rfl ak) eds_nil) hM3 r2) r3) hM3 c2) (ed_var rfl ak) r2)))
      (fun c H4 e4 => ?_) (fun _ H4 e4 => ?_)
    · rw [same] at c
      cases c
    have ak := ak.ex e4
    have hM4 := hM3.same e4
    refine q_when (b := !sameD (.bool (isStr kd.D)) (.bool (isStr kd.D))) (et_not (et_D (ed_exact (ed_isb (ed_var rfl ak) hM4) (ed_isiS (ed_var rfl ak)) (DepLe.flat rfl)))) (fun c H5 e5 => ?_) (fun _ H5 e5 => ?_)
    · rw [same] at c
      cases c
    have ak := ak.ex e5
    have hM5 := hM4.same e5
    refine d_asg (M := Mp p) (ed_led (n := 6) (st := []) (ed_var rfl ak) (ed_tup eds_nil hM5 (by simp)) hM5 hg (by simp)) fun vr H6 e6 ar => ?_
    have ak := ak.ex e6
    have hM6 := hM5.same e6
    have hlen : (kd.rc []).length ≤ 1000 := Nat.le_trans (Kd.rc_len kd []) hg.2.2
    have hdl : ∀ st ∈ kd.lp, st.length ≤ 10000 := fun st h => by
      have := Kd.lp_dep kd st h
      omega
    have hdf : ∀ st ∈ kd.fp, st.length ≤ 10000 := fun st h => by
      have := Kd.fp_dep kd st h
      omega
    have hll : kd.lp.length ≤ 10000 := by
      have := Kd.lp_len kd
      have := hg.2.2
      omega
    have hfl : kd.fp.length ≤ 10000 := by
      have := Kd.fp_len kd
      have := hg.2.2
      omega
    -- the lists' places
    refine d_asg (M := Mp p) (d := lpD kd) (ed_is (ed_tupOf (ed_lcTt (a := .list ((kd.rc []).map rcD)) (as := kd.rc []) (gd := rcD) (g1 := fun p => stD p.1) (g2 := fun p => p.2.D) (fun p => p.2.isLst) (fun p => stD p.1) (ed_var rfl ar) rfl rfl (fun _ => rfl) hM6 (by omega) (fun _ _ => rfl)
      fun M' x1 x2 y H7 e7 hy hM' a1 a2 => ⟨head_test (ev_var rfl) a2, ed_var rfl a1⟩) hM6) (lp_told kd)) fun vl H7 e7 al => ?_
    have ak := ak.ex e7
    have hM7 := hM6.same e7
    refine q_when (b := !sameD (lpD kd) (lpD kd) || !sameD (.int (kd.lp.length : Nat)) (.int ((itemsD (lpD kd)).length : Nat))) (et_or (et_not (et_D (ed_exact (ed_k1 (F := lpD) (ed_var rfl ak) hM7 hg) (ed_var rfl al) (dep_sts hll hdl)))) fun _ => et_not (et_D (ed_exact (ed_k1 (F := fun k => .int (k.lp.length : Nat)) (ed_var rfl ak) hM7 hg) (ed_len (ed_var rfl al) rfl) (DepLe.flat rfl)))) (fun c H8 e8 => ?_) (fun _ H8 e8 => ?_)
    · rw [same, show (itemsD (lpD kd)).length = kd.lp.length from List.length_map _, same] at c
      cases c
    have ak := ak.ex e8
    have hM8 := hM7.same e8
    have ar := ar.ex (e7.trans e8)
    -- the flat paths
    refine d_asg (M := Mp p) (d := fpD kd) (ed_is (ed_tupOf (ed_lcTt (a := .list ((kd.rc []).map rcD)) (as := kd.rc []) (gd := rcD) (g1 := fun p => stD p.1) (g2 := fun p => p.2.D) flatP (fun p => stD p.1) (ed_var rfl ar) rfl rfl (fun _ => rfl) hM8 (by omega) (fun _ _ => rfl)
      fun M' x1 x2 y H9 e9 hy hM' a1 a2 => ⟨et_is (et_and (et_D (ed_isiS (ed_var rfl a2))) fun _ => et_DT (ed_niS (ed_str (by decide)) (ed_var rfl a1))) (by rw [isStr_D]; rfl), ed_var rfl a1⟩) hM8) (fp_told kd hg.2.1)) fun vf H9 e9 af => ?_
    have ak := ak.ex e9
    have hM9 := hM8.same e9
    refine q_when (b := !sameD (fpD kd) (fpD kd)) (et_not (et_D (ed_exact (ed_k1 (F := fpD) (ed_var rfl ak) hM9 hg) (ed_var rfl af) (dep_sts hfl hdf)))) (fun c H10 e10 => ?_) (fun _ H10 e10 => ?_)
    · rw [same] at c
      cases c
    have ak := ak.ex e10
    have hM10 := hM9.same e10
    have ar := ar.ex (e9.trans e10)
    have hp10 : PlAt H10 p L3 := pl_ex hp3 ((((((e4.trans e5).trans e6).trans e7).trans e8).trans e9).trans e10)
    obtain ⟨pr, xr, rfl, npr, hpr, rr⟩ := ar.lst_inv
    have akw := ak.wo
    have rrw := rr.wo
    have t0 : ∀ H, Trk M0 H := fun H a z => z.elim
    refine q_forA (K := K) (Hb := wo H10 p) (a := pr) (xs := xr) (ev_var rfl) (.inl (.of (by rw [wo_ne npr]; exact hpr))) (fun i σ' H' => Ex (wo H10 p) H' ∧ ∃ (L' : Pool) (c6 c7 : Option V), PlAt H' p L' ∧
        σ' = [some (.ref a), some (.ref p), some vk, some (.ref pr), some vl, some vf, c6, c7, none, none, none])
      (fun H11 e11 => ⟨wo_ex.trans e11, L3, none, none, pl_ex hp10 e11, rfl⟩) (fun i σ' H' pv => pv.1) ?_ ?_
    · rintro i x σ' H11 hx ⟨e11, L11, c6, c7, hp11, rfl⟩
      obtain ⟨di, hdi, ai⟩ := rrw.get hx
      rw [List.getElem?_map] at hdi
      obtain ⟨y, hy, rfl⟩ := Option.map_eq_some_iff.mp hdi
      have hm := List.mem_of_getElem? hy
      have ai2 : At (Mp p) H11 x (.tuple [stD y.1, y.2.D]) := ai.ex e11
      obtain ⟨x1, x2, a1, a2, tk⟩ := tk_two (K := K) (i := 6) (j := 7) (σ0 := [some (.ref a), some (.ref p), some vk, some (.ref pr), some vl, some vf, c6, c7, none, none, none]) ai2
      refine tk _ ?_
      obtain ⟨r, hr', hgo, hwf, hdep, hsz⟩ := Kd.rc_go kd [] hg.2.1 y hm
      have hr2 : y.1 = r := by simpa using hr'
      rw [← hr2] at hgo
      have gy : gk 6 y.2 := ⟨by omega, hwf, by have := hg.2.2; omega⟩
      have hyl := go_len y.1 kd y.2 hgo
      have hok := Kd.rc_ok kd [] hg.2.1 (by simp) y hm
      have hq : ∀ rest, kd.go (y.1 ++ ("q" : Str) :: rest) = none := fun rest => by
        rw [Kd.go_app, hgo]
        show (y.2.child "q").bind _ = none
        rw [Kd.child_q hwf]
        rfl
      have hG : wo H11 p p = none := wo_none
      have ak11 := (akw.ex e11).wo
      have a1w := a1.wo
      have a2w := a2.wo
      refine p_when (G := wo H11 p) (b := !sameD y.2.D y.2.D || !true) (tp_or hG (tp_of (et_not (et_D (ed_exact (M := M0) (ed_at (ed_var rfl ak11.zero) (ed_var rfl a1w.zero) (t0 _) hg hgo) (ed_var rfl a2w.zero) (rel_D y.2 20 hwf (by omega)).2)))) fun _ => tp_not (tp_tru (ek_wrong hG rfl rfl rfl ak11 a1w (by omega) hg hok hq)))
        wo_ex hp11 (fun c H12 L12 k12 hp12 => ?_) (fun _ H12 L12 k12 hp12 => ?_)
      · rw [same] at c
        cases c
      have a112 := (a1.keepP k12).zero
      have a212 := (a2.keepP k12).zero
      have e12 : Ex (wo H10 p) H12 := ex_keep wo_none e11 k12
      have ak12 := (akw.ex e12).zero
      have fin : ∀ H13, Ex H12 H13 → Ex (wo H10 p) H13 ∧ ∃ (L' : Pool) (c6 c7 : Option V), PlAt H13 p L' ∧ [some (.ref a), some (.ref p), some vk, some (.ref pr), some vl, some vf, some x1, some x2, none, none, none] = [some (.ref a), some (.ref p), some vk, some (.ref pr), some vl, some vf, c6, c7, none, none, none] := fun H13 e13 =>
        ⟨e12.trans e13, L12, _, _, pl_ex hp12 e13, rfl⟩
      refine s_when (b := !y.2.isLst && !true) (et_and (head_ne (ev_var rfl) a212) fun c => et_not (et_tru (fun H1 e Q q => ⟨vk, rfl, (ed_snoc (K := K) (M := M0) (s := "*") (ed_var rfl a112) (ed_tup (eds_cons (ed_str (by decide)) eds_nil) (t0 _) (by simp)) (t0 _) (by omega)) H1 e _ fun d' v H2 hd e2 a => by
          cases hd
          refine ⟨vk, v, kd, _, M0, rfl, ak12.ex (e.trans e2), a, t0 _, hg, fun s hs => ?_, ?_, fun H3 s => q H3 (e2.trans s)⟩
          · rcases List.mem_append.mp hs with hs | hs
            · exact hok s hs
            · rw [List.mem_singleton.mp hs]
              decide +kernel
          · rw [Kd.go_app, hgo]
            show (y.2.child "*").bind _ = none
            rw [Kd.child_star hwf (by simpa using c)]
            rfl⟩) tr_bl)) (fun c H13 e13 => ?_) (fun _ H13 e13 => fin H13 e13)
      rw [Bool.not_true, Bool.and_false] at c
      cases c
    · rintro σ' H11 ⟨e11, L11, c6, c7, hp11, rfl⟩
      have ak := (akw.ex e11)
      have hM11 : Trk (Mp p) H11 := pl_trk hp11
      refine d_asg (M := Mp p) (ed_has (n := 6) (wd := "any") (ed_var rfl ak) (ed_str (by decide)) hM11 hg) fun vo H12 e12 ao => ?_
      have ak := ak.ex e12
      have hM12 := hM11.same e12
      refine d_asg (M := Mp p) (ed_has (n := 6) (wd := "function") (ed_var rfl ak) (ed_str (by decide)) hM12 hg) fun vw H13 e13 aw => ?_
      have ak := ak.ex e13
      have hM13 := hM12.same e13
      have ao := ao.ex e13
      refine q_when (b := !sameD (.bool (kd.has "any")) (.bool (kd.has "any")) || !sameD (.bool (kd.has "function")) (.bool (kd.has "function"))) (et_or (et_not (et_D (ed_exact (ed_k1 (F := fun k => .bool (k.has "any")) (ed_var rfl ak) hM13 hg) (ed_var rfl ao) (DepLe.flat rfl)))) fun _ => et_not (et_D (ed_exact (ed_k1 (F := fun k => .bool (k.has "function")) (ed_var rfl ak) hM13 hg) (ed_var rfl aw) (DepLe.flat rfl)))) (fun c H14 e14 => ?_) (fun _ H14 e14 => ?_)
      · rw [same, same] at c
        cases c
      have ak := ak.ex e14
      have hM14 := hM13.same e14
      have ao := ao.ex e14
      have aw := aw.ex e14
      refine d_asg (M := Mp p) (d := .bool (answerD kd)) ?_ fun vd H15 e15 av => ?_
      · unfold answerD
        rw [← isStr_D]
        refine ed_and (ed_not (ed_isiS (ed_var rfl ak))) fun c => ?_
        obtain ⟨s, h1, h2, h3⟩ := head_D (k := kd) (by rw [← isStr_D]; simpa using c)
        rw [← h3]
        exact ed_and (ed_eqS (ed_ix (ed_var rfl ak) ed_int h1 h2) (ed_str (by decide))) fun _ => ed_and (ed_not (ed_var rfl ao)) fun _ => ed_not (ed_var rfl aw)
      have ak := ak.ex e15
      have hM15 := hM14.same e15
      refine s_ret (v := .bl true) (ev_is (v := .bl (sameD (.bool (answerD kd)) (.bool (answerD kd)))) (ev_D (ed_exact (ed_k1 (F := fun k => .bool (answerD k)) (ed_var rfl ak) hM15 hg) (ed_var rfl av) (DepLe.flat rfl))) (by rw [same])) fun H16 _ => k H16
end
end K1
set_option Elab.async false
set_option linter.all false
set_option maxRecDepth 100000
set_option maxHeartbeats 4000000
namespace K1
open PySem PySem.Spec PyProof.Rows L2 LK Evl
theorem vals_len : ∀ {xs : List V} {vs : List Value}, Vals xs vs → vs.length = xs.length
  | _, _, .nil => rfl
  | _, _, .cons _ h => congrArg (· + 1) (vals_len h)
theorem all_mk {P : Program} {w : World} {K : PySem.W.Frag} {h : Heap} {mg : Str → Option Value} {fa : Addr} (X : K.In h) (G : h.Ns mainGlobals mg) (hfa : mg "law" = some (.ref fa))
    {f0 : Addr} {od0 an0 : Option Addr} {sl0 : Array (Option Value)} {oc0 kV0 dc0 pm0 cd0 ct0 : Value}
    {f1 : Addr} {od1 an1 : Option Addr} {sl1 : Array (Option Value)} {oc1 kV1 dc1 pm1 cd1 ct1 : Value}
    {f2 : Addr} {od2 an2 : Option Addr} {sl2 : Array (Option Value)} {oc2 kV2 dc2 pm2 cd2 ct2 : Value}
    {f3 : Addr} {od3 an3 : Option Addr} {sl3 : Array (Option Value)} {oc3 kV3 dc3 pm3 cd3 ct3 : Value}
    {f4 : Addr} {od4 an4 : Option Addr} {sl4 : Array (Option Value)} {oc4 kV4 dc4 pm4 cd4 ct4 : Value}
    {f5 : Addr} {od5 an5 : Option Addr} {sl5 : Array (Option Value)} {oc5 kV5 dc5 pm5 cd5 ct5 : Value}
    {f6 : Addr} {od6 an6 : Option Addr} {sl6 : Array (Option Value)} {oc6 kV6 dc6 pm6 cd6 ct6 : Value}
    {f7 : Addr} {od7 an7 : Option Addr} {sl7 : Array (Option Value)} {oc7 kV7 dc7 pm7 cd7 ct7 : Value}
    {f8 : Addr} {od8 an8 : Option Addr} {sl8 : Array (Option Value)} {oc8 kV8 dc8 pm8 cd8 ct8 : Value}
    {f9 : Addr} {od9 an9 : Option Addr} {sl9 : Array (Option Value)} {oc9 kV9 dc9 pm9 cd9 ct9 : Value}
    {f10 : Addr} {od10 an10 : Option Addr} {sl10 : Array (Option Value)} {oc10 kV10 dc10 pm10 cd10 ct10 : Value}
    {f11 : Addr} {od11 an11 : Option Addr} {sl11 : Array (Option Value)} {oc11 kV11 dc11 pm11 cd11 ct11 : Value}
    {f12 : Addr} {od12 an12 : Option Addr} {sl12 : Array (Option Value)} {oc12 kV12 dc12 pm12 cd12 ct12 : Value}
    {f13 : Addr} {od13 an13 : Option Addr} {sl13 : Array (Option Value)} {oc13 kV13 dc13 pm13 cd13 ct13 : Value}
    {f14 : Addr} {od14 an14 : Option Addr} {sl14 : Array (Option Value)} {oc14 kV14 dc14 pm14 cd14 ct14 : Value}
    {f15 : Addr} {od15 an15 : Option Addr} {sl15 : Array (Option Value)} {oc15 kV15 dc15 pm15 cd15 ct15 : Value}
    {f16 : Addr} {od16 an16 : Option Addr} {sl16 : Array (Option Value)} {oc16 kV16 dc16 pm16 cd16 ct16 : Value}
    {f17 : Addr} {od17 an17 : Option Addr} {sl17 : Array (Option Value)} {oc17 kV17 dc17 pm17 cd17 ct17 : Value}
    {f18 : Addr} {od18 an18 : Option Addr} {sl18 : Array (Option Value)} {oc18 kV18 dc18 pm18 cd18 ct18 : Value}
    {f19 : Addr} {od19 an19 : Option Addr} {sl19 : Array (Option Value)} {oc19 kV19 dc19 pm19 cd19 ct19 : Value}
    {f20 : Addr} {od20 an20 : Option Addr} {sl20 : Array (Option Value)} {oc20 kV20 dc20 pm20 cd20 ct20 : Value}
    {f21 : Addr} {od21 an21 : Option Addr} {sl21 : Array (Option Value)} {oc21 kV21 dc21 pm21 cd21 ct21 : Value}
    {f22 : Addr} {od22 an22 : Option Addr} {sl22 : Array (Option Value)} {oc22 kV22 dc22 pm22 cd22 ct22 : Value}
    {f23 : Addr} {od23 an23 : Option Addr} {sl23 : Array (Option Value)} {oc23 kV23 dc23 pm23 cd23 ct23 : Value}
    {f24 : Addr} {od24 an24 : Option Addr} {sl24 : Array (Option Value)} {oc24 kV24 dc24 pm24 cd24 ct24 : Value}
    {f25 : Addr} {od25 an25 : Option Addr} {sl25 : Array (Option Value)} {oc25 kV25 dc25 pm25 cd25 ct25 : Value}
    {C C2 aB : Addr} {nm2 q2 : Str} {N2 : Addr} {bs2 bm2 : List Value} {sn2 : List Str} {sub2 : List Value} {ab2 : Bool} {col2 : Option Bool} {dd2 : Option Addr} {x0 x1 x2 x3 x5 : Option Value} {t1 t2 : Tok} {nm q : Str} {N : Addr} {bs bm : List Value} {sn : List Str} {sub : List Value} {ab : Bool} {col : Option Bool} {dd : Option Addr} {m0 m1 m2 m3 m5 : Option Value} {cB : Value} {dB : Option Addr} {iB : Array Value} {nB : Nat} {slB : Array (Option Value)}
    (aC : PySem.W.nsIn K mainGlobals "BadKind" = some (some (.ref C)))
    (aD : PySem.W.nsIn K mainGlobals "NoPlace" = some (some (.ref C2)))
    (a0 : PySem.W.findIn K (.ref C) "__init__" = some (some (.ref f0)))
    (l0 : K.lookup f0 = some ⟨oc0, od0, .func (PySem.W.fnOf "__init__" "BadKind.__init__" (defArgs s_BadKind___init__) (defBody s_BadKind___init__) (defScope s_BadKind___init__) .none kV0 dc0 pm0 an0 cd0 ct0), sl0⟩)
    (c0 : PySem.W.codeIn K cd0 "BadKind.__init__" = true)
    (k0 : PySem.W.keepIn K (.ref f0) = true)
    (a1 : PySem.W.findIn K (.ref C2) "__init__" = some (some (.ref f1)))
    (l1 : K.lookup f1 = some ⟨oc1, od1, .func (PySem.W.fnOf "__init__" "NoPlace.__init__" (defArgs s_NoPlace___init__) (defBody s_NoPlace___init__) (defScope s_NoPlace___init__) .none kV1 dc1 pm1 an1 cd1 ct1), sl1⟩)
    (c1 : PySem.W.codeIn K cd1 "NoPlace.__init__" = true)
    (k1 : PySem.W.keepIn K (.ref f1) = true)
    (a2 : PySem.W.nsIn K mainGlobals "is_name" = some (some (.ref f2)))
    (l2 : K.lookup f2 = some ⟨oc2, od2, .func (PySem.W.fnOf "is_name" "is_name" (defArgs s_is_name) (defBody s_is_name) (defScope s_is_name) .none kV2 dc2 pm2 an2 cd2 ct2), sl2⟩)
    (c2 : PySem.W.codeIn K cd2 "is_name" = true)
    (k2 : PySem.W.keepIn K (.ref f2) = true)
    (a3 : PySem.W.nsIn K mainGlobals "is_whole" = some (some (.ref f3)))
    (l3 : K.lookup f3 = some ⟨oc3, od3, .func (PySem.W.fnOf "is_whole" "is_whole" (defArgs s_is_whole) (defBody s_is_whole) (defScope s_is_whole) .none kV3 dc3 pm3 an3 cd3 ct3), sl3⟩)
    (c3 : PySem.W.codeIn K cd3 "is_whole" = true)
    (k3 : PySem.W.keepIn K (.ref f3) = true)
    (a4 : PySem.W.nsIn K mainGlobals "is_row" = some (some (.ref f4)))
    (l4 : K.lookup f4 = some ⟨oc4, od4, .func (PySem.W.fnOf "is_row" "is_row" (defArgs s_is_row) (defBody s_is_row) (defScope s_is_row) .none kV4 dc4 pm4 an4 cd4 ct4), sl4⟩)
    (c4 : PySem.W.codeIn K cd4 "is_row" = true)
    (k4 : PySem.W.keepIn K (.ref f4) = true)
    (a5 : PySem.W.nsIn K mainGlobals "check_couples" = some (some (.ref f5)))
    (l5 : K.lookup f5 = some ⟨oc5, od5, .func (PySem.W.fnOf "check_couples" "check_couples" (defArgs s_check_couples) (defBody s_check_couples) (defScope s_check_couples) .none kV5 dc5 pm5 an5 cd5 ct5), sl5⟩)
    (c5 : PySem.W.codeIn K cd5 "check_couples" = true)
    (k5 : PySem.W.keepIn K (.ref f5) = true)
    (a6 : PySem.W.nsIn K mainGlobals "checked_kind" = some (some (.ref f6)))
    (l6 : K.lookup f6 = some ⟨oc6, od6, .func (PySem.W.fnOf "checked_kind" "checked_kind" (defArgs s_checked_kind) (defBody s_checked_kind) (defScope s_checked_kind) .none kV6 dc6 pm6 an6 cd6 ct6), sl6⟩)
    (c6 : PySem.W.codeIn K cd6 "checked_kind" = true)
    (k6 : PySem.W.keepIn K (.ref f6) = true)
    (a7 : PySem.W.nsIn K mainGlobals "check_kind" = some (some (.ref f7)))
    (l7 : K.lookup f7 = some ⟨oc7, od7, .func (PySem.W.fnOf "check_kind" "check_kind" (defArgs s_check_kind) (defBody s_check_kind) (defScope s_check_kind) .none kV7 dc7 pm7 an7 cd7 ct7), sl7⟩)
    (c7 : PySem.W.codeIn K cd7 "check_kind" = true)
    (k7 : PySem.W.keepIn K (.ref f7) = true)
    (a8 : PySem.W.nsIn K mainGlobals "is_base" = some (some (.ref f8)))
    (l8 : K.lookup f8 = some ⟨oc8, od8, .func (PySem.W.fnOf "is_base" "is_base" (defArgs s_is_base) (defBody s_is_base) (defScope s_is_base) .none kV8 dc8 pm8 an8 cd8 ct8), sl8⟩)
    (c8 : PySem.W.codeIn K cd8 "is_base" = true)
    (k8 : PySem.W.keepIn K (.ref f8) = true)
    (a9 : PySem.W.nsIn K mainGlobals "has_word" = some (some (.ref f9)))
    (l9 : K.lookup f9 = some ⟨oc9, od9, .func (PySem.W.fnOf "has_word" "has_word" (defArgs s_has_word) (defBody s_has_word) (defScope s_has_word) .none kV9 dc9 pm9 an9 cd9 ct9), sl9⟩)
    (c9 : PySem.W.codeIn K cd9 "has_word" = true)
    (k9 : PySem.W.keepIn K (.ref f9) = true)
    (a10 : PySem.W.nsIn K mainGlobals "has_open" = some (some (.ref f10)))
    (l10 : K.lookup f10 = some ⟨oc10, od10, .func (PySem.W.fnOf "has_open" "has_open" (defArgs s_has_open) (defBody s_has_open) (defScope s_has_open) .none kV10 dc10 pm10 an10 cd10 ct10), sl10⟩)
    (c10 : PySem.W.codeIn K cd10 "has_open" = true)
    (k10 : PySem.W.keepIn K (.ref f10) = true)
    (a11 : PySem.W.nsIn K mainGlobals "has_function" = some (some (.ref f11)))
    (l11 : K.lookup f11 = some ⟨oc11, od11, .func (PySem.W.fnOf "has_function" "has_function" (defArgs s_has_function) (defBody s_has_function) (defScope s_has_function) .none kV11 dc11 pm11 an11 cd11 ct11), sl11⟩)
    (c11 : PySem.W.codeIn K cd11 "has_function" = true)
    (k11 : PySem.W.keepIn K (.ref f11) = true)
    (a12 : PySem.W.nsIn K mainGlobals "is_answer_kind" = some (some (.ref f12)))
    (l12 : K.lookup f12 = some ⟨oc12, od12, .func (PySem.W.fnOf "is_answer_kind" "is_answer_kind" (defArgs s_is_answer_kind) (defBody s_is_answer_kind) (defScope s_is_answer_kind) .none kV12 dc12 pm12 an12 cd12 ct12), sl12⟩)
    (c12 : PySem.W.codeIn K cd12 "is_answer_kind" = true)
    (k12 : PySem.W.keepIn K (.ref f12) = true)
    (a13 : PySem.W.nsIn K mainGlobals "list_places" = some (some (.ref f13)))
    (l13 : K.lookup f13 = some ⟨oc13, od13, .func (PySem.W.fnOf "list_places" "list_places" (defArgs s_list_places) (defBody s_list_places) (defScope s_list_places) .none kV13 dc13 pm13 an13 cd13 ct13), sl13⟩)
    (c13 : PySem.W.codeIn K cd13 "list_places" = true)
    (k13 : PySem.W.keepIn K (.ref f13) = true)
    (a14 : PySem.W.nsIn K mainGlobals "ask_count" = some (some (.ref f14)))
    (l14 : K.lookup f14 = some ⟨oc14, od14, .func (PySem.W.fnOf "ask_count" "ask_count" (defArgs s_ask_count) (defBody s_ask_count) (defScope s_ask_count) .none kV14 dc14 pm14 an14 cd14 ct14), sl14⟩)
    (c14 : PySem.W.codeIn K cd14 "ask_count" = true)
    (k14 : PySem.W.keepIn K (.ref f14) = true)
    (a15 : PySem.W.nsIn K mainGlobals "kind_at" = some (some (.ref f15)))
    (l15 : K.lookup f15 = some ⟨oc15, od15, .func (PySem.W.fnOf "kind_at" "kind_at" (defArgs s_kind_at) (defBody s_kind_at) (defScope s_kind_at) .none kV15 dc15 pm15 an15 cd15 ct15), sl15⟩)
    (c15 : PySem.W.codeIn K cd15 "kind_at" = true)
    (k15 : PySem.W.keepIn K (.ref f15) = true)
    (a16 : PySem.W.nsIn K mainGlobals "flat_paths" = some (some (.ref f16)))
    (l16 : K.lookup f16 = some ⟨oc16, od16, .func (PySem.W.fnOf "flat_paths" "flat_paths" (defArgs s_flat_paths) (defBody s_flat_paths) (defScope s_flat_paths) .none kV16 dc16 pm16 an16 cd16 ct16), sl16⟩)
    (c16 : PySem.W.codeIn K cd16 "flat_paths" = true)
    (k16 : PySem.W.keepIn K (.ref f16) = true)
    (a17 : PySem.W.nsIn K mainGlobals "_law_pool" = some (some (.ref f17)))
    (l17 : K.lookup f17 = some ⟨oc17, od17, .func (PySem.W.fnOf "_law_pool" "_law_pool" (defArgs s__law_pool) (defBody s__law_pool) (defScope s__law_pool) .none kV17 dc17 pm17 an17 cd17 ct17), sl17⟩)
    (c17 : PySem.W.codeIn K cd17 "_law_pool" = true)
    (k17 : PySem.W.keepIn K (.ref f17) = true)
    (a18 : PySem.W.nsIn K mainGlobals "_law_draw" = some (some (.ref f18)))
    (l18 : K.lookup f18 = some ⟨oc18, od18, .func (PySem.W.fnOf "_law_draw" "_law_draw" (defArgs s__law_draw) (defBody s__law_draw) (defScope s__law_draw) .none kV18 dc18 pm18 an18 cd18 ct18), sl18⟩)
    (c18 : PySem.W.codeIn K cd18 "_law_draw" = true)
    (k18 : PySem.W.keepIn K (.ref f18) = true)
    (a19 : PySem.W.nsIn K mainGlobals "_law_exact" = some (some (.ref f19)))
    (l19 : K.lookup f19 = some ⟨oc19, od19, .func (PySem.W.fnOf "_law_exact" "_law_exact" (defArgs s__law_exact) (defBody s__law_exact) (defScope s__law_exact) .none kV19 dc19 pm19 an19 cd19 ct19), sl19⟩)
    (c19 : PySem.W.codeIn K cd19 "_law_exact" = true)
    (k19 : PySem.W.keepIn K (.ref f19) = true)
    (a20 : PySem.W.nsIn K mainGlobals "_law_relisted" = some (some (.ref f20)))
    (l20 : K.lookup f20 = some ⟨oc20, od20, .func (PySem.W.fnOf "_law_relisted" "_law_relisted" (defArgs s__law_relisted) (defBody s__law_relisted) (defScope s__law_relisted) .none kV20 dc20 pm20 an20 cd20 ct20), sl20⟩)
    (c20 : PySem.W.codeIn K cd20 "_law_relisted" = true)
    (k20 : PySem.W.keepIn K (.ref f20) = true)
    (a21 : PySem.W.nsIn K mainGlobals "_law_any_kind" = some (some (.ref f21)))
    (l21 : K.lookup f21 = some ⟨oc21, od21, .func (PySem.W.fnOf "_law_any_kind" "_law_any_kind" (defArgs s__law_any_kind) (defBody s__law_any_kind) (defScope s__law_any_kind) .none kV21 dc21 pm21 an21 cd21 ct21), sl21⟩)
    (c21 : PySem.W.codeIn K cd21 "_law_any_kind" = true)
    (k21 : PySem.W.keepIn K (.ref f21) = true)
    (a22 : PySem.W.nsIn K mainGlobals "_law_led_to" = some (some (.ref f22)))
    (l22 : K.lookup f22 = some ⟨oc22, od22, .func (PySem.W.fnOf "_law_led_to" "_law_led_to" (defArgs s__law_led_to) (defBody s__law_led_to) (defScope s__law_led_to) .none kV22 dc22 pm22 an22 cd22 ct22), sl22⟩)
    (c22 : PySem.W.codeIn K cd22 "_law_led_to" = true)
    (k22 : PySem.W.keepIn K (.ref f22) = true)
    (a23 : PySem.W.nsIn K mainGlobals "_law_kind_has" = some (some (.ref f23)))
    (l23 : K.lookup f23 = some ⟨oc23, od23, .func (PySem.W.fnOf "_law_kind_has" "_law_kind_has" (defArgs s__law_kind_has) (defBody s__law_kind_has) (defScope s__law_kind_has) .none kV23 dc23 pm23 an23 cd23 ct23), sl23⟩)
    (c23 : PySem.W.codeIn K cd23 "_law_kind_has" = true)
    (k23 : PySem.W.keepIn K (.ref f23) = true)
    (a24 : PySem.W.nsIn K mainGlobals "_law_wrong_steps" = some (some (.ref f24)))
    (l24 : K.lookup f24 = some ⟨oc24, od24, .func (PySem.W.fnOf "_law_wrong_steps" "_law_wrong_steps" (defArgs s__law_wrong_steps) (defBody s__law_wrong_steps) (defScope s__law_wrong_steps) .none kV24 dc24 pm24 an24 cd24 ct24), sl24⟩)
    (c24 : PySem.W.codeIn K cd24 "_law_wrong_steps" = true)
    (k24 : PySem.W.keepIn K (.ref f24) = true)
    (a25 : PySem.W.nsIn K mainGlobals "law" = some (some (.ref f25)))
    (l25 : K.lookup f25 = some ⟨oc25, od25, .func (PySem.W.fnOf "law" "law" (defArgs s_law) (defBody s_law) (defScope s_law) .none kV25 dc25 pm25 an25 cd25 ct25), sl25⟩)
    (c25 : PySem.W.codeIn K cd25 "law" = true)
    (k25 : PySem.W.keepIn K (.ref f25) = true)
    (z_len : PySem.W.nsIn K mainGlobals "len" = some none)
    (z_isinstance : PySem.W.nsIn K mainGlobals "isinstance" = some none)
    (z_range : PySem.W.nsIn K mainGlobals "range" = some none)
    (z_tuple : PySem.W.nsIn K mainGlobals "tuple" = some none)
    (z_list : PySem.W.nsIn K mainGlobals "list" = some none)
    (z_str : PySem.W.nsIn K mainGlobals "str" = some none)
    (z_int : PySem.W.nsIn K mainGlobals "int" = some none)
    (z_bool : PySem.W.nsIn K mainGlobals "bool" = some none)
    (z_all : PySem.W.nsIn K mainGlobals "all" = some none)
    (z_any : PySem.W.nsIn K mainGlobals "any" = some none)
    (xC : K.lookup C = some (excClassObj nm q C N bs bm true sn sub ab col dd m0 m1 m2 m3 m5 "ValueError.__new__"))
    (xb : PySem.HandSPX.refsVE bm = true)
    (sa : PySem.W.findIn K (.ref C) "__setattr__" = some (some (.builtin "object.__setattr__")))
    (ec : PySem.W.subIn K (.ref C) (.type "BaseException") = some true)
    (tc : PySem.W.typeIn K (.ref C) = some (.type "type"))
    (kc : PySem.W.keepIn K (.ref C) = true)
    (nw : PySem.W.findIn K (.ref C) "what" = some none)
    (ti : PySem.W.typeIn K (.ref f0) = some (.type "function"))
    (ga : PySem.W.findIn K (.ref C) "__getattribute__" = some (some (.builtin "BaseException.__getattribute__")))
    (gg : PySem.W.findIn K (.ref C) "__getattr__" = some none)
    (gc : PySem.W.findIn K (.ref C) "__class__" = some (some (.builtin "object.__class__")))
    (sp : PySem.W.specialIn K (.builtin "object.__class__") "__get__" = some (some (.builtin "getset_descriptor.__get__")))
    (tk : PySem.W.takesIn K (.builtin "object.__class__") = some true)
    (ob : PySem.W.mroIn K C (.type "object") = some true)
    (xm : PySem.W.exmOne K (.ref C) (.ref C) = some true)
    (ko : PySem.W.kitOne K (.ref C) (.ref C) = some true)
    (yC : K.lookup C2 = some (excClassObj nm2 q2 C2 N2 bs2 bm2 true sn2 sub2 ab2 col2 dd2 x0 x1 x2 x3 x5 "ValueError.__new__"))
    (yb : PySem.HandSPX.refsVE bm2 = true)
    (ysa : PySem.W.findIn K (.ref C2) "__setattr__" = some (some (.builtin "object.__setattr__")))
    (yec : PySem.W.subIn K (.ref C2) (.type "BaseException") = some true)
    (ytc : PySem.W.typeIn K (.ref C2) = some (.type "type"))
    (ykc : PySem.W.keepIn K (.ref C2) = true)
    (ynw : PySem.W.findIn K (.ref C2) "steps" = some none)
    (yti : PySem.W.typeIn K (.ref f1) = some (.type "function"))
    (yga : PySem.W.findIn K (.ref C2) "__getattribute__" = some (some (.builtin "BaseException.__getattribute__")))
    (ygg : PySem.W.findIn K (.ref C2) "__getattr__" = some none)
    (yhd : PySem.W.hasDictIn K C2 = true)
    (yxm : PySem.W.exmOne K (.ref C2) (.ref C2) = some true)
    (s1 : PySem.W.nsIn K mainGlobals "LETTERS" = some (some (.str (Str.ofString "abcdefghijklmnopqrstuvwxyz") t1)))
    (s2 : PySem.W.nsIn K mainGlobals "SIGNS" = some (some (.str (Str.ofString "abcdefghijklmnopqrstuvwxyz0123456789") t2)))
    (sB : PySem.W.nsIn K mainGlobals "BASES" = some (some (.ref aB)))
    (lB : K.lookup aB = some ⟨cB, dB, .seq iB nB, slB⟩)
    (hB : cB = .type "tuple")
    (vB : Vals [V.str "int", .str "text", .str "truth"] iB.toList)
    : ∃ fd : FuncData, (∀ (s : Shared) (u : Value), BindsTo s fd ⟨[u], []⟩ [("_law_script", u)]) ∧ ∀ base : Heap, K.In base → base.Ns mainGlobals mg → FnOk P w K mg base CX0 60 fa fd ["_law_script"] (spLaw K) := by
  have e := hfa.symm.trans (PySem.W.mg_of X G a25)
  obtain rfl : f25 = fa := by
    cases e
    rfl
  have T : Txt K mg { a_BadKind___init__ := f0, f_BadKind___init__ := (PySem.W.fnOf "__init__" "BadKind.__init__" (defArgs s_BadKind___init__) (defBody s_BadKind___init__) (defScope s_BadKind___init__) .none kV0 dc0 pm0 an0 cd0 ct0), a_NoPlace___init__ := f1, f_NoPlace___init__ := (PySem.W.fnOf "__init__" "NoPlace.__init__" (defArgs s_NoPlace___init__) (defBody s_NoPlace___init__) (defScope s_NoPlace___init__) .none kV1 dc1 pm1 an1 cd1 ct1), a_is_name := f2, f_is_name := (PySem.W.fnOf "is_name" "is_name" (defArgs s_is_name) (defBody s_is_name) (defScope s_is_name) .none kV2 dc2 pm2 an2 cd2 ct2), a_is_whole := f3, f_is_whole := (PySem.W.fnOf "is_whole" "is_whole" (defArgs s_is_whole) (defBody s_is_whole) (defScope s_is_whole) .none kV3 dc3 pm3 an3 cd3 ct3), a_is_row := f4, f_is_row := (PySem.W.fnOf "is_row" "is_row" (defArgs s_is_row) (defBody s_is_row) (defScope s_is_row) .none kV4 dc4 pm4 an4 cd4 ct4), a_check_couples := f5, f_check_couples := (PySem.W.fnOf "check_couples" "check_couples" (defArgs s_check_couples) (defBody s_check_couples) (defScope s_check_couples) .none kV5 dc5 pm5 an5 cd5 ct5), a_checked_kind := f6, f_checked_kind := (PySem.W.fnOf "checked_kind" "checked_kind" (defArgs s_checked_kind) (defBody s_checked_kind) (defScope s_checked_kind) .none kV6 dc6 pm6 an6 cd6 ct6), a_check_kind := f7, f_check_kind := (PySem.W.fnOf "check_kind" "check_kind" (defArgs s_check_kind) (defBody s_check_kind) (defScope s_check_kind) .none kV7 dc7 pm7 an7 cd7 ct7), a_is_base := f8, f_is_base := (PySem.W.fnOf "is_base" "is_base" (defArgs s_is_base) (defBody s_is_base) (defScope s_is_base) .none kV8 dc8 pm8 an8 cd8 ct8), a_has_word := f9, f_has_word := (PySem.W.fnOf "has_word" "has_word" (defArgs s_has_word) (defBody s_has_word) (defScope s_has_word) .none kV9 dc9 pm9 an9 cd9 ct9), a_has_open := f10, f_has_open := (PySem.W.fnOf "has_open" "has_open" (defArgs s_has_open) (defBody s_has_open) (defScope s_has_open) .none kV10 dc10 pm10 an10 cd10 ct10), a_has_function := f11, f_has_function := (PySem.W.fnOf "has_function" "has_function" (defArgs s_has_function) (defBody s_has_function) (defScope s_has_function) .none kV11 dc11 pm11 an11 cd11 ct11), a_is_answer_kind := f12, f_is_answer_kind := (PySem.W.fnOf "is_answer_kind" "is_answer_kind" (defArgs s_is_answer_kind) (defBody s_is_answer_kind) (defScope s_is_answer_kind) .none kV12 dc12 pm12 an12 cd12 ct12), a_list_places := f13, f_list_places := (PySem.W.fnOf "list_places" "list_places" (defArgs s_list_places) (defBody s_list_places) (defScope s_list_places) .none kV13 dc13 pm13 an13 cd13 ct13), a_ask_count := f14, f_ask_count := (PySem.W.fnOf "ask_count" "ask_count" (defArgs s_ask_count) (defBody s_ask_count) (defScope s_ask_count) .none kV14 dc14 pm14 an14 cd14 ct14), a_kind_at := f15, f_kind_at := (PySem.W.fnOf "kind_at" "kind_at" (defArgs s_kind_at) (defBody s_kind_at) (defScope s_kind_at) .none kV15 dc15 pm15 an15 cd15 ct15), a_flat_paths := f16, f_flat_paths := (PySem.W.fnOf "flat_paths" "flat_paths" (defArgs s_flat_paths) (defBody s_flat_paths) (defScope s_flat_paths) .none kV16 dc16 pm16 an16 cd16 ct16), a__law_pool := f17, f__law_pool := (PySem.W.fnOf "_law_pool" "_law_pool" (defArgs s__law_pool) (defBody s__law_pool) (defScope s__law_pool) .none kV17 dc17 pm17 an17 cd17 ct17), a__law_draw := f18, f__law_draw := (PySem.W.fnOf "_law_draw" "_law_draw" (defArgs s__law_draw) (defBody s__law_draw) (defScope s__law_draw) .none kV18 dc18 pm18 an18 cd18 ct18), a__law_exact := f19, f__law_exact := (PySem.W.fnOf "_law_exact" "_law_exact" (defArgs s__law_exact) (defBody s__law_exact) (defScope s__law_exact) .none kV19 dc19 pm19 an19 cd19 ct19), a__law_relisted := f20, f__law_relisted := (PySem.W.fnOf "_law_relisted" "_law_relisted" (defArgs s__law_relisted) (defBody s__law_relisted) (defScope s__law_relisted) .none kV20 dc20 pm20 an20 cd20 ct20), a__law_any_kind := f21, f__law_any_kind := (PySem.W.fnOf "_law_any_kind" "_law_any_kind" (defArgs s__law_any_kind) (defBody s__law_any_kind) (defScope s__law_any_kind) .none kV21 dc21 pm21 an21 cd21 ct21), a__law_led_to := f22, f__law_led_to := (PySem.W.fnOf "_law_led_to" "_law_led_to" (defArgs s__law_led_to) (defBody s__law_led_to) (defScope s__law_led_to) .none kV22 dc22 pm22 an22 cd22 ct22), a__law_kind_has := f23, f__law_kind_has := (PySem.W.fnOf "_law_kind_has" "_law_kind_has" (defArgs s__law_kind_has) (defBody s__law_kind_has) (defScope s__law_kind_has) .none kV23 dc23 pm23 an23 cd23 ct23), a__law_wrong_steps := f24, f__law_wrong_steps := (PySem.W.fnOf "_law_wrong_steps" "_law_wrong_steps" (defArgs s__law_wrong_steps) (defBody s__law_wrong_steps) (defScope s__law_wrong_steps) .none kV24 dc24 pm24 an24 cd24 ct24), a_law := f25, f_law := (PySem.W.fnOf "law" "law" (defArgs s_law) (defBody s_law) (defScope s_law) .none kV25 dc25 pm25 an25 cd25 ct25), c_BadKind := C, t_LETTERS := t1, t_SIGNS := t2, c_NoPlace := C2, a_BASES := aB } := { F_BadKind___init__ := fun_mk (st := s_BadKind___init__) l0 c0 k0, b_BadKind___init__ := (fun_mk (st := s_BadKind___init__) l0 c0 k0).binds (ps := ["self"]) (fun _ _ _ _ _ _ us hl => match us, hl with | [_], _ => rfl), F_NoPlace___init__ := fun_mk (st := s_NoPlace___init__) l1 c1 k1, b_NoPlace___init__ := (fun_mk (st := s_NoPlace___init__) l1 c1 k1).binds (ps := ["self", "steps"]) (fun _ _ _ _ _ _ us hl => match us, hl with | [_, _], _ => rfl), F_is_name := fun_mk (st := s_is_name) l2 c2 k2, b_is_name := (fun_mk (st := s_is_name) l2 c2 k2).binds (ps := ["thing"]) (fun _ _ _ _ _ _ us hl => match us, hl with | [_], _ => rfl), g_is_name := PySem.W.mg_of X G a2, F_is_whole := fun_mk (st := s_is_whole) l3 c3 k3, b_is_whole := (fun_mk (st := s_is_whole) l3 c3 k3).binds (ps := ["thing"]) (fun _ _ _ _ _ _ us hl => match us, hl with | [_], _ => rfl), g_is_whole := PySem.W.mg_of X G a3, F_is_row := fun_mk (st := s_is_row) l4 c4 k4, b_is_row := (fun_mk (st := s_is_row) l4 c4 k4).binds (ps := ["thing", "size"]) (fun _ _ _ _ _ _ us hl => match us, hl with | [_, _], _ => rfl), g_is_row := PySem.W.mg_of X G a4, F_check_couples := fun_mk (st := s_check_couples) l5 c5 k5, b_check_couples := (fun_mk (st := s_check_couples) l5 c5 k5).binds (ps := ["couples", "deep"]) (fun _ _ _ _ _ _ us hl => match us, hl with | [_, _], _ => rfl), g_check_couples := PySem.W.mg_of X G a5, F_checked_kind := fun_mk (st := s_checked_kind) l6 c6 k6, b_checked_kind := (fun_mk (st := s_checked_kind) l6 c6 k6).binds (ps := ["kind", "deep"]) (fun _ _ _ _ _ _ us hl => match us, hl with | [_, _], _ => rfl), g_checked_kind := PySem.W.mg_of X G a6, F_check_kind := fun_mk (st := s_check_kind) l7 c7 k7, b_check_kind := (fun_mk (st := s_check_kind) l7 c7 k7).binds (ps := ["kind"]) (fun _ _ _ _ _ _ us hl => match us, hl with | [_], _ => rfl), g_check_kind := PySem.W.mg_of X G a7, F_is_base := fun_mk (st := s_is_base) l8 c8 k8, b_is_base := (fun_mk (st := s_is_base) l8 c8 k8).binds (ps := ["kind"]) (fun _ _ _ _ _ _ us hl => match us, hl with | [_], _ => rfl), g_is_base := PySem.W.mg_of X G a8, F_has_word := fun_mk (st := s_has_word) l9 c9 k9, b_has_word := (fun_mk (st := s_has_word) l9 c9 k9).binds (ps := ["kind", "word"]) (fun _ _ _ _ _ _ us hl => match us, hl with | [_, _], _ => rfl), g_has_word := PySem.W.mg_of X G a9, F_has_open := fun_mk (st := s_has_open) l10 c10 k10, b_has_open := (fun_mk (st := s_has_open) l10 c10 k10).binds (ps := ["kind"]) (fun _ _ _ _ _ _ us hl => match us, hl with | [_], _ => rfl), g_has_open := PySem.W.mg_of X G a10, F_has_function := fun_mk (st := s_has_function) l11 c11 k11, b_has_function := (fun_mk (st := s_has_function) l11 c11 k11).binds (ps := ["kind"]) (fun _ _ _ _ _ _ us hl => match us, hl with | [_], _ => rfl), g_has_function := PySem.W.mg_of X G a11, F_is_answer_kind := fun_mk (st := s_is_answer_kind) l12 c12 k12, b_is_answer_kind := (fun_mk (st := s_is_answer_kind) l12 c12 k12).binds (ps := ["kind"]) (fun _ _ _ _ _ _ us hl => match us, hl with | [_], _ => rfl), g_is_answer_kind := PySem.W.mg_of X G a12, F_list_places := fun_mk (st := s_list_places) l13 c13 k13, b_list_places := (fun_mk (st := s_list_places) l13 c13 k13).binds (ps := ["kind"]) (fun _ _ _ _ _ _ us hl => match us, hl with | [_], _ => rfl), g_list_places := PySem.W.mg_of X G a13, F_ask_count := fun_mk (st := s_ask_count) l14 c14 k14, b_ask_count := (fun_mk (st := s_ask_count) l14 c14 k14).binds (ps := ["kind"]) (fun _ _ _ _ _ _ us hl => match us, hl with | [_], _ => rfl), g_ask_count := PySem.W.mg_of X G a14, F_kind_at := fun_mk (st := s_kind_at) l15 c15 k15, b_kind_at := (fun_mk (st := s_kind_at) l15 c15 k15).binds (ps := ["kind", "steps"]) (fun _ _ _ _ _ _ us hl => match us, hl with | [_, _], _ => rfl), g_kind_at := PySem.W.mg_of X G a15, F_flat_paths := fun_mk (st := s_flat_paths) l16 c16 k16, b_flat_paths := (fun_mk (st := s_flat_paths) l16 c16 k16).binds (ps := ["kind"]) (fun _ _ _ _ _ _ us hl => match us, hl with | [_], _ => rfl), g_flat_paths := PySem.W.mg_of X G a16, F__law_pool := fun_mk (st := s__law_pool) l17 c17 k17, b__law_pool := (fun_mk (st := s__law_pool) l17 c17 k17).binds (ps := ["_law_script", "_law_at"]) (fun _ _ _ _ _ _ us hl => match us, hl with | [_, _], _ => rfl), g__law_pool := PySem.W.mg_of X G a17, F__law_draw := fun_mk (st := s__law_draw) l18 c18 k18, b__law_draw := (fun_mk (st := s__law_draw) l18 c18 k18).binds (ps := ["_law_pool_here", "_law_many"]) (fun _ _ _ _ _ _ us hl => match us, hl with | [_, _], _ => rfl), g__law_draw := PySem.W.mg_of X G a18, F__law_exact := fun_mk (st := s__law_exact) l19 c19 k19, b__law_exact := (fun_mk (st := s__law_exact) l19 c19 k19).binds (ps := ["_law_told", "_law_due"]) (fun _ _ _ _ _ _ us hl => match us, hl with | [_, _], _ => rfl), g__law_exact := PySem.W.mg_of X G a19, F__law_relisted := fun_mk (st := s__law_relisted) l20 c20 k20, b__law_relisted := (fun_mk (st := s__law_relisted) l20 c20 k20).binds (ps := ["_law_thing"]) (fun _ _ _ _ _ _ us hl => match us, hl with | [_], _ => rfl), g__law_relisted := PySem.W.mg_of X G a20, F__law_any_kind := fun_mk (st := s__law_any_kind) l21 c21 k21, b__law_any_kind := (fun_mk (st := s__law_any_kind) l21 c21 k21).binds (ps := ["_law_pool_here", "_law_left"]) (fun _ _ _ _ _ _ us hl => match us, hl with | [_, _], _ => rfl), g__law_any_kind := PySem.W.mg_of X G a21, F__law_led_to := fun_mk (st := s__law_led_to) l22 c22 k22, b__law_led_to := (fun_mk (st := s__law_led_to) l22 c22 k22).binds (ps := ["_law_kind", "_law_steps"]) (fun _ _ _ _ _ _ us hl => match us, hl with | [_, _], _ => rfl), g__law_led_to := PySem.W.mg_of X G a22, F__law_kind_has := fun_mk (st := s__law_kind_has) l23 c23 k23, b__law_kind_has := (fun_mk (st := s__law_kind_has) l23 c23 k23).binds (ps := ["_law_kind", "_law_word"]) (fun _ _ _ _ _ _ us hl => match us, hl with | [_, _], _ => rfl), g__law_kind_has := PySem.W.mg_of X G a23, F__law_wrong_steps := fun_mk (st := s__law_wrong_steps) l24 c24 k24, b__law_wrong_steps := (fun_mk (st := s__law_wrong_steps) l24 c24 k24).binds (ps := ["_law_kind", "_law_steps"]) (fun _ _ _ _ _ _ us hl => match us, hl with | [_, _], _ => rfl), g__law_wrong_steps := PySem.W.mg_of X G a24, F_law := fun_mk (st := s_law) l25 c25 k25, b_law := (fun_mk (st := s_law) l25 c25 k25).binds (ps := ["_law_script"]) (fun _ _ _ _ _ _ us hl => match us, hl with | [_], _ => rfl), g_law := PySem.W.mg_of X G a25, b_len := PySem.W.mg_none_of X G z_len, b_isinstance := PySem.W.mg_none_of X G z_isinstance, b_range := PySem.W.mg_none_of X G z_range, b_tuple := PySem.W.mg_none_of X G z_tuple, b_list := PySem.W.mg_none_of X G z_list, b_str := PySem.W.mg_none_of X G z_str, b_int := PySem.W.mg_none_of X G z_int, b_bool := PySem.W.mg_none_of X G z_bool, b_all := PySem.W.mg_none_of X G z_all, b_any := PySem.W.mg_none_of X G z_any, g_LETTERS := PySem.W.mg_of X G s1, g_SIGNS := PySem.W.mg_of X G s2, g_BASES := PySem.W.mg_of X G sB, x_BadKind := ⟨⟨nm, q, N, bs, bm, sn, sub, ab, col, dd, m0, m1, m2, m3, m5, xC, xb⟩, sa, ec, tc, kc⟩, n_what := nw, i_BadKind := a0, t_BadKind := ti, g_BadKind := PySem.W.mg_of X G aC, m_BadKind := xm, s_BadKind := ⟨(by unfold PySem.W.clsIn; rw [xC]; rfl), ga, gg, ec, gc, sp, tk, ob⟩, o_BadKind := ko, x_NoPlace := ⟨⟨nm2, q2, N2, bs2, bm2, sn2, sub2, ab2, col2, dd2, x0, x1, x2, x3, x5, yC, yb⟩, ysa, yec, ytc, ykc⟩, n_steps := ynw, i_NoPlace := a1, t_NoPlace := yti, g_NoPlace := PySem.W.mg_of X G aD, m_NoPlace := yxm, f_NoPlace := ⟨yga, ygg, yec, yhd⟩, q_BASES := fun H => .inr ⟨_, iB, nB, lB, hB, rfl, (sz_of (by have z := vals_len vB; rw [Array.length_toList] at z; rw [z]; decide)), vB⟩ }
  exact ⟨_, fun s u => .of_eq rfl, fun base _ _ => ok_law T⟩
theorem walkK {l : PySem.W.OpenLaw} {q : Program} {loose : List Str} {XP : (Str → Option Value) → Heap → Prop} {YP : World → Heap → Prop} {d : DefRec} {K : Params → PySem.W.Frag} (hn : l.most = some 63) (hdf : d.params.defaults = [])
    (hY : ∀ (w : World) (h : Heap), YP w h → (K w.params).In h)
    (F : ∀ (w : World) (mg : Str → Option Value) (fa : Addr) (h : Heap), (K w.params).In h → h.Ns mainGlobals mg → mg d.name = some (.ref fa) →
      ∃ fd : FuncData, (∀ (s : Shared) (u : Value), BindsTo s fd ⟨[u], []⟩ [("_law_script", u)]) ∧ ∀ base : Heap, (K w.params).In base → base.Ns mainGlobals mg → FnOk l.prog w (K w.params) mg base CX0 60 fa fd ["_law_script"] (spLaw (K w.params))) :
    PySem.W.WalkO q loose XP YP l.row.toRowW d [] (fun f vs => PySem.call f vs) := by
  refine Att.attach_call hn hdf fun w s₀ s₁ mg mb fa o pm cd doc a vs ns G Y ho hd hcd hmg hobj hints hlen hg => ?_
  obtain ⟨fd, hb, hF⟩ := F w mg fa _ (hY w _ Y) G.T.g hmg
  exact law_call (hY w _ Y) G.T.g G.T.b G.T.builtins G.T.nolimit hg hobj hints (Nat.le_trans hlen (by decide)) ⟨rfl, by decide, by decide⟩ hF hb (fun H _ hS => ⟨a, ns, rfl, hS, hlen, fun _ => rfl⟩) fun _ _ _ z => z
end K1
open PySem PySem.W PyProof.Rows
set_option maxRecDepth 100000 in
set_option maxHeartbeats 0 in
theorem PySem.Challenge.cw_listasks_k00_kinds_and_the_places_of_the_holds : PySem.Challenge.rw_listasks_k00_kinds_and_the_places_of_the.Holds := by
  w_on; o_law; k_head; (case hw => w_witness2)
  k_fill
  refine K1.walkK (l := PySem.Challenge.rw_listasks_k00_kinds_and_the_places_of_the) rfl rfl (fun w h Y => PySem.W.kIn_of Y) ?F
  case F =>
    intro w mg fa h KX G hmg
    refine' K1.all_mk KX G hmg ?aC ?aD ?a0 ?l0 ?c0 ?k0 ?a1 ?l1 ?c1 ?k1 ?a2 ?l2 ?c2 ?k2 ?a3 ?l3 ?c3 ?k3 ?a4 ?l4 ?c4 ?k4 ?a5 ?l5 ?c5 ?k5 ?a6 ?l6 ?c6 ?k6 ?a7 ?l7 ?c7 ?k7 ?a8 ?l8 ?c8 ?k8 ?a9 ?l9 ?c9 ?k9 ?a10 ?l10 ?c10 ?k10 ?a11 ?l11 ?c11 ?k11 ?a12 ?l12 ?c12 ?k12 ?a13 ?l13 ?c13 ?k13 ?a14 ?l14 ?c14 ?k14 ?a15 ?l15 ?c15 ?k15 ?a16 ?l16 ?c16 ?k16 ?a17 ?l17 ?c17 ?k17 ?a18 ?l18 ?c18 ?k18 ?a19 ?l19 ?c19 ?k19 ?a20 ?l20 ?c20 ?k20 ?a21 ?l21 ?c21 ?k21 ?a22 ?l22 ?c22 ?k22 ?a23 ?l23 ?c23 ?k23 ?a24 ?l24 ?c24 ?k24 ?a25 ?l25 ?c25 ?k25 ?z_len ?z_isinstance ?z_range ?z_tuple ?z_list ?z_str ?z_int ?z_bool ?z_all ?z_any ?xC ?xb ?sa ?ec ?tc ?kc ?nw ?ti ?ga ?gg ?gc ?sp ?tk ?ob ?xm ?ko ?yC ?yb ?ysa ?yec ?ytc ?ykc ?ynw ?yti ?yga ?ygg ?yhd ?yxm ?s1 ?s2 ?sB ?lB ?hB ?vB
    (case aC => k_is); (case aD => k_is); (case a0 => k_is); (case l0 => k_is); (case c0 => k_is); (case k0 => k_is); (case a1 => k_is); (case l1 => k_is); (case c1 => k_is); (case k1 => k_is); (case a2 => k_is); (case l2 => k_is); (case c2 => k_is); (case k2 => k_is); (case a3 => k_is); (case l3 => k_is); (case c3 => k_is); (case k3 => k_is); (case a4 => k_is); (case l4 => k_is); (case c4 => k_is); (case k4 => k_is); (case a5 => k_is); (case l5 => k_is); (case c5 => k_is); (case k5 => k_is); (case a6 => k_is); (case l6 => k_is); (case c6 => k_is); (case k6 => k_is); (case a7 => k_is); (case l7 => k_is); (case c7 => k_is); (case k7 => k_is); (case a8 => k_is); (case l8 => k_is); (case c8 => k_is); (case k8 => k_is); (case a9 => k_is); (case l9 => k_is); (case c9 => k_is); (case k9 => k_is); (case a10 => k_is); (case l10 => k_is); (case c10 => k_is); (case k10 => k_is); (case a11 => k_is); (case l11 => k_is); (case c11 => k_is); (case k11 => k_is); (case a12 => k_is); (case l12 => k_is); (case c12 => k_is); (case k12 => k_is); (case a13 => k_is); (case l13 => k_is); (case c13 => k_is); (case k13 => k_is); (case a14 => k_is); (case l14 => k_is); (case c14 => k_is); (case k14 => k_is); (case a15 => k_is); (case l15 => k_is); (case c15 => k_is); (case k15 => k_is); (case a16 => k_is); (case l16 => k_is); (case c16 => k_is); (case k16 => k_is); (case a17 => k_is); (case l17 => k_is); (case c17 => k_is); (case k17 => k_is); (case a18 => k_is); (case l18 => k_is); (case c18 => k_is); (case k18 => k_is); (case a19 => k_is); (case l19 => k_is); (case c19 => k_is); (case k19 => k_is); (case a20 => k_is); (case l20 => k_is); (case c20 => k_is); (case k20 => k_is); (case a21 => k_is); (case l21 => k_is); (case c21 => k_is); (case k21 => k_is); (case a22 => k_is); (case l22 => k_is); (case c22 => k_is); (case k22 => k_is); (case a23 => k_is); (case l23 => k_is); (case c23 => k_is); (case k23 => k_is); (case a24 => k_is); (case l24 => k_is); (case c24 => k_is); (case k24 => k_is); (case a25 => k_is); (case l25 => k_is); (case c25 => k_is); (case k25 => k_is); (case z_len => k_is); (case z_isinstance => k_is); (case z_range => k_is); (case z_tuple => k_is); (case z_list => k_is); (case z_str => k_is); (case z_int => k_is); (case z_bool => k_is); (case z_all => k_is); (case z_any => k_is); (case xC => k_is); (case xb => (first | rfl | decide)); (case sa => k_is); (case ec => k_is); (case tc => k_is); (case kc => k_is); (case nw => k_is); (case ti => k_is); (case ga => k_is); (case gg => k_is); (case gc => k_is); (case sp => k_is); (case tk => k_is); (case ob => k_is); (case xm => (first | k_is | rfl | decide +kernel)); (case ko => (first | k_is | rfl | decide +kernel)); (case yC => k_is); (case yb => (first | rfl | decide)); (case ysa => k_is); (case yec => k_is); (case ytc => k_is); (case ykc => k_is); (case ynw => k_is); (case yti => k_is); (case yga => k_is); (case ygg => k_is); (case yhd => k_is); (case yxm => (first | k_is | rfl | decide +kernel)); (case s1 => k_is); (case s2 => k_is); (case sB => k_is); (case lB => k_is); (case hB => rfl); (case vB => exact .cons ⟨_, rfl⟩ (.cons ⟨_, rfl⟩ (.cons ⟨_, rfl⟩ .nil)))
