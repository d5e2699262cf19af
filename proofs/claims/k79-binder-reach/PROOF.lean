import PyProof.Rows.All
import Wide.All
import OpenK.AllK
import Wide.FinOn
import HandS.ForMost
import HandS.ForExc
import HandS.More
import HandS.Flow
import HandS.IsInst
import HandS.Property
import HandS.ClsMeth
import HandS.Zip
import HandS.Wide
import KE.KTupSum
import HandS.SlotsOwn
import HandS.Style
import HandS.Conv
import HandS.Defaults
import HandS.HeadHook2
import HandS.HeadNt
import HandS.IterNext
import HandS.IterVal
import HandS.OwnIter
import HandS.Star
import HandS.HeadEnd
import PySem.Challenge.RW_datelessrolls_k79_binder_reach
import KE.KStateDown
import Lean
import HandS.Head0
import HandS.Head1
import HandS.Head2

/-! Lay1 -/
set_option Elab.async false
set_option linter.all false
set_option maxRecDepth 100000
set_option maxHeartbeats 4000000
namespace Ly
open PySem PySem.Spec PyProof.Rows L2

/-! ### getters -/
def opt {α : Type} (o : Option α) (k : α → Prop) : Prop := match o with | some v => k v | none => False
@[simp] theorem opt_some {α : Type} {v : α} {k : α → Prop} : opt (some v) k = k v := rfl
@[simp] theorem opt_none {α : Type} {k : α → Prop} : opt none k = False := rfl
theorem opt_of {α : Type} {o : Option α} {v : α} {k : α → Prop} (e : o = some v) (h : k v) : opt o k := by rw [e]; exact h
theorem opt_ex {α : Type} {o : Option α} {k : α → Prop} (h : opt o k) : ∃ v, o = some v ∧ k v := by
  cases o with
  | none => exact h.elim
  | some v => exact ⟨v, rfl, h⟩
def lst? (H : Hp) (a : Addr) : Option (List V) := match H a with
  | some (.lst xs) => some xs
  | some (.frz _ (.lst xs)) => some xs
  | _ => none
def tup? (H : Hp) (a : Addr) : Option (List V) := match H a with
  | some (.tup xs) => some xs
  | some (.frz _ (.tup xs)) => some xs
  | _ => none
def seq? (H : Hp) (a : Addr) : Option (List V) := match H a with
  | some (.lst xs) => some xs
  | some (.frz _ (.lst xs)) => some xs
  | some (.tup xs) => some xs
  | some (.frz _ (.tup xs)) => some xs
  | _ => none
theorem lst?_of {H : Hp} {a : Addr} {xs : List V} (h : H a = some (.lst xs)) : lst? H a = some xs := by unfold lst?; rw [h]
theorem lst?_frz {H : Hp} {a : Addr} {xs : List V} {o : Obj} (h : H a = some (.frz o (.lst xs))) : lst? H a = some xs := by unfold lst?; rw [h]
theorem tup?_of {H : Hp} {a : Addr} {xs : List V} (h : H a = some (.tup xs)) : tup? H a = some xs := by unfold tup?; rw [h]
theorem seq?_of {H : Hp} {a : Addr} {xs : List V} (h : H a = some (.lst xs)) : seq? H a = some xs := by unfold seq?; rw [h]
theorem seq?_oft {H : Hp} {a : Addr} {xs : List V} (h : H a = some (.tup xs)) : seq? H a = some xs := by unfold seq?; rw [h]
theorem lst?_sq {K : PySem.W.Frag} {H : Hp} {a : Addr} {xs : List V} (h : lst? H a = some xs) : SqL K H a xs := by
  unfold lst? at h
  split at h
  · rename_i e; cases h; exact .inl (.inl e)
  · rename_i e; cases h; exact .inl (.inr ⟨_, e⟩)
  · cases h
theorem tup?_sq {K : PySem.W.Frag} {H : Hp} {a : Addr} {xs : List V} (h : tup? H a = some xs) : SqT K H a xs := by
  unfold tup? at h
  split at h
  · rename_i e; cases h; exact .inl (.inl e)
  · rename_i e; cases h; exact .inl (.inr ⟨_, e⟩)
  · cases h
theorem seq?_sq {K : PySem.W.Frag} {H : Hp} {a : Addr} {xs : List V} (h : seq? H a = some xs) : SqL K H a xs ∨ SqT K H a xs := by
  unfold seq? at h
  split at h
  · rename_i e; cases h; exact .inl (.inl (.inl e))
  · rename_i e; cases h; exact .inl (.inl (.inr ⟨_, e⟩))
  · rename_i e; cases h; exact .inr (.inl (.inl e))
  · rename_i e; cases h; exact .inr (.inl (.inr ⟨_, e⟩))
  · cases h

/-! ### imp -/
theorem _root_.L2.PE.imp {X : Cx} {e : Expr} {t t' : TE} (h : PE X e t) (w : ∀ σ H Q, t' σ H Q → t σ H Q) : PE X e t' := ⟨fun pins s σ H Q I q => h.run pins s σ H Q I (w σ H Q q)⟩
theorem _root_.L2.PT.imp {X : Cx} {e : Expr} {t t' : TT} (h : PT X e t) (w : ∀ σ H Q, t' σ H Q → t σ H Q) : PT X e t' := ⟨fun pins s σ H Q I q => h.run pins s σ H Q I (w σ H Q q)⟩
theorem _root_.L2.PW.imp {X : Cx} {e : Expr} {t t' : TT} (h : PW X e t) (w : ∀ σ H Q, t' σ H Q → t σ H Q) : PW X e t' := ⟨fun wh pins s σ H Q I q => h.run wh pins s σ H Q I (w σ H Q q)⟩
theorem _root_.L2.PS.imp {X : Cx} {e : Stmt} {t t' : TS} (h : PS X e t) (w : ∀ D σ H, t' D σ H → t D σ H) : PS X e t' := ⟨fun pins s σ H D I q => h.run pins s σ H D I (w D σ H q)⟩
theorem _root_.L2.OpR.imp {X : Cx} {f : Value → Value → Sem Value} {r r' : R2} (h : OpR X f r) (w : ∀ x y H Q, r' x y H Q → r x y H Q) : OpR X f r' := fun pins s σ H x y v u Q I rx ry q => h pins s σ H x y v u Q I rx ry (w _ _ _ _ q)
theorem _root_.L2.IxR.imp {X : Cx} {r r' : R2} (h : IxR X r) (w : ∀ x y H Q, r' x y H Q → r x y H Q) : IxR X r' := fun a b pins s σ H x y v u Q I rx ry q => h a b pins s σ H x y v u Q I rx ry (w _ _ _ _ q)
theorem _root_.L2.CallR.imp {X : Cx} {f : Value} {r r' : List V → Hp → VK → Prop} (h : CallR X f r) (w : ∀ x H Q, r' x H Q → r x H Q) : CallR X f r' := fun pins s σ H xs us Q I rx q => h pins s σ H xs us Q I rx (w _ _ _ q)
theorem _root_.L2.SlR.imp {X : Cx} {r r' : V → Option Int → Option Int → Hp → VK → Prop} (h : SlR X r) (w : ∀ x a b H Q, r' x a b H Q → r x a b H Q) : SlR X r' := fun pins s σ H x v vl vu lo hi sl Q I rx hs pl pu q => h pins s σ H x v vl vu lo hi sl Q I rx hs pl pu (w _ _ _ _ _ q)
theorem _root_.L2.MtR.imp {X : Cx} {id : String} {r r' : V → List V → Hp → VK → Prop} (h : MtR X id r) (w : ∀ x a H Q, r' x a H Q → r x a H Q) : MtR X id r' := fun pins s σ H x xs v us Q I rx rs q => h pins s σ H x xs v us Q I rx rs (w _ _ _ _ q)
theorem _root_.L2.TruR.imp {X : Cx} {r r' : V → Hp → (Bool → Hp → Prop) → Prop} (h : TruR X r) (w : ∀ x H Q, r' x H Q → r x H Q) : TruR X r' := fun pins s σ H x v Q I rx q => h pins s σ H x v Q I rx (w _ _ _ q)

/-! ### values -/
def wVar (i : Nat) : TE := fun σ H Q => opt σ[i]? fun o => opt o fun v => Q v H
def wC (v : V) : TE := fun _ H Q => Q v H
section
variable {X : Cx}
theorem d_var (i : Nat) {x : Str} {pos : Pos} (hN : X.N[i]? = some x := by rfl) (hv : Vis X.env.scope x := by first | exact Or.inl rfl | exact Or.inr (Or.inl rfl) | exact Or.inr (Or.inr rfl)) (hd : (x == ("__debug__" : Str)) = false := by decide)
    (hcd : (x == ("__classdict__" : Str)) = false := by decide) : PE X (.Name x pos) (wVar i) :=
  (pe_var hN hv hd hcd).imp fun σ H Q q => by
    obtain ⟨o, e, q⟩ := opt_ex q
    obtain ⟨v, e2, q⟩ := opt_ex q
    exact ⟨v, by rw [e, e2], q⟩
theorem d_int {i : Int} {j pos} : PE X (.Constant (.int i) j pos) (wC (.int i)) := pe_int
theorem d_bl {b : Bool} {j pos} : PE X (.Constant (.bool b) j pos) (wC (.bl b)) := pe_bl
theorem d_non {j pos} : PE X (.Constant .none j pos) (wC .non) := pe_non
theorem d_str {x : Str} {j pos} : PE X (.Constant (.str x) j pos) (wC (.str x)) := pe_str
theorem d_glob {x : Str} {v : V} {u : Value} {pos : Pos} (hm : X.mg x = some u) (r : RelV v u) (hg : Gl X x := by rfl) (hd : (x == ("__debug__" : Str)) = false := by decide) : PE X (.Name x pos) (wC v) := pe_glob hg hm r hd

/-! ### operators -/
def addV (x y : V) (H : Hp) (Q : VK) : Prop := match x, y with
  | .int i, .int j => Q (.int (i + j)) H
  | .str i, .str j => i.length + j.length ≤ sizeLine ∧ Q (.str (i ++ j)) H
  | .ref a, .ref b => (match H a, H b with
    | some (.lst xs), some (.lst zs) => xs.length + zs.length ≤ sizeLine ∧ ∀ p, H p = none → Q (.ref p) (upd H p (.lst (xs ++ zs)))
    | _, _ => False)
  | _, _ => False
theorem op_addV : OpR X (binaryOp .Add) addV := ((op_add.or op_add_str).or op_cat).imp fun x y H Q q => by
  unfold addV at q
  split at q
  · exact .inl (.inl ⟨_, _, rfl, rfl, q⟩)
  · exact .inl (.inr ⟨_, _, rfl, rfl, q.1, q.2⟩)
  · split at q
    · rename_i e1 e2; exact .inr ⟨_, _, _, _, rfl, rfl, e1, e2, q.1, q.2⟩
    · exact q.elim
  · exact q.elim
def int2 (x y : V) (k : Int → Int → Prop) : Prop := match x, y with
  | .int i, .int j => k i j
  | _, _ => False
theorem int2_ex {x y : V} {k : Int → Int → Prop} (h : int2 x y k) : ∃ i j, x = .int i ∧ y = .int j ∧ k i j := by
  unfold int2 at h
  split at h
  · exact ⟨_, _, rfl, rfl, h⟩
  · exact h.elim
@[simp] theorem int2_int {i j : Int} {k : Int → Int → Prop} : int2 (.int i) (.int j) k = k i j := rfl
def subV (x y : V) (H : Hp) (Q : VK) : Prop := int2 x y fun i j => Q (.int (i - j)) H
theorem op_subV : OpR X (binaryOp .Sub) subV := op_sub.imp fun x y H Q q => by
  obtain ⟨i, j, rfl, rfl, q⟩ := int2_ex q; exact ⟨_, _, rfl, rfl, q⟩
def mulV (x y : V) (H : Hp) (Q : VK) : Prop := match x, y with
  | .int i, .int j => CMul i j ∧ Q (.int (i * j)) H
  | .ref a, .int k => (match H a with
    | some (.lst xs) => -(2 ^ 63) ≤ k ∧ k < 2 ^ 63 ∧ xs.length * k.toNat ≤ sizeLine ∧ ∀ p, H p = none → Q (.ref p) (upd H p (.lst (List.replicate k.toNat xs).flatten))
    | _ => False)
  | _, _ => False
theorem op_mulV : OpR X (binaryOp .Mult) mulV := (op_mul.or op_rep).imp fun x y H Q q => by
  unfold mulV at q
  split at q
  · exact .inl ⟨_, _, rfl, rfl, q⟩
  · split at q
    · rename_i e; exact .inr ⟨_, _, _, rfl, rfl, e, q⟩
    · exact q.elim
  · exact q.elim
def modV (x y : V) (H : Hp) (Q : VK) : Prop := int2 x y fun i j => 0 < j ∧ Q (.int (i % j)) H
theorem op_modV : OpR X (binaryOp .Mod) modV := op_mod.imp fun x y H Q q => by
  obtain ⟨i, j, rfl, rfl, q⟩ := int2_ex q; exact ⟨_, _, rfl, rfl, q⟩
def divV (x y : V) (H : Hp) (Q : VK) : Prop := int2 x y fun i j => (0 < j ∧ j < 1073741824) ∧ Q (.int (i / j)) H
theorem op_divV : OpR X (binaryOp .FloorDiv) divV := op_fdiv.imp fun x y H Q q => by
  obtain ⟨i, j, rfl, rfl, q⟩ := int2_ex q; exact ⟨_, _, rfl, rfl, q⟩
def shlV (x y : V) (H : Hp) (Q : VK) : Prop := int2 x y fun i j => CPow i j ∧ Q (.int (i * 2 ^ j.toNat)) H
theorem op_shlV : OpR X (binaryOp .LShift) shlV := op_shl.imp fun x y H Q q => by
  obtain ⟨i, j, rfl, rfl, q⟩ := int2_ex q; exact ⟨_, _, rfl, rfl, q⟩
def shrV (x y : V) (H : Hp) (Q : VK) : Prop := int2 x y fun i j => 0 ≤ j ∧ Q (.int (i / 2 ^ j.toNat)) H
theorem op_shrV : OpR X (binaryOp .RShift) shrV := op_shr.imp fun x y H Q q => by
  obtain ⟨i, j, rfl, rfl, q⟩ := int2_ex q; exact ⟨_, _, rfl, rfl, q⟩
def bandV (x y : V) (H : Hp) (Q : VK) : Prop := int2 x y fun i j => Q (.int (Builtin.bitAnd i j)) H
theorem op_bandV : OpR X (binaryOp .BitAnd) bandV := op_and.imp fun x y H Q q => by
  obtain ⟨i, j, rfl, rfl, q⟩ := int2_ex q; exact ⟨_, _, rfl, rfl, q⟩
def wBin (r : R2) (ta tb : TE) : TE := fun σ H Q => ta σ H fun x H1 => tb σ H1 fun y H2 => r x y H2 Q
variable {a b c e : Expr} {ta tb tc : TE} {pos : Pos}
theorem d_bin {op : Operator} {r : R2} (ho : OpR X (binaryOp op) r) (ha : PE X a ta) (hb : PE X b tb) : PE X (.BinOp a op b pos) (wBin r ta tb) := pe_op ho ha hb
def negV (x : V) (H : Hp) (Q : VK) : Prop := match x with
  | .int i => Q (.int (-i)) H
  | _ => False
def wUn (r : V → Hp → VK → Prop) (ta : TE) : TE := fun σ H Q => ta σ H fun x H1 => r x H1 Q
theorem d_neg (ha : PE X a ta) : PE X (.UnaryOp .USub a pos) (wUn negV ta) := (pe_un un_neg ha).imp fun σ H Q q => by
  show ta σ H _
  have : (fun x H1 => negV x H1 Q) = fun x H1 => (rU fun i => V.int (-i)) x H1 Q := by
    funext x H1
    unfold negV rU
    cases x <;> simp
  rw [← this]
  exact q

/-! ### comparisons -/
def ltV (x y : V) (H : Hp) (Q : VK) : Prop := match x, y with
  | .int i, .int j => Q (.bl (decide (i < j))) H
  | .str i, .str j => Q (.bl (decide (i.cps.toList < j.cps.toList))) H
  | _, _ => False
theorem op_ltV : OpR X (compareOp .Lt) ltV := (op_lt.or op_lt_str).imp fun x y H Q q => by
  unfold ltV at q
  split at q
  · exact .inl ⟨_, _, rfl, rfl, q⟩
  · exact .inr ⟨_, _, rfl, rfl, q⟩
  · exact q.elim
def leV (x y : V) (H : Hp) (Q : VK) : Prop := match x, y with
  | .int i, .int j => Q (.bl (decide (i ≤ j))) H
  | .str i, .str j => Q (.bl (!decide (j.cps.toList < i.cps.toList))) H
  | _, _ => False
theorem op_leV : OpR X (compareOp .LtE) leV := (op_le.or op_le_str).imp fun x y H Q q => by
  unfold leV at q
  split at q
  · exact .inl ⟨_, _, rfl, rfl, q⟩
  · exact .inr ⟨_, _, rfl, rfl, q⟩
  · exact q.elim
def gtV (x y : V) (H : Hp) (Q : VK) : Prop := int2 x y fun i j => Q (.bl (decide (j < i))) H
theorem op_gtV : OpR X (compareOp .Gt) gtV := op_gt.imp fun x y H Q q => by
  obtain ⟨i, j, rfl, rfl, q⟩ := int2_ex q; exact ⟨_, _, rfl, rfl, q⟩
def geV (x y : V) (H : Hp) (Q : VK) : Prop := int2 x y fun i j => Q (.bl (decide (j ≤ i))) H
theorem op_geV : OpR X (compareOp .GtE) geV := op_ge.imp fun x y H Q q => by
  obtain ⟨i, j, rfl, rfl, q⟩ := int2_ex q; exact ⟨_, _, rfl, rfl, q⟩
/-- == of scalars -/
def eqSV (x y : V) (H : Hp) (Q : VK) : Prop := scal x y = true ∧ Q (.bl (decide (x = y))) H
theorem op_eqSV : OpR X (compareOp .Eq) eqSV := op_eq
def neSV (x y : V) (H : Hp) (Q : VK) : Prop := scal x y = true ∧ Q (.bl (!decide (x = y))) H
theorem op_neSV : OpR X (compareOp .NotEq) neSV := op_ne
/-- == of data -/
def eqDV (K : PySem.W.Frag) (x y : V) (H : Hp) (Q : VK) : Prop := ∃ d e, Dp K H x d ∧ Dp K H y e ∧ SeqAt.shaped d = true ∧ SeqAt.shaped e = true ∧ Q (.bl (PyData.eqv d e)) H
theorem op_eqDV (hu : X.A.units + 64 < cLine) : OpR X (compareOp .Eq) (eqDV X.K) := op_eqD hu
def neDV (K : PySem.W.Frag) (x y : V) (H : Hp) (Q : VK) : Prop := ∃ d e, Dp K H x d ∧ Dp K H y e ∧ SeqAt.shaped d = true ∧ SeqAt.shaped e = true ∧ Q (.bl (!PyData.eqv d e)) H
theorem op_neDV (hu : X.A.units + 64 < cLine) : OpR X (compareOp .NotEq) (neDV X.K) := op_neD hu
/-- x in y: flat items of a list or tuple; one sign in a text -/
def inVV (neg : Bool) (x y : V) (H : Hp) (Q : VK) : Prop := match y with
  | .ref p => flatV x = true ∧ opt (seq? H p) fun xs => xs.all flatV = true ∧ Q (.bl (if neg then !inV x xs else inV x xs)) H
  | .str z => (match x with
    | .str c => opt c.cps[0]? fun k => c = ⟨#[k]⟩ ∧ Q (.bl (if neg then !decide (k ∈ z.cps.toList) else decide (k ∈ z.cps.toList))) H
    | _ => False)
  | _ => False
theorem op_inVV : OpR X (compareOp .In) (inVV false) := (op_in_seq.or op_in_sign).imp fun x y H Q q => by
  unfold inVV at q
  split at q
  · obtain ⟨f, q⟩ := q
    obtain ⟨xs, e, fs, q⟩ := opt_ex q
    exact .inl ⟨_, xs, rfl, seq?_sq e, f, fs, q⟩
  · split at q
    · obtain ⟨k, e, ec, q⟩ := opt_ex q
      exact .inr ⟨k, _, by rw [ec], rfl, q⟩
    · exact q.elim
  · exact q.elim
theorem op_ninVV : OpR X (compareOp .NotIn) (inVV true) := (op_notIn_seq.or op_notIn_sign).imp fun x y H Q q => by
  unfold inVV at q
  split at q
  · obtain ⟨f, q⟩ := q
    obtain ⟨xs, e, fs, q⟩ := opt_ex q
    exact .inl ⟨_, xs, rfl, seq?_sq e, f, fs, q⟩
  · split at q
    · obtain ⟨k, e, ec, q⟩ := opt_ex q
      exact .inr ⟨k, _, by rw [ec], rfl, q⟩
    · exact q.elim
  · exact q.elim
def isNV (x y : V) (H : Hp) (Q : VK) : Prop := y = .non ∧ Q (.bl (decide (x = .non))) H
theorem op_isNV : OpR X (compareOp .Is) isNV := op_isN
def notNV (x y : V) (H : Hp) (Q : VK) : Prop := y = .non ∧ Q (.bl (!decide (x = .non))) H
theorem op_notNV : OpR X (compareOp .IsNot) notNV := op_notN
theorem d_cmp {op : CmpOp} {r : R2} (ho : OpR X (compareOp op) r) (ha : PE X a ta) (hb : PE X b tb) (hm : behindInMarks op b = false := by first | exact nomark _ (by decide) (by decide) | rfl) : PE X (.Compare a [op] [b] pos) (wBin r ta tb) := pe_cmpR ho ha hb hm
def toB (x : V) (H : Hp) (Q : Bool → Hp → Prop) : Prop := match x with
  | .bl k => Q k H
  | _ => False
theorem toB_ex {x : V} {H : Hp} {Q : Bool → Hp → Prop} (h : toB x H Q) : ∃ k, x = .bl k ∧ Q k H := by
  unfold toB at h
  split at h
  · exact ⟨_, rfl, h⟩
  · exact h.elim
theorem toB_eq {Q : Bool → Hp → Prop} : (fun x H1 => toB x H1 Q) = fun x H1 => ∃ k, x = .bl k ∧ Q k H1 := by
  funext x H1
  apply propext
  constructor
  · exact toB_ex
  · rintro ⟨k, rfl, q⟩
    exact q
/-- a value that is a bool, as a test -/
def wTB (t : TE) : TT := fun σ H Q => t σ H fun x H1 => toB x H1 Q
theorem t_cmp {op : CmpOp} {r : R2} (ho : OpR X (compareOp op) r) (ha : PE X a ta) (hb : PE X b tb) (hm : behindInMarks op b = false := by first | exact nomark _ (by decide) (by decide) | rfl) : PT X (.Compare a [op] [b] pos) (wTB (wBin r ta tb)) := (pt_cmpR ho ha hb hm).imp fun σ H Q q => by
  unfold wTB at q
  rw [toB_eq] at q
  exact q
/-- a < b < c -/
def wChain (r r' : R2) (ta tb tc : TE) : TE := fun σ H Q => ta σ H fun x H1 => tb σ H1 fun y H2 => r x y H2 fun z H3 => toB z H3 fun k H3 => if k = true then tc σ H3 fun v H4 => r' y v H4 Q else Q (.bl false) H3
end
end Ly

/-! Lay2 -/
set_option Elab.async false
set_option linter.all false
set_option maxRecDepth 100000
set_option maxHeartbeats 4000000
namespace Ly
open PySem PySem.Spec PyProof.Rows L2
section
variable {X : Cx} {a b c e : Expr} {ta tb tc te : TE} {pos : Pos}
theorem wChain_le {r r' : R2} : wChain r r' ta tb tc = tChain r r' ta tb tc := by
  funext σ H Q
  unfold wChain tChain
  simp only [toB_eq]
theorem d_chain {op op' : CmpOp} {r r' : R2} (ho : OpR X (compareOp op) r) (ho' : OpR X (compareOp op') r') (ha : PE X a ta) (hb : PE X b tb) (hc : PE X c tc)
    (hm : lastMarks [op, op'] [b, c] = false := by with_unfolding_all rfl) : PE X (.Compare a [op, op'] [b, c] pos) (wChain r r' ta tb tc) := by
  rw [wChain_le]; exact pe_chain ho ho' ha hb hc hm
theorem t_chain {op op' : CmpOp} {r r' : R2} (ho : OpR X (compareOp op) r) (ho' : OpR X (compareOp op') r') (ha : PE X a ta) (hb : PE X b tb) (hc : PE X c tc)
    (hm : lastMarks [op, op'] [b, c] = false := by with_unfolding_all rfl) : PT X (.Compare a [op, op'] [b, c] pos) (wTB (wChain r r' ta tb tc)) := by
  rw [wChain_le]
  refine (pt_chain ho ho' ha hb hc hm).imp fun σ H Q q => ?_
  unfold wTB at q
  rw [toB_eq] at q
  exact q
/-! ### truth -/
def truV (x : V) (H : Hp) (Q : Bool → Hp → Prop) : Prop := match x with
  | .non => Q false H
  | .bl k => Q k H
  | .int i => Q (i != 0) H
  | .str y => y.length ≤ sizeLine ∧ Q ((y.length : Int) != 0) H
  | .ref p => opt (seq? H p) fun xs => Q (!xs.isEmpty) H
  | _ => False
theorem tru_V : TruR X truV := tru_ok.imp fun x H Q q => by
  unfold truV at q
  unfold TruV
  split at q
  · exact ⟨_, rfl, q⟩
  · exact ⟨_, rfl, q⟩
  · exact ⟨_, rfl, q⟩
  · exact ⟨_, ⟨q.1, rfl⟩, q.2⟩
  · obtain ⟨xs, e, q⟩ := opt_ex q
    rcases seq?_sq (K := X.K) e with h | h
    · exact ⟨_, .inl ⟨_, h, rfl⟩, q⟩
    · exact ⟨_, .inr (.inl ⟨_, h, rfl⟩), q⟩
  · exact q.elim
def wT (t : TE) : TT := fun σ H Q => t σ H fun x H1 => truV x H1 Q
theorem t_val (ha : PE X a ta) (he : ∀ whole, isTrue a X.env whole = (do let v ← whole; standAt a.pos; holding [v] (truthy v)) := by intro _; rfl) : PT X a (wT ta) := by
  refine ⟨fun pins s σ H Q I h => ?_⟩
  rw [he]
  refine wpAny_bind (thn (ha.run pins s σ H _ I h) fun v s1 ⟨x, H1, I1, r1, q1⟩ => ?_)
  exact wpAny_bind (wpAny_standAt (wpAny_holding (tru_V pins _ σ H1 x v Q I1 r1 q1)))
theorem t_not {t : TT} (ha : PT X a t) : PT X (.UnaryOp .Not a pos) (tNot t) := pt_not ha
theorem t_and {t u : TT} {b : Expr} (ha : PT X a t) (hb : PT X b u) : PT X (.BoolOp .And [a, b] pos) (tAnd t u) := (pw_and ha (pw_and1 hb)).pt
theorem t_or {t u : TT} {b : Expr} (ha : PT X a t) (hb : PT X b u) : PT X (.BoolOp .Or [a, b] pos) (tOr t u) := (pw_or ha (pw_or1 hb)).pt
theorem t_and3 {t u v : TT} {b c : Expr} (ha : PT X a t) (hb : PT X b u) (hc : PT X c v) : PT X (.BoolOp .And [a, b, c] pos) (tAnd t (tAnd u v)) := (pw_and ha (pw_and hb (pw_and1 hc))).pt
theorem t_or3 {t u v : TT} {b c : Expr} (ha : PT X a t) (hb : PT X b u) (hc : PT X c v) : PT X (.BoolOp .Or [a, b, c] pos) (tOr t (tOr u v)) := (pw_or ha (pw_or hb (pw_or1 hc))).pt
def wAnd (ta tb : TE) : TE := fun σ H Q => ta σ H fun x H1 => toB x H1 fun k H1 => if k = true then tb σ H1 Q else Q (.bl false) H1
def wOr (ta tb : TE) : TE := fun σ H Q => ta σ H fun x H1 => toB x H1 fun k H1 => if k = true then Q (.bl true) H1 else tb σ H1 Q
def wNot (ta : TE) : TE := fun σ H Q => ta σ H fun x H1 => toB x H1 fun k H1 => Q (.bl (!k)) H1
theorem d_and {b : Expr} (ha : PE X a ta) (hb : PE X b tb) : PE X (.BoolOp .And [a, b] pos) (wAnd ta tb) := (pe_and ha (pe_one hb)).imp fun σ H Q q => by
  unfold wAnd at q; simp only [toB_eq] at q; exact q
theorem d_or {b : Expr} (ha : PE X a ta) (hb : PE X b tb) : PE X (.BoolOp .Or [a, b] pos) (wOr ta tb) := (pe_or ha (pe_one hb)).imp fun σ H Q q => by
  unfold wOr at q; simp only [toB_eq] at q; exact q
theorem d_and3 {b c : Expr} (ha : PE X a ta) (hb : PE X b tb) (hc : PE X c tc) : PE X (.BoolOp .And [a, b, c] pos) (wAnd ta (wAnd tb tc)) := (pe_and ha (pe_and hb (pe_one hc))).imp fun σ H Q q => by
  unfold wAnd at q; simp only [toB_eq] at q; exact q
theorem d_not (ha : PE X a ta) : PE X (.UnaryOp .Not a pos) (wNot ta) := (pe_not ha).imp fun σ H Q q => by
  unfold wNot at q; simp only [toB_eq] at q; exact q
def wIte (t : TT) (ta tb : TE) : TE := tIf t ta tb
theorem d_ite {t : TT} (hc : PT X c t) (ha : PE X a ta) (hb : PE X b tb) : PE X (.IfExp c a b pos) (wIte t ta tb) := pe_ifExp hc ha hb

/-! ### subscripts -/
def idxV (x y : V) (H : Hp) (Q : VK) : Prop := match x, y with
  | .ref p, .int i => opt (seq? H p) fun xs => opt (atI xs i) fun v => Q v H
  | .str z, .int i => z.length ≤ sizeLine ∧ opt (atI z.cps.toList i) fun c => Q (.str ⟨#[c]⟩) H
  | _, _ => False
theorem ix_V : IxR X idxV := ((ix_list.or ix_tup).or ix_str).imp fun x y H Q q => by
  unfold idxV at q
  split at q
  · obtain ⟨xs, e, q⟩ := opt_ex q
    obtain ⟨v, e2, q⟩ := opt_ex q
    rcases seq?_sq (K := X.K) e with h | h
    · exact .inl (.inl ⟨_, _, _, _, rfl, rfl, h, e2, q⟩)
    · exact .inl (.inr ⟨_, _, _, _, rfl, rfl, h, e2, q⟩)
  · obtain ⟨v, e2, q2⟩ := opt_ex q.2
    exact .inr ⟨_, _, _, rfl, rfl, q.1, e2, q2⟩
  · exact q.elim
theorem d_idx (ha : PE X a ta) (hb : PE X b tb) (hs : PlainIx b := by exact fun _ _ => rfl) : PE X (.Subscript a b pos) (wBin idxV ta tb) := pe_ix ix_V ha hb hs
def sliceV (x : V) (lo hi : Option Int) (H : Hp) (Q : VK) : Prop := match x with
  | .ref p => opt (lst? H p) fun xs => ∀ q, H q = none → Q (.ref q) (upd H q (.lst (cutV xs lo hi)))
  | _ => False
theorem sl_V : SlR X sliceV := sl_list.imp fun x lo hi H Q q => by
  unfold sliceV at q
  split at q
  · obtain ⟨xs, e, q⟩ := opt_ex q
    exact ⟨_, _, rfl, lst?_sq e, q⟩
  · exact q.elim
abbrev TOp := L2.St → Hp → (Option Int → Hp → Prop) → Prop
def wNo : TOp := fun _ H Q => Q none H
def wSome (t : TE) : TOp := fun σ H Q => t σ H fun x H1 => match x with
  | .int i => Q (some i) H1
  | _ => False
theorem o_none : PO X none wNo := po_none
theorem o_some {e : Expr} (he : PE X e te) : PO X (some e) (wSome te) := ⟨fun pins s σ H Q I q => (po_some he).run pins s σ H Q I (by
  unfold wSome at q
  unfold tPart
  have : (fun (x : V) H1 => match x with
    | .int i => Q (some i) H1
    | _ => False) = fun x H1 => ∃ i, x = .int i ∧ Q (some i) H1 := by
    funext x H1
    cases x <;> simp
  rw [← this]
  exact q)⟩
def wSlice (te : TE) (tl th : TOp) : TE := fun σ H Q => te σ H fun x H1 => tl σ H1 fun l H2 => th σ H2 fun u H3 => sliceV x l u H3 Q
theorem d_slice {lo hi : Option Expr} {tl th : TOp} {p2 : Pos} (he : PE X e te) (hl : PO X lo tl) (hu : PO X hi th) : PE X (.Subscript e (.Slice lo hi none p2) pos) (wSlice te tl th) := pe_slice sl_V he hl hu

/-! ### displays, arguments -/
theorem a_nil : PA X [] tNil := pa_nil
theorem a_cons {es : List Expr} {t : TA} (ha : PE X e te) (hr : PA X es t) (hs : starEach (e :: es) X.env = (false, eval e X.env) :: starEach es X.env := by rfl) : PA X (e :: es) (tCons te t) := pa_cons ha hr hs
theorem d_list {es : List Expr} {t : TA} (h : PA X es t) : PE X (.List es pos) (tLst t) := pe_lst h
theorem d_tup {es : List Expr} {t : TA} {x1} (h : PA X es t) : PE X (.Tuple es x1 pos) (tTup t) := pe_tup h

/-! ### builtins by name -/
def wCB (r : List V → Hp → VK → Prop) (t : TA) : TE := fun σ H Q => t σ H fun vs H1 => r vs H1 Q
def lenV (vs : List V) (H : Hp) (Q : VK) : Prop := match vs with
  | [.str y] => y.length ≤ sizeLine ∧ Q (.int y.length) H
  | [.ref p] => opt (seq? H p) fun xs => Q (.int xs.length) H
  | _ => False
theorem c_len : CallR X (.builtin "len") lenV := call_len.imp fun vs H Q q => by
  unfold lenV at q
  split at q
  · exact ⟨_, _, rfl, ⟨q.1, rfl⟩, q.2⟩
  · obtain ⟨xs, e, q⟩ := opt_ex q
    rcases seq?_sq (K := X.K) e with h | h
    · exact ⟨_, _, rfl, .inl ⟨_, h, rfl⟩, q⟩
    · exact ⟨_, _, rfl, .inr ⟨_, h, rfl⟩, q⟩
  · exact q.elim
def listV (vs : List V) (H : Hp) (Q : VK) : Prop := match vs with
  | [.ref p] => opt (seq? H p) fun xs => ∀ l, H l = none → Q (.ref l) (upd H l (.lst xs))
  | _ => False
theorem c_list : CallR X (.type "list") listV := call_list_of.imp fun vs H Q q => by
  unfold listV at q
  split at q
  · obtain ⟨xs, e, q⟩ := opt_ex q
    exact ⟨_, _, rfl, seq?_sq e, q⟩
  · exact q.elim
def tupleV (vs : List V) (H : Hp) (Q : VK) : Prop := match vs with
  | [.ref p] => opt (lst? H p) fun xs => ∀ l, H l = none → Q (.ref l) (upd H l (.tup xs))
  | _ => False
theorem c_tuple : CallR X (.type "tuple") tupleV := call_tuple_of.imp fun vs H Q q => by
  unfold tupleV at q
  split at q
  · obtain ⟨xs, e, q⟩ := opt_ex q
    exact ⟨_, _, rfl, .inl ⟨lst?_sq e, q⟩⟩
  · exact q.elim
def intV (vs : List V) (H : Hp) (Q : VK) : Prop := match vs with
  | [.int i] => Q (.int i) H
  | [.bl k] => Q (.int (if k then 1 else 0)) H
  | _ => False
theorem c_int : CallR X (.type "int") intV := call_int1.imp fun vs H Q q => by
  unfold intV at q
  split at q
  · exact .inl ⟨_, rfl, q⟩
  · exact .inr ⟨_, rfl, q⟩
  · exact q.elim
def absVV (vs : List V) (H : Hp) (Q : VK) : Prop := match vs with
  | [.int i] => Q (.int (if i < 0 then -i else i)) H
  | _ => False
theorem c_abs : CallR X (.builtin "abs") absVV := call_abs.imp fun vs H Q q => by
  unfold absVV at q
  split at q
  · exact ⟨_, rfl, q⟩
  · exact q.elim
def ints? : List V → Option (List Int)
  | [] => some []
  | .int i :: r => (ints? r).map (i :: ·)
  | _ => none
theorem ints?_eq : ∀ {xs : List V} {ns : List Int}, ints? xs = some ns → xs = ns.map V.int
  | [], ns, h => by cases h; rfl
  | .int i :: r, ns, h => by
    unfold ints? at h
    cases e : ints? r with
    | none => rw [e] at h; cases h
    | some m => rw [e] at h; cases h; rw [ints?_eq e]; rfl
  | .non :: _, _, h => by cases h
  | .bl _ :: _, _, h => by cases h
  | .str _ :: _, _, h => by cases h
  | .byt _ :: _, _, h => by cases h
  | .flt _ :: _, _, h => by cases h
  | .ref _ :: _, _, h => by cases h
  | .ty _ :: _, _, h => by cases h
@[simp] theorem ints?_map : ∀ (ns : List Int), ints? (ns.map V.int) = some ns
  | [] => rfl
  | i :: r => by
    show (ints? (r.map V.int)).map (i :: ·) = _
    rw [ints?_map r]; rfl
def maxV (vs : List V) (H : Hp) (Q : VK) : Prop := match vs with
  | [.int i, .int j] => Q (.int (if j > i then j else i)) H
  | _ => False
theorem c_max2 (hc : X.calm = true) : CallR X (.builtin "max") maxV := (call_max2 hc).imp fun vs H Q q => by
  unfold maxV at q
  split at q
  · exact ⟨_, _, rfl, q⟩
  · exact q.elim
def minV (vs : List V) (H : Hp) (Q : VK) : Prop := match vs with
  | [.int i, .int j] => Q (.int (if j < i then j else i)) H
  | _ => False
theorem c_min2 (hc : X.calm = true) : CallR X (.builtin "min") minV := (call_min2 hc).imp fun vs H Q q => by
  unfold minV at q
  split at q
  · exact ⟨_, _, rfl, q⟩
  · exact q.elim
def maxLV (vs : List V) (H : Hp) (Q : VK) : Prop := match vs with
  | [.ref a] => opt ((lst? H a).bind ints?) fun ns => 0 < ns.length ∧ ∀ m, m ∈ ns → (∀ y, y ∈ ns → y ≤ m) → Q (.int m) H
  | _ => False
theorem c_maxL (hc : X.calm = true) : CallR X (.builtin "max") maxLV := (cr_max hc).imp fun vs H Q q => by
  unfold maxLV at q
  split at q
  · obtain ⟨ns, e, q⟩ := opt_ex q
    cases e2 : lst? H _ with
    | none => rw [e2] at e; cases e
    | some xs =>
      rw [e2] at e
      exact ⟨_, ns, rfl, by rw [← ints?_eq e]; exact lst?_sq e2, q⟩
  · exact q.elim
end
end Ly

/-! Lay3 -/
set_option Elab.async false
set_option linter.all false
set_option maxRecDepth 100000
set_option maxHeartbeats 4000000
namespace Ly
open PySem PySem.Spec PyProof.Rows L2

/-! ### readings closed upwards -/
def up (t : TE) : TE := fun σ H Q => ∃ Q0 : VK, t σ H Q0 ∧ ∀ v H1, Q0 v H1 → Q v H1
def upT (t : TT) : TT := fun σ H Q => ∃ Q0 : Bool → Hp → Prop, t σ H Q0 ∧ ∀ v H1, Q0 v H1 → Q v H1
def upA (t : TA) : TA := fun σ H Q => ∃ Q0 : List V → Hp → Prop, t σ H Q0 ∧ ∀ v H1, Q0 v H1 → Q v H1
theorem _root_.L2.PE.up {X : Cx} {e : Expr} {t : TE} (h : PE X e t) : PE X e (up t) := ⟨fun pins s σ H Q I ⟨Q0, q, w⟩ => thn (h.run pins s σ H Q0 I q) fun _ _ ⟨v, H', I', r, z⟩ => ⟨v, H', I', r, w _ _ z⟩⟩
theorem _root_.L2.PT.up {X : Cx} {e : Expr} {t : TT} (h : PT X e t) : PT X e (upT t) := ⟨fun pins s σ H Q I ⟨Q0, q, w⟩ => thn (h.run pins s σ H Q0 I q) fun _ _ ⟨H', I', z⟩ => ⟨H', I', w _ _ z⟩⟩
theorem _root_.L2.PA.up {X : Cx} {e : List Expr} {t : TA} (h : PA X e t) : PA X e (upA t) := ⟨fun pos pins s σ H Q I ⟨Q0, q, w⟩ => thn (h.run pos pins s σ H Q0 I q) fun _ _ ⟨v, H', I', r, z⟩ => ⟨v, H', I', r, w _ _ z⟩⟩

/-! ### what a for walks -/
structure FI where
  n : Nat
  ok : Hp → Prop
  get : Nat → Hp → (V → Hp → Prop) → Prop
structure IsFI (J : It) (F : FI) : Prop where
  go : ∀ i H, i < F.n → F.ok H → J.go i H
  stop : ∀ H, F.ok H → J.stop F.n H
  yld : ∀ i H x H', i < F.n → F.ok H → J.yld i H x H' → ∀ Q, F.get i H Q → Q x H'
abbrev TF := L2.St → Hp → (FI → Hp → Prop) → Prop
def PF (X : Cx) (tg iter : Expr) (wi : TF) : Prop := ∃ wi0 : TI, PI X tg iter wi0 ∧ ∀ σ H (R : FI → Hp → Prop) (R0 : It → Hp → Prop), (∀ J F H1, IsFI J F → R F H1 → R0 J H1) → wi σ H R → wi0 σ H R0
/-- the turns, from the i-th on, r of them -/
def forR (F : FI) (g : TG) (tb : TS) (D : Ends) : Nat → Nat → L2.St → Hp → Prop
  | 0, _ => fun σ H => F.ok H ∧ D.nx σ H
  | r + 1, i => fun σ H => F.ok H ∧ F.get i H fun x H1 => g x σ H1 fun σ2 H2 => tb { D with nx := forR F g tb D r (i + 1), ct := forR F g tb D r (i + 1), bk := D.nx } σ2 H2
def wFor (wi : TF) (g : TG) (tb : TS) : TS := fun D σ H => wi σ H fun F H1 => forR F g tb D F.n 0 σ H1
theorem d_for {X : Cx} {tg iter : Expr} {body : List Stmt} {wi : TF} {g : TG} {tb : TS} {pos : Pos} (hp : PassesOwn (model X.prog X.w) X.A X.env X.xe) (hc : X.calm = true) (hi : PF X tg iter wi) (hg : PG X tg g) (hb : PSs X body tb)
    (hs : ∀ x, foldedSetIterable iter X.env x = pure x := by intro _; rfl) : PS X (.For tg iter body [] pos) (wFor wi g tb) := by
  obtain ⟨wi0, pi, w⟩ := hi
  refine (ps_for hp hc pi hg hb hs).imp fun D σ H q => w σ H _ _ (fun J F H1 isf z => ?_) q
  refine ⟨fun i m σ H => m + i = F.n ∧ forR F g tb D m i σ H, ⟨F.n, by omega, z⟩, ?_⟩
  rintro i m σ H ⟨e, z⟩
  cases m with
  | zero =>
    obtain ⟨z1, z2⟩ := z
    have ei : i = F.n := by omega
    subst ei
    exact .inl ⟨isf.stop _ z1, z2⟩
  | succ m =>
    obtain ⟨z1, z2⟩ := z
    refine .inr ⟨isf.go _ _ (by omega) z1, forR F g tb D m (i + 1), fun σ' H' h => ⟨m, by omega, by omega, h⟩, fun x H' y => ?_⟩
    exact isf.yld i H x H' (by omega) z1 y _ z2
/-- an invariant -/
theorem for_inv {F : FI} {g : TG} {tb : TS} {D : Ends} (P : Nat → L2.St → Hp → Prop) {σ : L2.St} {H : Hp} (h0 : P 0 σ H)
    (step : ∀ i σ H (N : L2.St → Hp → Prop), i < F.n → P i σ H → (∀ σ' H', P (i + 1) σ' H' → N σ' H') → F.ok H ∧ F.get i H fun x H1 => g x σ H1 fun σ2 H2 => tb { D with nx := N, ct := N, bk := D.nx } σ2 H2)
    (done : ∀ σ H, P F.n σ H → F.ok H ∧ D.nx σ H) : forR F g tb D F.n 0 σ H := by
  have key : ∀ r i σ H, r + i = F.n → P i σ H → forR F g tb D r i σ H := by
    intro r
    induction r with
    | zero =>
      intro i σ H e p
      have : i = F.n := by omega
      subst this
      exact done σ H p
    | succ r ih =>
      intro i σ H e p
      exact step i σ H _ (by omega) p fun σ' H' p' => ih (i + 1) σ' H' (by omega) p'
  exact key F.n 0 σ H (by omega) h0
/-! ### lists, tuples, ranges, texts -/
def fiL (a : Addr) (xs : List V) : FI := ⟨xs.length, fun H => lst? H a = some xs, fun i H Q => opt xs[i]? fun x => Q x H⟩
def fiT (a : Addr) (xs : List V) : FI := ⟨xs.length, fun H => tup? H a = some xs, fun i H Q => opt xs[i]? fun x => Q x H⟩
def fiR (lo : Int) (n : Nat) : FI := ⟨n, fun _ => True, fun i H Q => Q (.int (lo + i)) H⟩
def fiC (lo c : Int) (n : Nat) : FI := ⟨n, fun _ => True, fun i H Q => Q (.int (lo + (i : Nat) * c)) H⟩
def fiS (z : Str) : FI := ⟨z.cps.size, fun _ => True, fun i H Q => opt z.cps[i]? fun c => Q (.str ⟨#[c]⟩) H⟩
/-- enumerate(list): the pair is a new tuple -/
def fiE (a : Addr) (xs : List V) : FI := ⟨xs.length, fun H => lst? H a = some xs, fun i H Q => opt xs[i]? fun x => ∀ T, H T = none → Q (.ref T) (upd H T (.tup [.int (i : Nat), x]))⟩
def fiZ (a b : Addr) (xs ys : List V) : FI := ⟨min xs.length ys.length, fun H => lst? H a = some xs ∧ lst? H b = some ys, fun i H Q => opt xs[i]? fun x => opt ys[i]? fun y => ∀ T, H T = none → Q (.ref T) (upd H T (.tup [x, y]))⟩
variable {K : PySem.W.Frag}
theorem isF_list {a : Addr} {xs : List V} : IsFI (Itl K a) (fiL a xs) where
  go := fun i H hi ok => by
    have hi' : i < xs.length := hi
    exact ⟨xs, xs[i], lst?_sq ok, by simp [hi']⟩
  stop := fun H ok => ⟨xs, lst?_sq ok, Nat.le_refl _⟩
  yld := fun i H x H' hi ok y Q q => by
    obtain ⟨rfl, h⟩ := y
    have e := h xs (lst?_sq ok)
    have q' : opt xs[i]? fun x => Q x H' := q
    rw [e] at q'
    exact q'
theorem isF_tup {a : Addr} {xs : List V} : IsFI (Itt K a) (fiT a xs) where
  go := fun i H hi ok => by
    have hi' : i < xs.length := hi
    exact ⟨xs, xs[i], tup?_sq ok, by simp [hi']⟩
  stop := fun H ok => ⟨xs, tup?_sq ok, Nat.le_refl _⟩
  yld := fun i H x H' hi ok y Q q => by
    obtain ⟨rfl, h⟩ := y
    have e := h xs (tup?_sq ok)
    have q' : opt xs[i]? fun x => Q x H' := q
    rw [e] at q'
    exact q'
theorem isF_range {lo : Int} {n : Nat} : IsFI (Itr lo n) (fiR lo n) where
  go := fun i H hi _ => hi
  stop := fun H _ => Nat.le_refl _
  yld := fun i H x H' hi ok y Q q => by
    obtain ⟨rfl, rfl⟩ := y
    exact q
theorem isF_rangeC {lo c : Int} {n : Nat} : IsFI (Itc lo c n) (fiC lo c n) where
  go := fun i H hi _ => hi
  stop := fun H _ => Nat.le_refl _
  yld := fun i H x H' hi ok y Q q => by
    obtain ⟨rfl, rfl⟩ := y
    exact q
theorem isF_str {z : Str} : IsFI (Its z) (fiS z) where
  go := fun i H hi _ => hi
  stop := fun H _ => Nat.le_refl _
  yld := fun i H x H' hi ok y Q q => by
    obtain ⟨rfl, c, e, rfl⟩ := y
    have q' : opt z.cps[i]? fun c => Q (.str ⟨#[c]⟩) H' := q
    rw [e] at q'
    exact q'
theorem isF_enum {a : Addr} {xs : List V} : IsFI (Ite K a) (fiE a xs) where
  go := fun i H hi ok => by
    have hi' : i < xs.length := hi
    exact ⟨xs, xs[i], lst?_sq ok, by simp [hi']⟩
  stop := fun H ok => ⟨xs, lst?_sq ok, Nat.le_refl _⟩
  yld := fun i H x H' hi ok y Q q => by
    obtain ⟨T, z, rfl, hT, rfl, h⟩ := y
    have e := h xs (lst?_sq ok)
    have q' : opt xs[i]? fun x => ∀ T, H T = none → Q (.ref T) (upd H T (.tup [.int (i : Nat), x])) := q
    rw [e] at q'
    exact q' T hT
theorem isF_zip {a b : Addr} {xs ys : List V} : IsFI (Itz K a b) (fiZ a b xs ys) where
  go := fun i H hi ok => by
    have hi' : i < min xs.length ys.length := hi
    exact ⟨xs, ys, xs[i]'(by omega), ys[i]'(by omega), lst?_sq ok.1, lst?_sq ok.2, by simp, by simp⟩
  stop := fun H ok => by
    refine ⟨xs, ys, lst?_sq ok.1, lst?_sq ok.2, ?_⟩
    show xs.length ≤ min xs.length ys.length ∨ ys.length ≤ min xs.length ys.length
    omega
  yld := fun i H x H' hi ok y Q q => by
    obtain ⟨T, u, v, rfl, hT, rfl, h1, h2⟩ := y
    have e1 := h1 xs (lst?_sq ok.1)
    have e2 := h2 ys (lst?_sq ok.2)
    have q' : opt xs[i]? fun x => opt ys[i]? fun y => ∀ T, H T = none → Q (.ref T) (upd H T (.tup [x, y])) := q
    rw [e1, e2] at q'
    exact q' T hT
def wIter (te : TE) : TF := fun σ H R => te σ H fun x H1 => match x with
  | .ref a => (match H1 a with
    | some (.lst xs) => R (fiL a xs) H1
    | some (.frz _ (.lst xs)) => R (fiL a xs) H1
    | _ => False)
  | _ => False
def wIterT (te : TE) : TF := fun σ H R => te σ H fun x H1 => match x with
  | .ref a => opt (tup? H1 a) fun xs => R (fiT a xs) H1
  | _ => False
def wIterS (te : TE) : TF := fun σ H R => te σ H fun x H1 => match x with
  | .str z => R (fiS z) H1
  | _ => False
def rngOk (i : Int) : Prop := -(2 ^ 62) ≤ i ∧ i < 2 ^ 62
def wRng1 (te : TE) : TF := fun σ H R => te σ H fun x H1 => match x with
  | .int j => rngOk j ∧ R (fiR 0 j.toNat) H1
  | _ => False
def wRng2 (ta tb : TE) : TF := fun σ H R => ta σ H fun x H1 => tb σ H1 fun y H2 => match x, y with
  | .int i, .int j => (rngOk i ∧ rngOk j) ∧ R (fiR i (j - i).toNat) H2
  | _, _ => False
/-- range(a, b, -1) -/
def wRngD (ta tb : TE) : TF := fun σ H R => ta σ H fun x H1 => tb σ H1 fun y H2 => match x, y with
  | .int i, .int j => (rngOk i ∧ rngOk j) ∧ R (fiC i (-1) (i - j).toNat) H2
  | _, _ => False
def wEnum (te : TE) : TF := fun σ H R => te σ H fun x H1 => match x with
  | .ref a => opt (lst? H1 a) fun xs => R (fiE a xs) H1
  | _ => False
def wZip (ta tb : TE) : TF := fun σ H R => ta σ H fun x H1 => tb σ H1 fun y H2 => match x, y with
  | .ref a, .ref b => opt (lst? H2 a) fun xs => opt (lst? H2 b) fun ys => R (fiZ a b xs ys) H2
  | _, _ => False
section
variable {X : Cx} {tg e e2 : Expr} {te ta tb : TE} {p pos : Pos}
theorem f_list (he : PE X e te) : PF X tg e (wIter te) := ⟨_, pi_list he.up, fun σ H R R0 w q => ⟨_, q, fun x H1 z => by
  split at z
  · split at z
    · rename_i xs e; exact ⟨_, rfl, ⟨xs, .inl (.inl e)⟩, w _ _ _ isF_list z⟩
    · rename_i xs e; exact ⟨_, rfl, ⟨xs, .inl (.inr ⟨_, e⟩)⟩, w _ _ _ isF_list z⟩
    · exact z.elim
  · exact z.elim⟩⟩
theorem f_tup (he : PE X e te) : PF X tg e (wIterT te) := ⟨_, pi_tup he.up, fun σ H R R0 w q => ⟨_, q, fun x H1 z => by
  split at z
  · obtain ⟨xs, e, z⟩ := opt_ex z
    exact ⟨_, rfl, ⟨xs, tup?_sq e⟩, w _ _ _ isF_tup z⟩
  · exact z.elim⟩⟩
theorem f_str (he : PE X e te) : PF X tg e (wIterS te) := ⟨_, pi_str he.up, fun σ H R R0 w q => ⟨_, q, fun x H1 z => by
  split at z
  · exact ⟨_, rfl, w _ _ _ isF_str z⟩
  · exact z.elim⟩⟩
theorem f_rng1 {a : Expr} (hm : X.mg "range" = none) (ha : PE X a ta) (hg : Gl X "range" := by rfl) (hs : starEach [a] X.env = [(false, eval a X.env)] := by rfl) : PF X tg (.Call (.Name "range" p) [a] [] pos) (wRng1 ta) :=
  ⟨_, pi_range1 hg hm (PA.up (pa_cons ha pa_nil hs)) hs, fun σ H R R0 w q => ⟨_, show tCons ta tNil σ H (fun vs H1 => match vs with | [x] => (match x with | .int j => rngOk j ∧ R (fiR 0 j.toNat) H1 | _ => False) | _ => False) from q, fun vs H1 z => by
    split at z
    · split at z
      · exact ⟨_, rfl, z.1.1, z.1.2, w _ _ _ isF_range z.2⟩
      · exact z.elim
    · exact z.elim⟩⟩
theorem f_rng2 {a b : Expr} (hm : X.mg "range" = none) (ha : PE X a ta) (hb : PE X b tb) (hg : Gl X "range" := by rfl) (hs : starEach [a, b] X.env = [(false, eval a X.env), (false, eval b X.env)] := by rfl) (hs2 : starEach [b] X.env = [(false, eval b X.env)] := by rfl) : PF X tg (.Call (.Name "range" p) [a, b] [] pos) (wRng2 ta tb) :=
  ⟨_, pi_range2 hg hm (PA.up (pa_cons ha (pa_cons hb pa_nil hs2) (hs.trans (by rw [hs2])))) hs hs2, fun σ H R R0 w q => ⟨_, show tCons ta (tCons tb tNil) σ H (fun vs H1 => match vs with | [x, y] => (match x, y with | .int i, .int j => (rngOk i ∧ rngOk j) ∧ R (fiR i (j - i).toNat) H1 | _, _ => False) | _ => False) from q, fun vs H1 z => by
    split at z
    · split at z
      · exact ⟨_, _, rfl, ⟨z.1.1.1, z.1.1.2, z.1.2.1, z.1.2.2⟩, w _ _ _ isF_range z.2⟩
      · exact z.elim
    · exact z.elim⟩⟩
theorem f_rngD {a b c : Expr} (hm : X.mg "range" = none) (ha : PE X a ta) (hb : PE X b tb) (hcc : PE X c (wUn negV (wC (.int 1)))) (hg : Gl X "range" := by rfl) (hs : starEach [a, b, c] X.env = (false, eval a X.env) :: starEach [b, c] X.env := by rfl) (hs2 : starEach [b, c] X.env = (false, eval b X.env) :: starEach [c] X.env := by rfl) (hs3 : starEach [c] X.env = (false, eval c X.env) :: starEach [] X.env := by rfl)
    (hpl : (backTo pos (starEach [b, c] X.env)).any (·.1) = false := by rfl) : PF X tg (.Call (.Name "range" p) [a, b, c] [] pos) (wRngD ta tb) :=
  ⟨_, pi_range3 hg hm (PA.up (pa_cons ha (pa_cons hb (pa_cons hcc pa_nil hs3) hs2) hs)) hs hpl, fun σ H R R0 w q => ⟨_, show tCons ta (tCons tb (tCons (wUn negV (wC (.int 1))) tNil)) σ H (fun vs H1 => match vs with | [x, y, c] => c = .int (-1) ∧ (match x, y with | .int i, .int j => (rngOk i ∧ rngOk j) ∧ R (fiC i (-1) (i - j).toNat) H1 | _, _ => False) | _ => False) from (by
      show ta σ H fun x H1 => tb σ H1 fun y H2 => (V.int (-1) = V.int (-1)) ∧ _
      simp only [true_and]
      exact q), fun vs H1 z => by
    split at z
    · obtain ⟨rfl, z⟩ := z
      split at z
      · exact ⟨_, _, _, _, rfl, RgC.neg z.1.1.1 z.1.1.2 z.1.2.1 z.1.2.2, w _ _ _ isF_rangeC z.2⟩
      · exact z.elim
    · exact z.elim⟩⟩
theorem f_enum {elts : List Expr} {kk : Nat} {tpos : Pos} (hm : X.mg "enumerate" = none) (ha : PE X e ta) (hg : Gl X "enumerate" := by rfl) (hs : starEach [e] X.env = [(false, eval e X.env)] := by rfl) : PF X (.Tuple elts kk tpos) (.Call (.Name "enumerate" p) [e] [] pos) (wEnum ta) :=
  ⟨_, pi_enum hg hm (PA.up (pa_cons ha pa_nil hs)) hs, fun σ H R R0 w q => ⟨_, show tCons ta tNil σ H (fun vs H1 => match vs with | [x] => (match x with | .ref a => opt (lst? H1 a) fun xs => R (fiE a xs) H1 | _ => False) | _ => False) from q, fun vs H1 z => by
    split at z
    · split at z
      · obtain ⟨xs, e, z⟩ := opt_ex z
        exact ⟨_, xs, rfl, lst?_sq e, w _ _ _ isF_enum z⟩
      · exact z.elim
    · exact z.elim⟩⟩
theorem f_zip {elts : List Expr} {kk : Nat} {tpos : Pos} (hm : X.mg "zip" = none) (ha : PE X e ta) (hb : PE X e2 tb) (hg : Gl X "zip" := by rfl) (hs : starEach [e, e2] X.env = (false, eval e X.env) :: starEach [e2] X.env := by rfl) (hs2 : starEach [e2] X.env = (false, eval e2 X.env) :: starEach [] X.env := by rfl) (hpl : (backTo pos (starEach [e2] X.env)).any (·.1) = false := by rfl) :
    PF X (.Tuple elts kk tpos) (.Call (.Name "zip" p) [e, e2] [] pos) (wZip ta tb) :=
  ⟨_, pi_zip hg hm (PA.up (pa_cons ha (pa_cons hb pa_nil hs2) hs)) hs hpl, fun σ H R R0 w q => ⟨_, show tCons ta (tCons tb tNil) σ H (fun vs H1 => match vs with | [x, y] => (match x, y with | .ref a, .ref b => opt (lst? H1 a) fun xs => opt (lst? H1 b) fun ys => R (fiZ a b xs ys) H1 | _, _ => False) | _ => False) from q, fun vs H1 z => by
    split at z
    · split at z
      · obtain ⟨xs, e, z⟩ := opt_ex z
        obtain ⟨ys, e2, z⟩ := opt_ex z
        exact ⟨_, _, xs, ys, rfl, lst?_sq e, lst?_sq e2, w _ _ _ isF_zip z⟩
      · exact z.elim
    · exact z.elim⟩⟩
/-! ### while -/
def whR (c : TT) (tb : TS) (D : Ends) : Nat → L2.St → Hp → Prop
  | 0 => fun _ _ => False
  | n + 1 => fun σ H => c σ H fun b H1 => if b = true then tb { D with nx := whR c tb D n, ct := whR c tb D n, bk := D.nx } σ H1 else D.nx σ H1
def wWhile (c : TT) (tb : TS) : TS := fun D σ H => ∃ n, whR c tb D n σ H
theorem d_while {c : Expr} {body : List Stmt} {tc : TT} {tb : TS} (hp : PassesOwn (model X.prog X.w) X.A X.env X.xe) (hc : PT X c tc) (hb : PSs X body tb) : PS X (.While c body [] pos) (wWhile tc tb) := by
  refine (ps_while hp hc.up hb).imp fun D σ H q => ?_
  refine ⟨fun n σ H => whR tc tb D n σ H, q, ?_⟩
  intro m σ H z
  cases m with
  | zero => exact z.elim
  | succ m =>
    refine ⟨_, z, fun b H1 z1 => ?_⟩
    cases b with
    | false => exact z1
    | true =>
      simp only [if_true] at z1 ⊢
      exact ⟨_, fun σ' H' h => ⟨m, Nat.lt_succ_self m, h⟩, z1⟩
theorem while_inv {c : TT} {tb : TS} {D : Ends} (P : L2.St → Hp → Prop) (μ : L2.St → Hp → Nat) {σ : L2.St} {H : Hp} (h0 : P σ H)
    (step : ∀ σ H (N : L2.St → Hp → Prop), P σ H → (∀ σ' H', P σ' H' → μ σ' H' < μ σ H → N σ' H') → c σ H fun b H1 => if b = true then tb { D with nx := N, ct := N, bk := D.nx } σ H1 else D.nx σ H1) : wWhile c tb D σ H := by
  have key : ∀ n σ H, μ σ H < n → P σ H → whR c tb D n σ H := by
    intro n
    induction n with
    | zero => intro σ H h _; omega
    | succ n ih => intro σ H h p; exact step σ H _ p fun σ' H' p' hl => ih σ' H' (by omega) p'
  exact ⟨μ σ H + 1, key _ σ H (Nat.lt_succ_self _) h0⟩
end
end Ly

/-! Lay4 -/
set_option Elab.async false
set_option linter.all false
set_option maxRecDepth 100000
set_option maxHeartbeats 4000000
namespace Ly
open PySem PySem.Spec PyProof.Rows L2

def upG (g : TG) : TG := fun v σ H Q => ∃ Q0 : L2.St → Hp → Prop, g v σ H Q0 ∧ ∀ σ' H1, Q0 σ' H1 → Q σ' H1
theorem _root_.L2.PG.up {X : Cx} {e : Expr} {t : TG} (h : PG X e t) : PG X e (upG t) := ⟨fun pins s σ H v u Q I r ⟨Q0, q, w⟩ => thn (h.run pins s σ H v u Q0 I r q) fun _ _ ⟨σ', H', I', z⟩ => ⟨σ', H', I', w _ _ z⟩⟩
theorem _root_.L2.PTs.up {X : Cx} {e : List Expr} {t : TT} (h : PTs X e t) : PTs X e (upT t) := ⟨fun pins s σ H Q I ⟨Q0, q, w⟩ => thn (h.run pins s σ H Q0 I q) fun _ _ ⟨H', I', z⟩ => ⟨H', I', w _ _ z⟩⟩
/-! ### comprehensions -/
def lcR (F : FI) (g : TG) (vs : List Nat) (tt : TT) (te : TE) (σ : L2.St) (D : Addr) (Q : VK) : Nat → Nat → Hp → Prop
  | 0, _ => fun H => F.ok H ∧ Q (.ref D) H
  | r + 1, i => fun H => F.ok H ∧ F.get i H fun x H1 => g x (wipe σ vs) H1 fun σ2 H2 => wipe σ2 vs = wipe σ vs ∧ tt σ2 H2 fun b H3 =>
      if b = true then te σ2 H3 fun y H4 => ∃ acc, H4 D = some (.lst acc) ∧ acc.length < sizeLine ∧ lcR F g vs tt te σ D Q r (i + 1) (upd H4 D (.lst (acc ++ [y]))) else lcR F g vs tt te σ D Q r (i + 1) H3
def wComp (wi : TF) (g : TG) (tt : TT) (te : TE) (vs : List Nat) : TE := fun σ H Q => wi σ H fun F H1 => ∀ D, H1 D = none → lcR F g vs tt te σ D Q F.n 0 (upd H1 D (.lst []))
section
variable {X : Cx} {pos spos : Pos}
theorem wComp_of {J : It} {F : FI} {g : TG} {vs : List Nat} {tt : TT} {te : TE} {σ : L2.St} {D : Addr} {Q : VK} {H1 : Hp} (isf : IsFI J F) (z : lcR F g vs tt te σ D Q F.n 0 H1) :
    ∃ W : Nat → Nat → Hp → Prop, (∃ m, W 0 m H1) ∧ ∀ i m H, W i m H →
  (J.stop i H ∧ Q (.ref D) H) ∨ (J.go i H ∧ ∃ Nx : Hp → Prop, (∀ H', Nx H' → ∃ m', m' < m ∧ W (i + 1) m' H') ∧ ∀ x H', J.yld i H x H' → upG g x (wipe σ vs) H' fun σ2 H2 => wipe σ2 vs = wipe σ vs ∧ upT tt σ2 H2 fun b H3 =>
    if b = true then up te σ2 H3 fun y H4 => ∃ acc, H4 D = some (.lst acc) ∧ acc.length < sizeLine ∧ Nx (upd H4 D (.lst (acc ++ [y]))) else Nx H3) := by
  refine ⟨fun i m H => m + i = F.n ∧ lcR F g vs tt te σ D Q m i H, ⟨F.n, by omega, z⟩, ?_⟩
  rintro i m H ⟨e, z⟩
  cases m with
  | zero =>
    obtain ⟨z1, z2⟩ := z
    have ei : i = F.n := by omega
    subst ei
    exact .inl ⟨isf.stop _ z1, z2⟩
  | succ m =>
    obtain ⟨z1, z2⟩ := z
    refine .inr ⟨isf.go _ _ (by omega) z1, lcR F g vs tt te σ D Q m (i + 1), fun H' h => ⟨m, by omega, by omega, h⟩, fun x H' y => ?_⟩
    refine ⟨_, isf.yld i H x H' (by omega) z1 y _ z2, fun σ2 H2 ⟨ew, q⟩ => ⟨ew, _, q, fun b H3 q3 => ?_⟩⟩
    cases b with
    | false => exact q3
    | true =>
      simp only [if_true] at q3 ⊢
      exact ⟨_, q3, fun _ _ h => h⟩
theorem d_comp {elt tg iter : Expr} {ifs : List Expr} {scope : Scope} {own : List (Str × Nat)} {wi : TF} {g : TG} {tt : TT} {te : TE} (hc : X.calm = true) (hN : X.N.Nodup) (ok : BlkOk X.N X.env.scope scope own) (hi : PF X tg iter wi)
    (hg : ∀ (s : Shared) (H : Hp) (C : Addr) (cl : List (Str × Addr)) (fp : List Addr), PG (X.blk s H scope (compEnvC scope cl C X.env) fp) tg g) (ht : ∀ (s : Shared) (H : Hp) (C : Addr) (cl : List (Str × Addr)) (fp : List Addr), PTs (X.blk s H scope (compEnvC scope cl C X.env) fp) ifs tt)
    (he : ∀ (s : Shared) (H : Hp) (C : Addr) (cl : List (Str × Addr)) (fp : List Addr), PE (X.blk s H scope (compEnvC scope cl C X.env) fp) elt te) (hs : ∀ x, foldedSetIterable iter X.env x = pure x := by intro _; rfl) :
    PE X (.ListComp elt [⟨tg, iter, ifs, 0⟩] scope pos) (wComp wi g tt te (own.map (·.2))) := by
  obtain ⟨wi0, pi, w⟩ := hi
  refine (pe_lc hc hN pi ok (fun s H C cl fp => (hg s H C cl fp).up) (fun s H C cl fp => (ht s H C cl fp).up) (fun s H C cl fp => (he s H C cl fp).up) hs).imp fun σ H Q q => ?_
  exact w σ H _ _ (fun J F H1 isf z D hD => wComp_of isf (z D hD)) q
theorem s_setLc {i : Nat} {y : Str} {py : Pos} {elt tg iter : Expr} {ifs : List Expr} {scope : Scope} {own : List (Str × Nat)} {wi : TF} {g : TG} {tt : TT} {te : TE} (hc : X.calm = true) (hN : X.N.Nodup) (ok : BlkOk X.N X.env.scope scope own) (hy : X.N[i]? = some y) (hyl : X.env.scope.names.lookup y = some .local)
    (hsw : swapsWith (.ListComp elt [⟨tg, iter, ifs, 0⟩] scope pos) (some (.Name y py)) spos.line X.env = pure true) (hi : PF X tg iter wi)
    (hg : ∀ (s : Shared) (H : Hp) (C : Addr) (cl : List (Str × Addr)) (fp : List Addr), PG (X.blk s H scope (compEnvC scope cl C X.env) fp) tg g) (ht : ∀ (s : Shared) (H : Hp) (C : Addr) (cl : List (Str × Addr)) (fp : List Addr), PTs (X.blk s H scope (compEnvC scope cl C X.env) fp) ifs tt)
    (he : ∀ (s : Shared) (H : Hp) (C : Addr) (cl : List (Str × Addr)) (fp : List Addr), PE (X.blk s H scope (compEnvC scope cl C X.env) fp) elt te) (hs : ∀ x, foldedSetIterable iter X.env x = pure x := by intro _; rfl) :
    PS X (.Assign [.Name y py] (.ListComp elt [⟨tg, iter, ifs, 0⟩] scope pos) spos) (tAsg (wComp wi g tt te (own.map (·.2))) (gName i)) := by
  obtain ⟨wi0, pi, w⟩ := hi
  refine (ps_setLc hc hN hy hyl hsw pi ok (fun s H C cl fp => (hg s H C cl fp).up) (fun s H C cl fp => (ht s H C cl fp).up) (fun s H C cl fp => (he s H C cl fp).up) hs).imp fun D σ H q => ?_
  exact w σ H _ _ (fun J F H1 isf z D hD => wComp_of isf (z D hD)) q
/-- an invariant over what is made -/
theorem lc_inv {F : FI} {g : TG} {vs : List Nat} {tt : TT} {te : TE} {σ : L2.St} {D : Addr} {Q : VK} {H1 : Hp} (P : Nat → Hp → Prop) (h0 : P 0 H1)
    (step : ∀ i H (N : Hp → Prop), i < F.n → P i H → (∀ H', P (i + 1) H' → N H') → F.ok H ∧ F.get i H fun x H1 => g x (wipe σ vs) H1 fun σ2 H2 => wipe σ2 vs = wipe σ vs ∧ tt σ2 H2 fun b H3 =>
      if b = true then te σ2 H3 fun y H4 => ∃ acc, H4 D = some (.lst acc) ∧ acc.length < sizeLine ∧ N (upd H4 D (.lst (acc ++ [y]))) else N H3)
    (done : ∀ H, P F.n H → F.ok H ∧ Q (.ref D) H) : lcR F g vs tt te σ D Q F.n 0 H1 := by
  have key : ∀ r i H, r + i = F.n → P i H → lcR F g vs tt te σ D Q r i H := by
    intro r
    induction r with
    | zero =>
      intro i H e p
      have : i = F.n := by omega
      subst this
      exact done H p
    | succ r ih =>
      intro i H e p
      exact step i H _ (by omega) p fun H' p' => ih (i + 1) H' (by omega) p'
  exact key F.n 0 H1 (by omega) h0

/-! ### stores -/
theorem g_tup {es : List Expr} {k : Nat} {t : TGs} {n : Nat} (hc : X.calm = true) (h : PGs X es t) (hn : (assignEach es X.env).length = n := by rfl) (hst : (assignEach es X.env).findIdx? (·.1) = none := by rfl) :
    PG X (.Tuple es k pos) (fun v σ H Q => match v with
      | .ref a => opt (tup? H a) fun xs => xs.length = n ∧ t xs σ H Q
      | _ => False) :=
  ⟨fun pins s σ H v u Q I r hw => (pg_tup hc h hn hst).run pins s σ H v u Q I r (by
    split at hw
    · obtain ⟨xs, e, z⟩ := opt_ex hw
      exact ⟨_, xs, rfl, tup?_sq e, z.1, z.2⟩
    · exact hw.elim)⟩
def wTupG (n : Nat) (t : TGs) : TG := fun v σ H Q => match v with
  | .ref a => opt (tup? H a) fun xs => xs.length = n ∧ t xs σ H Q
  | _ => False
def wG2 (g1 g2 : TG) : TG := fun v σ H Q => match v with
  | .ref a => opt (tup? H a) fun xs => match xs with
    | [x, y] => g1 x σ H fun σ' H' => g2 y σ' H' Q
    | _ => False
  | _ => False
theorem gCons_eq {g : TG} {u : TGs} {v : V} {r : List V} {σ : L2.St} {H : Hp} {Q : L2.St → Hp → Prop} : gCons g u (v :: r) σ H Q = g v σ H fun σ' H' => u r σ' H' Q := by
  apply propext
  constructor
  · rintro ⟨v', r', e, q⟩
    cases e
    exact q
  · intro q
    exact ⟨_, _, rfl, q⟩
theorem gNil_eq {σ : L2.St} {H : Hp} {Q : L2.St → Hp → Prop} : gNil [] σ H Q = Q σ H := by
  apply propext
  constructor
  · rintro ⟨_, q⟩; exact q
  · intro q; exact ⟨rfl, q⟩
theorem g_two {e1 e2 : Expr} {k : Nat} {g1 g2 : TG} (hc : X.calm = true) (hp : PGs X [e1, e2] (gCons g1 (gCons g2 gNil))) (hn : (assignEach [e1, e2] X.env).length = 2 := by rfl) (hst : (assignEach [e1, e2] X.env).findIdx? (·.1) = none := by rfl) : PG X (.Tuple [e1, e2] k pos) (wG2 g1 g2) :=
  ⟨fun pins s σ H v u Q I r hw => (g_tup hc hp hn hst).run pins s σ H v u Q I r (by
    unfold wG2 at hw
    split at hw
    · obtain ⟨xs, e, z⟩ := opt_ex hw
      split at z
      · show opt _ _
        rw [e]
        refine ⟨rfl, ?_⟩
        simp only [gCons_eq, gNil_eq]
        exact z
      · exact z.elim
    · exact hw.elim)⟩
def setV (o i v : V) (H : Hp) (Q : Hp → Prop) : Prop := match o, i with
  | .ref p, .int k => (match H p with
    | some (.lst xs) => opt (ixN xs.length k) fun j => Q (upd H p (.lst (xs.set j v)))
    | _ => False)
  | _, _ => False
theorem set_V : PSet X setV := fun pins s σ H o i v ov iv u Q I r1 r2 r3 q => set_list pins s σ H o i v ov iv u Q I r1 r2 r3 (by
  unfold setV at q
  split at q
  · split at q
    · rename_i xs e
      obtain ⟨j, e2, q⟩ := opt_ex q
      exact ⟨_, xs, _, j, rfl, rfl, e, e2, q⟩
    · exact q.elim
  · exact q.elim)
def augV (op : Int → Int → Int) : TIp := fun x y H Q => int2 x y fun i j => Q (.int (op i j)) H
theorem ip_addV : PIp X .Add (augV (· + ·)) := fun pins s σ H x y v u Q I r1 r2 q => ip_add pins s σ H x y v u Q I r1 r2 (by
  obtain ⟨i, j, rfl, rfl, q⟩ := int2_ex q; exact ⟨i, j, rfl, rfl, q⟩)

/-! ### sum -/
def sumV (vs : List V) (H : Hp) (Q : VK) : Prop := match vs with
  | [.ref a] => opt ((seq? H a).bind ints?) fun ns => Q (.int ns.sum) H
  | _ => False
theorem c_sum (hc : X.calm = true) : CallR X (.builtin "sum") sumV := by
  intro pins s σ H vs us Q I r q
  unfold sumV at q
  split at q
  · obtain ⟨ns, e, q⟩ := opt_ex q
    cases e2 : seq? H _ with
    | none => rw [e2] at e; cases e
    | some xs =>
      rw [e2] at e
      have ex : xs = ns.map V.int := ints?_eq e
      subst ex
      rcases seq?_sq (K := X.K) e2 with h | h
      · exact cr_sum hc pins s σ H _ us Q I r ⟨_, ns, rfl, h, q⟩
      · obtain ⟨its, rv, ht, _⟩ := I.tuple h
        rw [Vals.ref1 r]
        obtain ⟨xs, ex⟩ := rv.ints.allInts.items
        have hn : numsOf (intItems xs).toList = ns := by rw [← ex]; exact rv.ints.numsOf
        rw [nums_intItems] at hn
        rw [ex] at ht
        refine PySem.W.ktm_sumG (I.ok.hd hc) ht fun h' tk t' hk => ?_
        refine ⟨.int ns.sum, H, I.kept hk, ⟨t', ?_⟩, q⟩
        rw [preSum_eq, List.take_of_length_le (by simp), hn]
  · exact q.elim

/-! ### methods of lists and texts -/
def wBM (K : PySem.W.Frag) (T : String) (r : V → List V → Hp → VK → Prop) (to : TE) (t : TA) : TE := fun σ H Q => to σ H fun x H1 => t σ H1 fun xs H2 => r x xs H2 Q
def appendV (x : V) (vs : List V) (H : Hp) (Q : VK) : Prop := match x, vs with
  | .ref l, [y] => (match H l with
    | some (.lst xs) => xs.length < sizeLine ∧ Q .non (upd H l (.lst (xs ++ [y])))
    | _ => False)
  | _, _ => False
theorem m_append : MtR X "list.append" appendV := MtR.imp mt_append fun x vs H Q q => by
  unfold appendV at q
  split at q
  · split at q
    · rename_i xs e; exact ⟨_, xs, _, rfl, rfl, e, q⟩
    · exact q.elim
  · exact q.elim
def insertV (x : V) (vs : List V) (H : Hp) (Q : VK) : Prop := match x, vs with
  | .ref l, [.int i, y] => (match H l with
    | some (.lst xs) => xs.length < sizeLine ∧ 0 ≤ i ∧ i < 2 ^ 63 ∧ Q .non (upd H l (.lst (xs.take i.toNat ++ [y] ++ xs.drop i.toNat)))
    | _ => False)
  | _, _ => False
theorem m_insert : MtR X "list.insert" insertV := MtR.imp mt_insert fun x vs H Q q => by
  unfold insertV at q
  split at q
  · split at q
    · rename_i xs e; exact ⟨_, xs, _, _, rfl, rfl, e, q⟩
    · exact q.elim
  · exact q.elim
def popAtV (x : V) (vs : List V) (H : Hp) (Q : VK) : Prop := match x, vs with
  | .ref l, [.int i] => (match H l with
    | some (.lst xs) => -(2 ^ 63) ≤ i ∧ i < 2 ^ 63 ∧ opt (seqIndex? i xs.length) fun k => opt xs[k]? fun y => Q y (upd H l (.lst (xs.eraseIdx k)))
    | _ => False)
  | _, _ => False
theorem m_popAt : MtR X "list.pop" popAtV := MtR.imp mt_popAt fun x vs H Q q => by
  unfold popAtV at q
  split at q
  · split at q
    · rename_i xs e
      obtain ⟨h1, h2, q⟩ := q
      obtain ⟨k, e2, q⟩ := opt_ex q
      obtain ⟨y, e3, q⟩ := opt_ex q
      exact ⟨_, xs, _, k, y, rfl, rfl, e, h1, h2, e2, e3, q⟩
    · exact q.elim
  · exact q.elim
def strs? : List V → Option (List Str)
  | [] => some []
  | .str i :: r => (strs? r).map (i :: ·)
  | _ => none
theorem strs?_eq : ∀ {xs : List V} {ns : List Str}, strs? xs = some ns → xs = ns.map V.str
  | [], ns, h => by cases h; rfl
  | .str i :: r, ns, h => by
    unfold strs? at h
    cases e : strs? r with
    | none => rw [e] at h; cases h
    | some m => rw [e] at h; cases h; rw [strs?_eq e]; rfl
  | .non :: _, _, h => by cases h
  | .bl _ :: _, _, h => by cases h
  | .int _ :: _, _, h => by cases h
  | .byt _ :: _, _, h => by cases h
  | .flt _ :: _, _, h => by cases h
  | .ref _ :: _, _, h => by cases h
  | .ty _ :: _, _, h => by cases h
@[simp] theorem strs?_map : ∀ (ns : List Str), strs? (ns.map V.str) = some ns
  | [] => rfl
  | i :: r => by
    show (strs? (r.map V.str)).map (i :: ·) = _
    rw [strs?_map r]; rfl
def joinV (x : V) (vs : List V) (H : Hp) (Q : VK) : Prop := match x, vs with
  | .str a, [.ref p] => opt ((seq? H p).bind strs?) fun ys => (ys.map (·.length)).sum + ys.length * a.length ≤ 16777216 ∧ Q (.str (Txt.join a ys)) H
  | _, _ => False
theorem m_join : MtR X "str.join" joinV := MtR.imp mt_join fun x vs H Q q => by
  unfold joinV at q
  split at q
  · obtain ⟨ys, e, q⟩ := opt_ex q
    cases e2 : seq? H _ with
    | none => rw [e2] at e; cases e
    | some xs =>
      rw [e2] at e
      have ex : xs = ys.map V.str := strs?_eq e
      subst ex
      exact ⟨_, _, ys, rfl, rfl, seq?_sq e2, q.1, q.2⟩
  · exact q.elim
end
end Ly

/-! Lay5 -/
set_option Elab.async false
set_option linter.all false
set_option maxRecDepth 100000
set_option maxHeartbeats 4000000
namespace Ly
open PySem PySem.Spec PyProof.Rows L2

/-! ### attributes -/
/-- the fields of the instance at a of the class at C -/
def ins? (C : Addr) (H : Hp) (x : V) (k : Addr → Addr → List (Str × V) → Prop) : Prop := match x with
  | .ref a => (match H a with
    | some (.ins C' dx fs) => C' = C ∧ k a dx fs
    | _ => False)
  | _ => False
theorem ins?_ex {C : Addr} {H : Hp} {x : V} {k : Addr → Addr → List (Str × V) → Prop} (h : ins? C H x k) : ∃ a dx fs, x = .ref a ∧ H a = some (.ins C dx fs) ∧ k a dx fs := by
  unfold ins? at h
  split at h
  · split at h
    · rename_i e
      obtain ⟨rfl, h⟩ := h
      exact ⟨_, _, _, rfl, e, h⟩
    · exact h.elim
  · exact h.elim
theorem ins?_of {C : Addr} {H : Hp} {a dx : Addr} {fs : List (Str × V)} {k : Addr → Addr → List (Str × V) → Prop} (h : H a = some (.ins C dx fs)) (q : k a dx fs) : ins? C H (.ref a) k := by
  unfold ins?
  simp only [h]
  exact ⟨trivial, q⟩
def wFld (C : Addr) (f : Str) (te : TE) : TE := fun σ H Q => te σ H fun x H1 => ins? C H1 x fun _ _ fs => opt (fs.lookup f) fun v => Q v H1
def wProp (C : Addr) (sp : Sp) (te : TE) : TE := fun σ H Q => te σ H fun x H1 => ins? C H1 x fun _ _ _ => sp [x] H1 Q E0
def wCall (sp : Sp) (E : XK) (t : TA) : TE := fun σ H Q => t σ H fun vs H1 => sp vs H1 Q E
def wMeth (C : Addr) (m : Str) (sp : Sp) (E : XK) (te : TE) (t : TA) : TE := fun σ H Q => te σ H fun x H1 => ins? C H1 x fun _ _ fs => fs.lookup m = none ∧ t σ H1 fun vs H2 => sp (x :: vs) H2 Q E
def mkOf (C : Addr) (sp : Sp) : Sp := fun vs H Q E => ∀ x dx, H x = none → H dx = none → dx ≠ x → sp (.ref x :: vs) (upd (upd H dx (.own x)) x (.ins C dx [])) (fun v H2 => v = .non ∧ Q (.ref x) H2) E
def wSetF (C : Addr) (f : Str) (te tv : TE) : TS := fun D σ H => tv σ H fun y H1 => te σ H1 fun x H2 => ins? C H2 x fun a dx fs => fs.length < 1000 ∧ D.nx σ (upd H2 a (.ins C dx (putF f y fs)))
section
variable {X : Cx} {CX : CXT} {k : Nat} {C f g : Addr} {fd : FuncData} {ps : List Str} {sp : Sp} {E : XK} {e o v : Expr} {es : List Expr} {te ta tv : TE} {t : TA} {fl m x : Str} {p pos apos pos' : Pos} {dvs : List V} {ds : List Value}
theorem d_fld (c : Cls X.K C) (n : NoAttr X.K C fl) (he : PE X e te) (hb : attributeBase e fl X.env (eval e X.env) = eval e X.env := by rfl) : PE X (.Attribute e fl pos) (wFld C fl te) :=
  (pe_fld he.up hb).imp fun σ H Q q => ⟨_, q, fun x H1 z => by
    obtain ⟨a, dx, fs, rfl, ea, z⟩ := ins?_ex z
    obtain ⟨v, el, z⟩ := opt_ex z
    exact ⟨a, C, dx, fs, v, rfl, ea, c, n, el, z⟩⟩
theorem d_prop {pr : Addr} (c : Cls X.K C) (hp : PropOf X.K C fl pr g) (F : FnOk X.prog X.w X.K X.mg X.base (L2.CX X.prog X.w) k g fd ps sp) (hr : Room (k + 1) X.A) (hb : Binds X.K fd ps []) (he : PE X e te) (hab : attributeBase e fl X.env (eval e X.env) = eval e X.env := by rfl) : PE X (.Attribute e fl pos) (wProp C sp te) :=
  (pe_prop he.up c hp F hr hb .nil passL hab).imp fun σ H Q q => ⟨_, q, fun x H1 z => by
    obtain ⟨a, dx, fs, rfl, ea, z⟩ := ins?_ex z
    exact ⟨a, dx, fs, rfl, ea, z⟩⟩
theorem d_con {mc : Value} {u : Value} {w : V} (hm : X.mg x = some (.ref C)) (r : ClX.CRead X.K C mc) (kv : ClX.CVal X.K C mc fl w u) (hg : Gl X x := by rfl) (hd : (x == ("__debug__" : Str)) = false := by decide) (hb : attributeBase (.Name x p) fl X.env (eval (.Name x p) X.env) = eval (.Name x p) X.env := by rfl) : PE X (.Attribute (.Name x p) fl pos) (wC w) :=
  (ClX.pe_cval (pe_glob (v := .ref C) hg hm rfl hd) hb).imp fun σ H Q q => ⟨C, mc, w, u, rfl, r, kv, q⟩
theorem s_setF (c : Cls X.K C) (n : NoAttr X.K C fl) (ha : PE X o te) (hv : PE X v tv) (hs : swapsWith v (some (.Attribute o fl pos')) pos.line X.env = pure false := by rfl) : PS X (.Assign [.Attribute o fl pos'] v pos) (wSetF C fl te tv) :=
  (ps_fld ha.up hv.up hs).imp fun D σ H q => ⟨_, q, fun y H1 z => ⟨_, z, fun x H2 z => by
    obtain ⟨a, dx, fs, rfl, ea, hl, z⟩ := ins?_ex z
    exact ⟨a, C, dx, fs, rfl, ea, c, n, hl, z⟩⟩⟩

/-! ### calls -/
theorem d_call (F : FnOk X.prog X.w X.K X.mg X.base CX k f fd ps sp) (hr : Room k X.A) (hm : X.mg x = some (.ref f)) (hk : PySem.W.keepIn X.K (.ref f) = true) (hb : Binds X.K fd ps []) (hx : Passes CX X E)
    (ha : PA X (e :: es) t) (hg : Gl X x := by rfl) (hdb : (x == ("__debug__" : Str)) = false := by decide) (he : starEach (e :: es) X.env = (false, eval e X.env) :: starEach es X.env := by rfl) (hpl : (backTo pos (starEach es X.env)).any (·.1) = false := by rfl) :
    PE X (.Call (.Name x p) (e :: es) [] pos) (wCall sp E t) := (pe_call F hr hg hm hk hb .nil hx ha hdb he hpl).imp fun σ H Q q => by
  unfold tCall
  simp only [List.append_nil]
  exact q
/-- with defaults -/
def wCallD (sp : Sp) (dvs : List V) (E : XK) (t : TA) : TE := fun σ H Q => t σ H fun vs H1 => sp (vs ++ dvs) H1 Q E
theorem d_meth {pl : Sem Bool} (c : Cls X.K C) (hm : Meth X.K C m f) (F : FnOk X.prog X.w X.K X.mg X.base CX k f fd ps sp) (hr : Room k X.A) (hb : Binds X.K fd ps []) (hx : Passes CX X E) (he : PE X o te) (ha : PA X (e :: es) t)
    (hst : starEach (e :: es) X.env = (false, eval e X.env) :: starEach es X.env := by rfl) (hpl : (backTo pos (starEach es X.env)).any (·.1) = false := by rfl)
    (ht : eval (.Call (.Attribute o m apos) (e :: es) [] pos) X.env = (do
      let ov ← eval o X.env
      standAt apos.atName
      let (f, first) ← holding [ov] (getMethod ov m pl)
      callWith pos f first (backTo pos (starEach (e :: es) X.env)) (backToKw pos (keywordEach [] X.env))) := by rfl) :
    PE X (.Call (.Attribute o m apos) (e :: es) [] pos) (wMeth C m sp E te t) := (pe_meth (pl := pl) he.up c hm F hr hb .nil hx ha hst hpl ht).imp fun σ H Q q => ⟨_, q, fun x H1 z => by
  obtain ⟨a, dx, fs, rfl, ea, hl, z⟩ := ins?_ex z
  simp only [List.append_nil]
  exact ⟨a, dx, fs, rfl, ea, hl, z⟩⟩
theorem d_meth0 {pl : Sem Bool} (c : Cls X.K C) (hm : Meth X.K C m f) (F : FnOk X.prog X.w X.K X.mg X.base CX k f fd ps sp) (hr : Room k X.A) (hb : Binds X.K fd ps []) (hx : Passes CX X E) (he : PE X o te)
    (ht : eval (.Call (.Attribute o m apos) [] [] pos) X.env = (do
      let ov ← eval o X.env
      standAt apos.atName
      let (f, first) ← holding [ov] (getMethod ov m pl)
      callWith pos f first (backTo pos (starEach [] X.env)) (backToKw pos (keywordEach [] X.env))) := by rfl) :
    PE X (.Call (.Attribute o m apos) [] [] pos) (wMeth C m sp E te tNil) := (pe_meth0 (pl := pl) he.up c hm F hr hb .nil hx ht).imp fun σ H Q q => ⟨_, q, fun x H1 z => by
  obtain ⟨a, dx, fs, rfl, ea, hl, z⟩ := ins?_ex z
  exact ⟨a, dx, fs, rfl, ea, hl, z⟩⟩
theorem d_make (M : Mk X.K C f) (F : FnOk X.prog X.w X.K X.mg X.base CX k f fd ps sp) (hr : Room (k + 1) X.A) (hm : X.mg x = some (.ref C)) (hb : Binds X.K fd ps []) (hx : Passes CX X E)
    (ha : PA X (e :: es) t) (hg : Gl X x := by rfl) (hdb : (x == ("__debug__" : Str)) = false := by decide) (he : starEach (e :: es) X.env = (false, eval e X.env) :: starEach es X.env := by rfl) (hpl : (backTo pos (starEach es X.env)).any (·.1) = false := by rfl) :
    PE X (.Call (.Name x p) (e :: es) [] pos) (wCall (mkOf C sp) E t) := (pe_make M F hr hg hm hb .nil hx ha hdb he hpl).imp fun σ H Q q => by
  unfold tMake
  simp only [List.append_nil]
  exact q
/-- C.m(..), m a staticmethod -/
theorem d_smeth {pl : Sem Bool} {mc : Value} {q : Addr} {rest : List Value} (hm : X.mg x = some (.ref C)) (r : ClX.CRead X.K C mc) (ea : PySem.W.findCls X.K (.ref C) mc m = some (.get (.builtin "staticmethod.__get__") (.ref q) .none (.ref C))) (hrc : PySem.W.recIn X.K q "staticmethod" = some (.ref f :: rest))
    (F : FnOk X.prog X.w X.K X.mg X.base CX k f fd ps sp) (hr : Room k X.A) (hk : PySem.W.keepIn X.K (.ref f) = true) (hb : Binds X.K fd ps []) (hx : Passes CX X E) (ha : PA X (e :: es) t) (hg : Gl X x := by rfl) (hdb : (x == ("__debug__" : Str)) = false := by decide)
    (hst : starEach (e :: es) X.env = (false, eval e X.env) :: starEach es X.env := by rfl) (hpl : (backTo pos (starEach es X.env)).any (·.1) = false := by rfl)
    (ht : eval (.Call (.Attribute (.Name x p) m apos) (e :: es) [] pos) X.env = (do
      let ov ← eval (.Name x p) X.env
      standAt apos.atName
      let (f, first) ← holding [ov] (getMethod ov m pl)
      callWith pos f first (backTo pos (starEach (e :: es) X.env)) (backToKw pos (keywordEach [] X.env))) := by rfl) :
    PE X (.Call (.Attribute (.Name x p) m apos) (e :: es) [] pos) (wCall sp E t) := by
  refine ⟨fun pins s σ H Q I h => ?_⟩
  refine PySem.W.methodCall_KW (pl := pl) (thn ((pe_glob (v := .ref C) hg hm rfl hdb).run pins s σ H (fun v H1 => v = .ref C ∧ H1 = H) I ⟨rfl, rfl⟩) fun u s1 ⟨x, H1, I1, rx, ex, eh⟩ => ?_) ht
  subst ex eh
  obtain rfl : u = Value.ref C := rx
  refine PySem.W.method_cls I1.kIn r.ga ?_
  refine PySem.W.cls_bind I1.kIn r.rd ea (wpAny_call (PySem.W.sm_get (s := { s1 with toks := s1.toks + 1 }) I1.kIn hrc (PySem.W.handed_on rfl ?_)))
  refine PySem.W.callWith_K (first := []) (h₀ := X.base) I1.ok.mod.kin hk (thn (ha.run pos pins _ σ H1 _ (I1.tok _) h) fun us s2 ⟨vs, H2, I2, r, q2⟩ => ⟨I2.kIn, ?_⟩) hst hpl
  exact run_fn (us := us) (vs := vs) (dvs := []) F hr hb .nil hx I2 r (by rw [List.append_nil]; exact q2)

/-! ### builtins by name -/
variable {id : String} {r : List V → Hp → VK → Prop}
theorem d_cb (hc : CallR X (.builtin id) r) (hm : X.mg x = none) (hv : bootBuiltins x = some (.builtin id)) (ha : PA X (e :: es) t) (hg : Gl X x := by rfl) (hn : x ≠ "__name__" := by decide) (hdb : (x == ("__debug__" : Str)) = false := by decide)
    (he : starEach (e :: es) X.env = (false, eval e X.env) :: starEach es X.env := by rfl) (hpl : (backTo pos (starEach es X.env)).any (·.1) = false := by rfl) : PE X (.Call (.Name x p) (e :: es) [] pos) (wCB r t) := pe_callB hc hg hm hv ha hn hdb he hpl
theorem d_ct {T : String} (hc : CallR X (.type T) r) (hm : X.mg x = none) (hv : bootBuiltins x = some (.type T)) (ha : PA X (e :: es) t) (hg : Gl X x := by rfl) (hn : x ≠ "__name__" := by decide) (hdb : (x == ("__debug__" : Str)) = false := by decide)
    (he : starEach (e :: es) X.env = (false, eval e X.env) :: starEach es X.env := by rfl) (hpl : (backTo pos (starEach es X.env)).any (·.1) = false := by rfl) : PE X (.Call (.Name x p) (e :: es) [] pos) (wCB r t) := pe_callTy hc hg hm hv ha hn hdb he hpl
end
end Ly

/-! Lay6 -/
set_option Elab.async false
set_option linter.all false
set_option maxRecDepth 100000
set_option maxHeartbeats 4000000
namespace Ly
open PySem PySem.Spec PyProof.Rows L2

/-! ### methods of builtin types -/
def wLM (r : V → List V → Hp → VK → Prop) (te : TE) (t : TA) : TE := fun σ H Q => te σ H fun x H1 => match x with
  | .ref p => opt (lst? H1 p) fun _ => t σ H1 fun xs H2 => r x xs H2 Q
  | _ => False
def wSM (r : V → List V → Hp → VK → Prop) (te : TE) (t : TA) : TE := fun σ H Q => te σ H fun x H1 => match x with
  | .str _ => t σ H1 fun xs H2 => r x xs H2 Q
  | _ => False
section
variable {X : Cx} {o e : Expr} {es : List Expr} {te : TE} {t : TA} {name : Str} {apos cpos : Pos} {id : String} {r : V → List V → Hp → VK → Prop}
theorem d_lm (pa : PlainAttrs "list") (slot : Slot "list" name id) (hty : typeOf (.builtin id) = pure (.type "method_descriptor")) (hm : MtR X id r) (ho : PE X o te) (ha : PA X (e :: es) t)
    (hbase : attributeBase o name X.env (eval o X.env) = eval o X.env := by rfl)
    (hfew : ((backTo cpos (starEach (e :: es) X.env)).all (fun x => !x.1) && (backToKw cpos (keywordEach [] X.env)).all (fun x => x.1.isSome)
      && decide ((e :: es).length + ([] : List Keyword).length + (if ([] : List Keyword).isEmpty then 0 else 1) < 30)) = true := by rfl) (hline : (apos.endLine == cpos.line) = true := by rfl) (hplain : (backTo cpos (starEach es X.env)).any (·.1) = false := by rfl) (he : starEach (e :: es) X.env = (false, eval e X.env) :: starEach es X.env := by rfl) :
    PE X (.Call (.Attribute o name apos) (e :: es) [] cpos) (wLM r te t) := (pe_bm pa slot hty hm ho.up ha hbase hfew hline he hplain).imp fun σ H Q q => ⟨_, q, fun x H1 z => by
  split at z
  · obtain ⟨xs, e, z⟩ := opt_ex z
    exact ⟨.inl ⟨rfl, _, lst?_sq e⟩, z⟩
  · exact z.elim⟩
theorem d_lm0 (pa : PlainAttrs "list") (slot : Slot "list" name id) (hty : typeOf (.builtin id) = pure (.type "method_descriptor")) (hm : MtR X id r) (ho : PE X o te)
    (hbase : attributeBase o name X.env (eval o X.env) = eval o X.env := by rfl) (hline : (apos.endLine == cpos.line) = true := by rfl) : PE X (.Call (.Attribute o name apos) [] [] cpos) (wLM r te tNil) := (pe_bm0 pa slot hty hm ho.up hbase hline).imp fun σ H Q q => ⟨_, q, fun x H1 z => by
  split at z
  · obtain ⟨xs, e, z⟩ := opt_ex z
    exact ⟨.inl ⟨rfl, _, lst?_sq e⟩, z⟩
  · exact z.elim⟩
theorem d_sm (pa : PlainAttrs "str") (slot : Slot "str" name id) (hty : typeOf (.builtin id) = pure (.type "method_descriptor")) (hm : MtR X id r) (ho : PE X o te) (ha : PA X (e :: es) t)
    (hbase : attributeBase o name X.env (eval o X.env) = eval o X.env := by rfl)
    (hfew : ((backTo cpos (starEach (e :: es) X.env)).all (fun x => !x.1) && (backToKw cpos (keywordEach [] X.env)).all (fun x => x.1.isSome)
      && decide ((e :: es).length + ([] : List Keyword).length + (if ([] : List Keyword).isEmpty then 0 else 1) < 30)) = true := by rfl) (hline : (apos.endLine == cpos.line) = true := by rfl) (hplain : (backTo cpos (starEach es X.env)).any (·.1) = false := by rfl) (he : starEach (e :: es) X.env = (false, eval e X.env) :: starEach es X.env := by rfl) :
    PE X (.Call (.Attribute o name apos) (e :: es) [] cpos) (wSM r te t) := (pe_bm pa slot hty hm ho.up ha hbase hfew hline he hplain).imp fun σ H Q q => ⟨_, q, fun x H1 z => by
  split at z
  · exact ⟨rfl, z⟩
  · exact z.elim⟩
/-! ### isinstance against a builtin type -/
def isub (T : String) : String → Bool := fun t => t == T || (t == "bool" && T == "int")
def isiV (T : String) (vs : List V) (H : Hp) (Q : VK) : Prop := match vs with
  | [x, c] => c = .ty T ∧ (match x with
    | .int _ => Q (.bl (isub T "int")) H
    | .bl _ => Q (.bl (isub T "bool")) H
    | .str _ => Q (.bl (isub T "str")) H
    | .non => Q (.bl (isub T "NoneType")) H
    | .ref p => (match H p with
      | some (.lst _) => Q (.bl (isub T "list")) H
      | some (.tup _) => Q (.bl (isub T "tuple")) H
      | some (.dK _) => Q (.bl (isub T "dict")) H
      | _ => False)
    | _ => False)
  | _ => False
theorem c_isi {T : String} (hT : ∀ t ∈ ["int", "bool", "str", "NoneType", "list", "tuple", "dict"], kitB t T = some (isub T t)) (hc : ClsV (.ty T) (.type T)) : CallR X (.builtin "isinstance") (isiV T) := call_isi.imp fun vs H Q q => by
  unfold isiV at q
  split at q
  · obtain ⟨rfl, q⟩ := q
    split at q
    · exact ⟨_, _, _, _, _, rfl, hc, .base (.int _), kit_ty (hT "int" (by simp)), q⟩
    · exact ⟨_, _, _, _, _, rfl, hc, .base (.bl _), kit_ty (hT "bool" (by simp)), q⟩
    · exact ⟨_, _, _, _, _, rfl, hc, .base (.str _), kit_ty (hT "str" (by simp)), q⟩
    · exact ⟨_, _, _, _, _, rfl, hc, .base .non, kit_ty (hT "NoneType" (by simp)), q⟩
    · split at q
      · rename_i e; exact ⟨_, _, _, _, _, rfl, hc, .base (.lst e), kit_ty (hT "list" (by simp)), q⟩
      · rename_i e; exact ⟨_, _, _, _, _, rfl, hc, .base (.tup e), kit_ty (hT "tuple" (by simp)), q⟩
      · rename_i e; exact ⟨_, _, _, _, _, rfl, hc, .base (.dK e), kit_ty (hT "dict" (by simp)), q⟩
      · exact q.elim
    · exact q.elim
  · exact q.elim
theorem isi_list : ∀ t ∈ ["int", "bool", "str", "NoneType", "list", "tuple", "dict"], kitB t "list" = some (isub "list" t) := by decide +kernel
theorem isi_int : ∀ t ∈ ["int", "bool", "str", "NoneType", "list", "tuple", "dict"], kitB t "int" = some (isub "int" t) := by decide +kernel
theorem isi_bool : ∀ t ∈ ["int", "bool", "str", "NoneType", "list", "tuple", "dict"], kitB t "bool" = some (isub "bool" t) := by decide +kernel
theorem isi_tuple : ∀ t ∈ ["int", "bool", "str", "NoneType", "list", "tuple", "dict"], kitB t "tuple" = some (isub "tuple" t) := by decide +kernel
theorem isi_str : ∀ t ∈ ["int", "bool", "str", "NoneType", "list", "tuple", "dict"], kitB t "str" = some (isub "str" t) := by decide +kernel

/-! ### operators of own classes -/
section
variable {CX : CXT} {k : Nat} {C f : Addr} {fd : FuncData} {ps : List Str} {sp : Sp} {E : XK} {H : Hp} {s : Shared} {pins : List (Addr × Obj)} {σ : L2.St}
theorem ins_at (I : Inv X pins σ H s) {a dx : Addr} {fs : List (Str × V)} (e : H a = some (.ins C dx fs)) : ∃ od, PySem.W.InstAt s.heap a (PySem.W.instObj C dx) C od := by
  obtain ⟨mA, O, _⟩ := ins_get I.hok e
  obtain ⟨od, J, _⟩ := O.look
  exact ⟨_, J⟩
theorem cmp_back {Q : VK} {u : Value} {s' : Shared} (h : EP X pins σ Q u s') : PySem.W.CmpBack (EP X pins σ Q) u s' := by
  obtain ⟨v, H', I, r, q⟩ := h
  exact SlX.cmpback r ⟨v, H', I, r, q⟩
/-- x op y of two instances of the class at C, by C's own method -/
def ownV (C : Addr) (sp : Sp) (E : XK) (x y : V) (H : Hp) (Q : VK) : Prop := ins? C H x fun _ _ _ => ins? C H y fun _ _ _ => sp [x, y] H Q E
theorem op_own {op : Operator} (F : FnOk X.prog X.w X.K X.mg X.base CX k f fd ps sp) (hr : Room k X.A) (hb : Binds X.K fd ps []) (hx : Passes CX X E) (hc : PySem.W.selfFirst X.K C = true)
    (hs : PySem.W.findIn X.K (.ref C) (PySem.dunder op.info.2) = some (some (.ref f))) (hf : PySem.W.isFn X.K (.ref f) = true) : OpR X (binaryOp op) (ownV C sp E) := by
  intro pins s σ H x y v u Q I r1 r2 q
  obtain ⟨a, dx, fs, rfl, ea, q⟩ := ins?_ex q
  obtain ⟨b, dy, gs, rfl, eb, q⟩ := ins?_ex q
  obtain rfl : v = Value.ref a := r1
  obtain rfl : u = Value.ref b := r2
  obtain ⟨m, fr⟩ := I.fr
  obtain ⟨od, J⟩ := ins_at I ea
  obtain ⟨od2, J2⟩ := ins_at I eb
  refine PySem.W.binop_K fr I.ok.mod.kin J J2.type hc hs hf ?_
  exact thn (run_fn (us := [.ref a, .ref b]) (vs := [.ref a, .ref b]) (dvs := []) F hr hb .nil hx I (.cons rfl (.cons rfl .nil)) q) fun _ _ h => cmp_back h
/-- len(x) of an instance of the class at C -/
def lenOwnV (C : Addr) (sp : Sp) (vs : List V) (H : Hp) (Q : VK) : Prop := match vs with
  | [x] => ins? C H x fun _ _ _ => sp [x] H (fun v H' => match v with | .int n => 0 ≤ n ∧ n < 2 ^ 63 ∧ Q (.int n) H' | _ => False) E0
  | _ => False
theorem c_lenOwn (F : FnOk X.prog X.w X.K X.mg X.base (L2.CX X.prog X.w) k f fd ps sp) (hr : Room (k + 1) X.A) (hb : Binds X.K fd ps [])
    (hs : PySem.W.findIn X.K (.ref C) "__len__" = some (some (.ref f))) (hf : PySem.W.isFn X.K (.ref f) = true) : CallR X (.builtin "len") (lenOwnV C sp) := by
  intro pins s σ H vs us Q I r q
  unfold lenOwnV at q
  split at q
  · obtain ⟨a, dx, fs, rfl, ea, q⟩ := ins?_ex q
    rw [Vals.ref1 r]
    obtain ⟨m, fr⟩ := I.fr
    obtain ⟨od, J⟩ := ins_at I ea
    refine PySem.W.len_K fr I.ok.mod.kin J hs hf ?_
    refine wpAny_call (codeAny_mono (F.run X.A.in1 X.stack s H ⟨[.ref a], []⟩ [.ref a] [.ref a] _ E0 hr.in1 I.env0.in1 (by
      have := hb s [.ref a] I.kIn (by
        have := F.len _ _ _ _ q
        simpa using this)
      simpa using this) (.cons rfl .nil) q) fun r s' hq => ?_)
    cases r with
    | error e => exact (passL (X := X.nox) pins σ H s e s' (I.wish _) hq).elim
    | ok fl =>
      cases fl with
      | ret u =>
        obtain ⟨v, H', I3, rv, q3⟩ := I.after hq
        cases v with
        | int n =>
          obtain ⟨t, rfl⟩ := rv
          exact ⟨⟨q3.1, q3.2.1⟩, .int n, H', I3.tok _, ⟨_, rfl⟩, q3.2.2⟩
        | _ => exact q3.elim
      | next => exact False.elim hq
      | brk => exact False.elim hq
      | cont => exact False.elim hq
  · exact q.elim
end
end
end Ly

/-! Lay7 -/
set_option Elab.async false
set_option linter.all false
set_option maxRecDepth 100000
set_option maxHeartbeats 4000000
namespace Ly
open PySem PySem.Spec PyProof.Rows L2

/-! ### more rules -/
def wAug (i : Nat) (te : TE) (ti : TIp) : TS := fun D σ H => opt σ[i]? fun o => opt o fun x => te σ H fun y H1 => ti x y H1 fun z H2 => D.nx (σ.set i (some z)) H2
def wRevS (te : TE) : TE := fun σ H Q => te σ H fun x H1 => match x with
  | .ref a => opt (lst? H1 a) fun xs => ∀ p, H1 p = none → Q (.ref p) (upd H1 p (.lst xs.reverse))
  | _ => False
def wListR (te : TE) : TE := fun σ H Q => te σ H fun x H1 => match x with
  | .int n => RgOk 0 n ∧ ∀ q, H1 q = none → Q (.ref q) (upd H1 q (.lst (rgV 0 n)))
  | _ => False
def popV (x : V) (vs : List V) (H : Hp) (Q : VK) : Prop := match x, vs with
  | .ref l, [] => (match H l with
    | some (.lst xs) => opt xs[xs.length - 1]? fun y => Q y (upd H l (.lst xs.dropLast))
    | _ => False)
  | _, _ => False
section
variable {X : Cx} {e : Expr} {te : TE} {pos p : Pos}
theorem s_aug {i : Nat} {x : Str} {op : Operator} {ti : TIp} {pos' : Pos} (hN : X.N.Nodup) (hi : X.N[i]? = some x) (hx : Loc X.env.scope x) (he : PE X e te) (ho : PIp X op ti) (hf : X.fn x = true ∨ X.env.scope.names.lookup x = some .local := by first | exact .inl rfl | exact .inr rfl | assumption) :
    PS X (.AugAssign (.Name x pos') op e pos) (wAug i te ti) := (ps_aug hN hi hx he ho hf).imp fun D σ H q => by
  obtain ⟨o, e1, q⟩ := opt_ex q
  obtain ⟨v, e2, q⟩ := opt_ex q
  exact ⟨v, by rw [e1, e2], q⟩
theorem d_revs {k : Nat} {p1 p2 p3 : Pos} (he : PE X e te) : PE X (.Subscript e (.Slice none none (some (.UnaryOp .USub (.Constant (.int 1) k p1) p2)) p3) pos) (wRevS te) := (pe_revL he.up).imp fun σ H Q q => ⟨_, q, fun x H1 z => by
  split at z
  · obtain ⟨xs, e, z⟩ := opt_ex z
    exact ⟨_, xs, rfl, lst?_sq e, z⟩
  · exact z.elim⟩
theorem d_listR {a : Expr} {ta : TE} {p2 pos2 : Pos} (hm : X.mg "list" = none) (hm2 : X.mg "range" = none) (ha : PE X a ta) (hc : X.calm = true := by rfl) (hg : Gl X "list" := by rfl) (hg2 : Gl X "range" := by rfl) (hs : starEach [a] X.env = (false, eval a X.env) :: starEach [] X.env := by rfl) (hs2 : starEach [.Call (.Name "range" p2) [a] [] pos2] X.env = (false, eval (.Call (.Name "range" p2) [a] [] pos2) X.env) :: starEach [] X.env := by rfl) :
    PE X (.Call (.Name "list" p) [.Call (.Name "range" p2) [a] [] pos2] [] pos) (wListR ta) := (pe_listRg hc hg hm (prg_1 hg2 hm2 ha.up hs) hs2).imp fun σ H Q q => ⟨_, q, fun x H1 z => by
  split at z
  · exact ⟨_, rfl, z⟩
  · exact z.elim⟩
theorem m_pop : MtR X "list.pop" popV := MtR.imp mt_pop fun x vs H Q q => by
  unfold popV at q
  split at q
  · split at q
    · rename_i xs e
      obtain ⟨y, e3, q⟩ := opt_ex q
      exact ⟨_, xs, y, rfl, rfl, e, e3, q⟩
    · exact q.elim
  · exact q.elim
end

/-! ### a def with its promise -/
structure Fn (P : Program) (w : World) (K : PySem.W.Frag) (mg : Str → Option Value) (base : Heap) (k : Nat) (f : Addr) (ps : List Str) (sp : Sp) : Prop where
  ex : ∃ fd, FnOk P w K mg base (L2.CX P w) k f fd ps sp ∧ Binds K fd ps []
  kp : PySem.W.keepIn K (.ref f) = true
/-- with one default value or more -/
structure FnDf (P : Program) (w : World) (K : PySem.W.Frag) (mg : Str → Option Value) (base : Heap) (k : Nat) (f : Addr) (ps : List Str) (dvs : List V) (sp : Sp) : Prop where
  ex : ∃ fd ds, FnOk P w K mg base (L2.CX P w) k f fd ps sp ∧ Vals dvs ds ∧ Binds K fd ps ds
  kp : PySem.W.keepIn K (.ref f) = true
section
variable {P : Program} {w : World} {K : PySem.W.Frag} {mg : Str → Option Value} {base : Heap}
theorem po_cx {CX : CXT} {N : List Str} {qual : Str} {scope : Scope} {f : Addr} {cd : Value} {A : Around} {outer : List Env} {s : Shared} {H : Hp} {E : XK} :
    PassesOwn (model P w) (cxOf CX P w K mg base N qual scope f cd A outer s H E).A (cxOf CX P w K mg base N qual scope f cd A outer s H E).env (cxOf CX P w K mg base N qual scope f cd A outer s H E).xe := passes_of (X := cxOf CX P w K mg base N qual scope f cd A outer s H E) rfl
theorem px_cx {N : List Str} {qual : Str} {scope : Scope} {f : Addr} {cd : Value} {A : Around} {outer : List Env} {s : Shared} {H : Hp} {E : XK} :
    Passes (L2.CX P w) (cxOf (L2.CX P w) P w K mg base N qual scope f cd A outer s H E) E :=
  passes_call (X := cxOf (L2.CX P w) P w K mg base N qual scope f cd A outer s H E) (W := fun cls d _ H => E cls d H) (takes_of rfl rfl rfl rfl) fun _ _ _ _ h => h
/-- THE RULE for a def: its derivation and its meaning -/
theorem Fn.mk' {x qual : Str} {params : Arguments} {body : List Stmt} {scope : Scope} {f : Addr} {fd : FuncData} {N ps : List Str} {k : Nat} {sp : Sp} {t : XK → TS} (F : FunD K x qual params body scope [] [] f fd) (S : FnScope N ps scope) (len : ∀ vs H Q E, sp vs H Q E → vs.length = ps.length)
    (bd : ∀ (kV doc pm : Value) (an : Option Addr) (cdv ct : Value) (us : List Value), us.length = ps.length → bindArgs (PySem.W.fnOf x qual params body scope .none kV doc pm an cdv ct) ⟨us, []⟩ = pure (ps.zip us))
    (der : ∀ (cdv : Value) (A : Around) (outer : List Env) (s : Shared) (H : Hp) (E : XK), Room k (A.deeper (envOfC qual scope s.heap.objs.size f cdv)) → PSs (cxOf (L2.CX P w) P w K mg base N qual scope f cdv A outer s H E) body (t E))
    (sem : ∀ vs H Q E, sp vs H Q E → t E { nx := fun _ H' => Q .non H', rt := Q } (start N vs) H) : Fn P w K mg base (k + 1) f ps sp :=
  ⟨⟨fd, F.ok S len fun cdv A outer s H vs Q E hr h => ⟨t E, der cdv A outer s H E hr, sem vs H Q E h⟩, F.bindsN bd⟩, F.kp⟩
variable {X : Cx} {k j : Nat} {f C : Addr} {ps : List Str} {sp : Sp} {E : XK} {x m fl : Str} {p pos apos : Pos} {e o : Expr} {es : List Expr} {te : TE} {t : TA}
theorem Fn.call (F : Fn X.prog X.w X.K X.mg X.base k f ps sp) (hm : X.mg x = some (.ref f)) (hr : Room k X.A) (hx : Passes (L2.CX X.prog X.w) X E) (ha : PA X (e :: es) t) (hg : Gl X x := by rfl) (hdb : (x == ("__debug__" : Str)) = false := by decide)
    (he : starEach (e :: es) X.env = (false, eval e X.env) :: starEach es X.env := by rfl) (hpl : (backTo pos (starEach es X.env)).any (·.1) = false := by rfl) : PE X (.Call (.Name x p) (e :: es) [] pos) (wCall sp E t) := by
  obtain ⟨fd, G, b⟩ := F.ex
  exact d_call G hr hm F.kp b hx ha hg hdb he hpl
theorem Fn.meth {pl : Sem Bool} (F : Fn X.prog X.w X.K X.mg X.base k f ps sp) (c : Cls X.K C) (hm : Meth X.K C m f) (hr : Room k X.A) (hx : Passes (L2.CX X.prog X.w) X E) (he : PE X o te) (ha : PA X (e :: es) t)
    (ht : eval (.Call (.Attribute o m apos) (e :: es) [] pos) X.env = (do
      let ov ← eval o X.env
      standAt apos.atName
      let (f, first) ← holding [ov] (getMethod ov m pl)
      callWith pos f first (backTo pos (starEach (e :: es) X.env)) (backToKw pos (keywordEach [] X.env))))
    (hst : starEach (e :: es) X.env = (false, eval e X.env) :: starEach es X.env := by rfl) (hpl : (backTo pos (starEach es X.env)).any (·.1) = false := by rfl) :
    PE X (.Call (.Attribute o m apos) (e :: es) [] pos) (wMeth C m sp E te t) := by
  obtain ⟨fd, G, b⟩ := F.ex
  exact d_meth (pl := pl) c hm G hr b hx he ha hst hpl ht
theorem Fn.meth0 {pl : Sem Bool} (F : Fn X.prog X.w X.K X.mg X.base k f ps sp) (c : Cls X.K C) (hm : Meth X.K C m f) (hr : Room k X.A) (hx : Passes (L2.CX X.prog X.w) X E) (he : PE X o te)
    (ht : eval (.Call (.Attribute o m apos) [] [] pos) X.env = (do
      let ov ← eval o X.env
      standAt apos.atName
      let (f, first) ← holding [ov] (getMethod ov m pl)
      callWith pos f first (backTo pos (starEach [] X.env)) (backToKw pos (keywordEach [] X.env)))) :
    PE X (.Call (.Attribute o m apos) [] [] pos) (wMeth C m sp E te tNil) := by
  obtain ⟨fd, G, b⟩ := F.ex
  exact d_meth0 (pl := pl) c hm G hr b hx he ht
theorem Fn.make (F : Fn X.prog X.w X.K X.mg X.base k f ps sp) (M : Mk X.K C f) (hm : X.mg x = some (.ref C)) (hr : Room (k + 1) X.A) (hx : Passes (L2.CX X.prog X.w) X E) (ha : PA X (e :: es) t) (hg : Gl X x := by rfl) (hdb : (x == ("__debug__" : Str)) = false := by decide)
    (he : starEach (e :: es) X.env = (false, eval e X.env) :: starEach es X.env := by rfl) (hpl : (backTo pos (starEach es X.env)).any (·.1) = false := by rfl) : PE X (.Call (.Name x p) (e :: es) [] pos) (wCall (mkOf C sp) E t) := by
  obtain ⟨fd, G, b⟩ := F.ex
  exact d_make M G hr hm b hx ha hg hdb he hpl
theorem Fn.prop {pr : Addr} (F : Fn X.prog X.w X.K X.mg X.base k f ps sp) (c : Cls X.K C) (hp : PropOf X.K C fl pr f) (hr : Room (k + 1) X.A) (he : PE X e te) (hab : attributeBase e fl X.env (eval e X.env) = eval e X.env := by rfl) : PE X (.Attribute e fl pos) (wProp C sp te) := by
  obtain ⟨fd, G, b⟩ := F.ex
  exact d_prop c hp G hr b he hab
theorem Fn.stat {mc : Value} {q : Addr} {rest : List Value} {pl : Sem Bool} (F : Fn X.prog X.w X.K X.mg X.base k f ps sp) (hm : X.mg x = some (.ref C)) (r : ClX.CRead X.K C mc) (ea : PySem.W.findCls X.K (.ref C) mc m = some (.get (.builtin "staticmethod.__get__") (.ref q) .none (.ref C))) (hrc : PySem.W.recIn X.K q "staticmethod" = some (.ref f :: rest))
    (hr : Room k X.A) (hx : Passes (L2.CX X.prog X.w) X E) (ha : PA X (e :: es) t)
    (ht : eval (.Call (.Attribute (.Name x p) m apos) (e :: es) [] pos) X.env = (do
      let ov ← eval (.Name x p) X.env
      standAt apos.atName
      let (f, first) ← holding [ov] (getMethod ov m pl)
      callWith pos f first (backTo pos (starEach (e :: es) X.env)) (backToKw pos (keywordEach [] X.env))))
    (hg : Gl X x := by rfl) (hdb : (x == ("__debug__" : Str)) = false := by decide)
    (hst : starEach (e :: es) X.env = (false, eval e X.env) :: starEach es X.env := by rfl) (hpl : (backTo pos (starEach es X.env)).any (·.1) = false := by rfl) :
    PE X (.Call (.Attribute (.Name x p) m apos) (e :: es) [] pos) (wCall sp E t) := by
  obtain ⟨fd, G, b⟩ := F.ex
  exact d_smeth (pl := pl) hm r ea hrc G hr F.kp b hx ha hg hdb hst hpl ht
theorem Fn.op {op : Operator} (F : Fn X.prog X.w X.K X.mg X.base k f ps sp) (hc : PySem.W.selfFirst X.K C = true) (hs : PySem.W.findIn X.K (.ref C) (PySem.dunder op.info.2) = some (some (.ref f))) (hf : PySem.W.isFn X.K (.ref f) = true) (hr : Room k X.A) (hx : Passes (L2.CX X.prog X.w) X E) : OpR X (binaryOp op) (ownV C sp E) := by
  obtain ⟨fd, G, b⟩ := F.ex
  exact op_own G hr b hx hc hs hf
theorem Fn.len (F : Fn X.prog X.w X.K X.mg X.base k f ps sp) (hs : PySem.W.findIn X.K (.ref C) "__len__" = some (some (.ref f))) (hf : PySem.W.isFn X.K (.ref f) = true) (hr : Room (k + 1) X.A) : CallR X (.builtin "len") (lenOwnV C sp) := by
  obtain ⟨fd, G, b⟩ := F.ex
  exact c_lenOwn G hr b hs hf
/-- o[i] = v of an instance of the class at C -/
def setOwnV (C : Addr) (sp : Sp) (E : XK) (o i v : V) (H : Hp) (Q : Hp → Prop) : Prop := ins? C H o fun _ _ _ => sp [o, i, v] H (fun _ H' => Q H') E
theorem Fn.setI (F : Fn X.prog X.w X.K X.mg X.base k f ps sp) (hq : PySem.W.noSeq X.K C = true) (hs : PySem.W.findIn X.K (.ref C) "__setitem__" = some (some (.ref f))) (hf : PySem.W.isFn X.K (.ref f) = true) (hr : Room k X.A) (hx : Passes (L2.CX X.prog X.w) X E) : PSet X (setOwnV C sp E) := by
  obtain ⟨fd, G, b⟩ := F.ex
  intro pins s σ H o i v ov iv u Q I r1 r2 r3 q
  obtain ⟨a, dx, fs, rfl, ea, q⟩ := ins?_ex q
  obtain rfl : ov = Value.ref a := r1
  obtain ⟨m, fr⟩ := I.fr
  obtain ⟨od, J⟩ := ins_at I ea
  refine PySem.W.ksp_setItem fr I.ok.mod.kin J hq hs hf ?_
  refine thn (run_fn (us := [.ref a, iv, u]) (vs := [.ref a, i, v]) (dvs := []) G hr b .nil hx I (.cons rfl (.cons r2 (.cons r3 .nil))) q) fun _ _ h => ?_
  obtain ⟨_, H', I', _, q'⟩ := h
  exact ⟨H', I', q'⟩
end
end Ly

/-! Sem0 -/
set_option Elab.async false
set_option linter.all false
set_option maxRecDepth 100000
set_option maxHeartbeats 4000000
namespace Ly
open PySem PySem.Spec PyProof.Rows L2
structure CA where
  K : PySem.W.Frag
  Cast : Addr
  Calendar : Addr
  Binder : Addr
  Heap : Addr

/-! ### running a reading -/
theorem r_seq {t u : TS} {D : Ends} {σ : L2.St} {H : Hp} : tSeq t u D σ H = t { D with nx := u D } σ H := rfl
theorem r_next {D : Ends} {σ : L2.St} {H : Hp} : tNext D σ H = D.nx σ H := rfl
theorem r_cont {D : Ends} {σ : L2.St} {H : Hp} : tCont D σ H = D.ct σ H := rfl
theorem r_break {D : Ends} {σ : L2.St} {H : Hp} : tBreak D σ H = D.bk σ H := rfl
theorem r_asg {t : TE} {g : TG} {D : Ends} {σ : L2.St} {H : Hp} : tAsg t g D σ H = t σ H fun x H1 => g x σ H1 D.nx := rfl
theorem r_name {i : Nat} {v : V} {σ : L2.St} {H : Hp} {Q : L2.St → Hp → Prop} : gName i v σ H Q = Q (σ.set i (some v)) H := rfl
theorem r_sub {to ti : TE} {t : TSet} {v : V} {σ : L2.St} {H : Hp} {Q : L2.St → Hp → Prop} : gSub to ti t v σ H Q = to σ H fun o H1 => ti σ H1 fun i H2 => t o i v H2 fun H3 => Q σ H3 := rfl
theorem r_drop {t : TE} {D : Ends} {σ : L2.St} {H : Hp} : tDrop t D σ H = t σ H fun _ H1 => D.nx σ H1 := rfl
theorem r_ret {t : TE} {D : Ends} {σ : L2.St} {H : Hp} : tRet t D σ H = t σ H D.rt := rfl
theorem r_retN {D : Ends} {σ : L2.St} {H : Hp} : tRetN D σ H = D.rt .non H := rfl
theorem r_if {c : TT} {t u : TS} {D : Ends} {σ : L2.St} {H : Hp} : tIfS c t u D σ H = c σ H fun b H1 => if b = true then t D σ H1 else u D σ H1 := rfl
theorem r_ite {c : TT} {t u : TE} {σ : L2.St} {H : Hp} {Q : VK} : wIte c t u σ H Q = c σ H fun b H1 => if b = true then t σ H1 Q else u σ H1 Q := rfl
theorem r_never {D : Ends} {σ : L2.St} {H : Hp} : tNever D σ H = False := rfl
theorem r_var {i : Nat} {σ : L2.St} {H : Hp} {Q : VK} : wVar i σ H Q = opt σ[i]? fun o => opt o fun v => Q v H := rfl
theorem r_c {v : V} {σ : L2.St} {H : Hp} {Q : VK} : wC v σ H Q = Q v H := rfl
theorem r_bin {r : R2} {ta tb : TE} {σ : L2.St} {H : Hp} {Q : VK} : wBin r ta tb σ H Q = ta σ H fun x H1 => tb σ H1 fun y H2 => r x y H2 Q := rfl
theorem r_un {r : V → Hp → VK → Prop} {ta : TE} {σ : L2.St} {H : Hp} {Q : VK} : wUn r ta σ H Q = ta σ H fun x H1 => r x H1 Q := rfl
theorem r_tB {t : TE} {σ : L2.St} {H : Hp} {Q : Bool → Hp → Prop} : wTB t σ H Q = t σ H fun x H1 => toB x H1 Q := rfl
theorem r_T {t : TE} {σ : L2.St} {H : Hp} {Q : Bool → Hp → Prop} : wT t σ H Q = t σ H fun x H1 => truV x H1 Q := rfl
theorem r_chain {r r' : R2} {ta tb tc : TE} {σ : L2.St} {H : Hp} {Q : VK} : wChain r r' ta tb tc σ H Q = ta σ H fun x H1 => tb σ H1 fun y H2 => r x y H2 fun z H3 => toB z H3 fun k H3 => if k = true then tc σ H3 fun v H4 => r' y v H4 Q else Q (.bl false) H3 := rfl
theorem r_and {t u : TT} {σ : L2.St} {H : Hp} {Q : Bool → Hp → Prop} : tAnd t u σ H Q = t σ H fun c H1 => if c = true then u σ H1 Q else Q false H1 := rfl
theorem r_or {t u : TT} {σ : L2.St} {H : Hp} {Q : Bool → Hp → Prop} : tOr t u σ H Q = t σ H fun c H1 => if c = true then Q true H1 else u σ H1 Q := rfl
theorem r_not {t : TT} {σ : L2.St} {H : Hp} {Q : Bool → Hp → Prop} : tNot t σ H Q = t σ H fun c H1 => Q (!c) H1 := rfl
theorem r_andV {ta tb : TE} {σ : L2.St} {H : Hp} {Q : VK} : wAnd ta tb σ H Q = ta σ H fun x H1 => toB x H1 fun k H1 => if k = true then tb σ H1 Q else Q (.bl false) H1 := rfl
theorem r_orV {ta tb : TE} {σ : L2.St} {H : Hp} {Q : VK} : wOr ta tb σ H Q = ta σ H fun x H1 => toB x H1 fun k H1 => if k = true then Q (.bl true) H1 else tb σ H1 Q := rfl
theorem r_notV {ta : TE} {σ : L2.St} {H : Hp} {Q : VK} : wNot ta σ H Q = ta σ H fun x H1 => toB x H1 fun k H1 => Q (.bl (!k)) H1 := rfl
theorem r_nil {σ : L2.St} {H : Hp} {Q : List V → Hp → Prop} : tNil σ H Q = Q [] H := rfl
theorem r_cons {ta : TE} {tr : TA} {σ : L2.St} {H : Hp} {Q : List V → Hp → Prop} : tCons ta tr σ H Q = ta σ H fun x H1 => tr σ H1 fun xs H2 => Q (x :: xs) H2 := rfl
theorem r_lst {t : TA} {σ : L2.St} {H : Hp} {Q : VK} : tLst t σ H Q = t σ H fun xs H1 => xs.length ≤ sizeLine ∧ ∀ p, H1 p = none → Q (.ref p) (upd H1 p (.lst xs)) := rfl
theorem r_tup {t : TA} {σ : L2.St} {H : Hp} {Q : VK} : tTup t σ H Q = t σ H fun xs H1 => xs.length ≤ sizeLine ∧ ∀ p, H1 p = none → Q (.ref p) (upd H1 p (.tup xs)) := rfl
theorem r_cb {r : List V → Hp → VK → Prop} {t : TA} {σ : L2.St} {H : Hp} {Q : VK} : wCB r t σ H Q = t σ H fun vs H1 => r vs H1 Q := rfl
theorem r_call {sp : Sp} {E : XK} {t : TA} {σ : L2.St} {H : Hp} {Q : VK} : wCall sp E t σ H Q = t σ H fun vs H1 => sp vs H1 Q E := rfl
theorem r_lm {r : V → List V → Hp → VK → Prop} {te : TE} {t : TA} {σ : L2.St} {H : Hp} {Q : VK} : wLM r te t σ H Q = te σ H fun x H1 => match x with
  | .ref p => opt (lst? H1 p) fun _ => t σ H1 fun xs H2 => r x xs H2 Q
  | _ => False := rfl
theorem r_sm {r : V → List V → Hp → VK → Prop} {te : TE} {t : TA} {σ : L2.St} {H : Hp} {Q : VK} : wSM r te t σ H Q = te σ H fun x H1 => match x with
  | .str _ => t σ H1 fun xs H2 => r x xs H2 Q
  | _ => False := rfl
theorem r_fld {C : Addr} {f : Str} {te : TE} {σ : L2.St} {H : Hp} {Q : VK} : wFld C f te σ H Q = te σ H fun x H1 => ins? C H1 x fun _ _ fs => opt (fs.lookup f) fun v => Q v H1 := rfl
theorem r_prop {C : Addr} {sp : Sp} {te : TE} {σ : L2.St} {H : Hp} {Q : VK} : wProp C sp te σ H Q = te σ H fun x H1 => ins? C H1 x fun _ _ _ => sp [x] H1 Q E0 := rfl
theorem r_meth {C : Addr} {m : Str} {sp : Sp} {E : XK} {te : TE} {t : TA} {σ : L2.St} {H : Hp} {Q : VK} : wMeth C m sp E te t σ H Q = te σ H fun x H1 => ins? C H1 x fun _ _ fs => fs.lookup m = none ∧ t σ H1 fun vs H2 => sp (x :: vs) H2 Q E := rfl
theorem r_setF {C : Addr} {f : Str} {te tv : TE} {D : Ends} {σ : L2.St} {H : Hp} : wSetF C f te tv D σ H = tv σ H fun y H1 => te σ H1 fun x H2 => ins? C H2 x fun a dx fs => fs.length < 1000 ∧ D.nx σ (upd H2 a (.ins C dx (putF f y fs))) := rfl
theorem r_aug {i : Nat} {te : TE} {ti : TIp} {D : Ends} {σ : L2.St} {H : Hp} : wAug i te ti D σ H = opt σ[i]? fun o => opt o fun x => te σ H fun y H1 => ti x y H1 fun z H2 => D.nx (σ.set i (some z)) H2 := rfl
theorem r_slice {te : TE} {tl th : TOp} {σ : L2.St} {H : Hp} {Q : VK} : wSlice te tl th σ H Q = te σ H fun x H1 => tl σ H1 fun l H2 => th σ H2 fun u H3 => sliceV x l u H3 Q := rfl
theorem r_no {σ : L2.St} {H : Hp} {Q : Option Int → Hp → Prop} : wNo σ H Q = Q none H := rfl
theorem r_some {t : TE} {σ : L2.St} {H : Hp} {Q : Option Int → Hp → Prop} : wSome t σ H Q = t σ H fun x H1 => match x with
  | .int i => Q (some i) H1
  | _ => False := rfl
theorem r_revS {te : TE} {σ : L2.St} {H : Hp} {Q : VK} : wRevS te σ H Q = te σ H fun x H1 => match x with
  | .ref a => opt (lst? H1 a) fun xs => ∀ p, H1 p = none → Q (.ref p) (upd H1 p (.lst xs.reverse))
  | _ => False := rfl
theorem r_listR {te : TE} {σ : L2.St} {H : Hp} {Q : VK} : wListR te σ H Q = te σ H fun x H1 => match x with
  | .int n => RgOk 0 n ∧ ∀ q, H1 q = none → Q (.ref q) (upd H1 q (.lst (rgV 0 n)))
  | _ => False := rfl
theorem r_g2 {g1 g2 : TG} {v : V} {σ : L2.St} {H : Hp} {Q : L2.St → Hp → Prop} : wG2 g1 g2 v σ H Q = match v with
  | .ref a => opt (tup? H a) fun xs => match xs with
    | [x, y] => g1 x σ H fun σ' H' => g2 y σ' H' Q
    | _ => False
  | _ => False := rfl
theorem r_yes {σ : L2.St} {H : Hp} {Q : Bool → Hp → Prop} : tYes σ H Q = Q true H := rfl
theorem r_for {wi : TF} {g : TG} {tb : TS} {D : Ends} {σ : L2.St} {H : Hp} : wFor wi g tb D σ H = wi σ H fun F H1 => forR F g tb D F.n 0 σ H1 := rfl
theorem r_comp {wi : TF} {g : TG} {tt : TT} {te : TE} {vs : List Nat} {σ : L2.St} {H : Hp} {Q : VK} : wComp wi g tt te vs σ H Q = wi σ H fun F H1 => ∀ D, H1 D = none → lcR F g vs tt te σ D Q F.n 0 (upd H1 D (.lst [])) := rfl
theorem r_iter {te : TE} {σ : L2.St} {H : Hp} {R : FI → Hp → Prop} : wIter te σ H R = te σ H fun x H1 => match x with
  | .ref a => (match H1 a with
    | some (.lst xs) => R (fiL a xs) H1
    | some (.frz _ (.lst xs)) => R (fiL a xs) H1
    | _ => False)
  | _ => False := rfl
theorem r_iterT {te : TE} {σ : L2.St} {H : Hp} {R : FI → Hp → Prop} : wIterT te σ H R = te σ H fun x H1 => match x with
  | .ref a => opt (tup? H1 a) fun xs => R (fiT a xs) H1
  | _ => False := rfl
theorem r_iterS {te : TE} {σ : L2.St} {H : Hp} {R : FI → Hp → Prop} : wIterS te σ H R = te σ H fun x H1 => match x with
  | .str z => R (fiS z) H1
  | _ => False := rfl
theorem r_rng1 {te : TE} {σ : L2.St} {H : Hp} {R : FI → Hp → Prop} : wRng1 te σ H R = te σ H fun x H1 => match x with
  | .int j => rngOk j ∧ R (fiR 0 j.toNat) H1
  | _ => False := rfl
theorem r_rng2 {ta tb : TE} {σ : L2.St} {H : Hp} {R : FI → Hp → Prop} : wRng2 ta tb σ H R = ta σ H fun x H1 => tb σ H1 fun y H2 => match x, y with
  | .int i, .int j => (rngOk i ∧ rngOk j) ∧ R (fiR i (j - i).toNat) H2
  | _, _ => False := rfl
theorem r_rngD {ta tb : TE} {σ : L2.St} {H : Hp} {R : FI → Hp → Prop} : wRngD ta tb σ H R = ta σ H fun x H1 => tb σ H1 fun y H2 => match x, y with
  | .int i, .int j => (rngOk i ∧ rngOk j) ∧ R (fiC i (-1) (i - j).toNat) H2
  | _, _ => False := rfl
theorem r_enum {te : TE} {σ : L2.St} {H : Hp} {R : FI → Hp → Prop} : wEnum te σ H R = te σ H fun x H1 => match x with
  | .ref a => opt (lst? H1 a) fun xs => R (fiE a xs) H1
  | _ => False := rfl
theorem r_zip {ta tb : TE} {σ : L2.St} {H : Hp} {R : FI → Hp → Prop} : wZip ta tb σ H R = ta σ H fun x H1 => tb σ H1 fun y H2 => match x, y with
  | .ref a, .ref b => opt (lst? H2 a) fun xs => opt (lst? H2 b) fun ys => R (fiZ a b xs ys) H2
  | _, _ => False := rfl

/-! ### lists of slots, heaps -/
theorem set0 {x y : Option V} {l : L2.St} : (x :: l).set 0 y = y :: l := rfl
theorem setS {x y : Option V} {n : Nat} {l : L2.St} : (x :: l).set (n + 1) y = x :: l.set n y := rfl
theorem upd_old {H : Hp} {p a : Addr} {o : HO} (hp : H p = none) (ha : (H a).isSome = true) : upd H p o a = H a := upd_ne fun e => by
  subst e
  rw [hp] at ha
  cases ha
theorem upd_old' {H : Hp} {p a : Addr} {o u : HO} (hp : H p = none) (ha : H a = some u) : upd H p o a = some u := by
  rw [upd_old hp (by rw [ha]; rfl)]
  exact ha
/-- two known objects of unlike content -/
def lstO : Option HO → Option (List V)
  | some (.lst xs) => some xs
  | some (.frz _ (.lst xs)) => some xs
  | _ => none
def lstW : Option HO → Option (List V)
  | some (.lst xs) => some xs
  | _ => none
def tupO : Option HO → Option (List V)
  | some (.tup xs) => some xs
  | some (.frz _ (.tup xs)) => some xs
  | _ => none
def seqO : Option HO → Option (List V)
  | some (.lst xs) => some xs
  | some (.frz _ (.lst xs)) => some xs
  | some (.tup xs) => some xs
  | some (.frz _ (.tup xs)) => some xs
  | _ => none
def insO (C : Addr) : Option HO → Option (Addr × List (Str × V))
  | some (.ins C' dx fs) => if C' = C then some (dx, fs) else none
  | _ => none
theorem lst?_eq {H : Hp} {a : Addr} : lst? H a = lstO (H a) := rfl
theorem tup?_eq {H : Hp} {a : Addr} : tup? H a = tupO (H a) := rfl
theorem seq?_eq {H : Hp} {a : Addr} : seq? H a = seqO (H a) := rfl
theorem lstO_l {xs : List V} : lstO (some (.lst xs)) = some xs := rfl
theorem lstO_f {o : Obj} {xs : List V} : lstO (some (.frz o (.lst xs))) = some xs := rfl
theorem lstW_l {xs : List V} : lstW (some (.lst xs)) = some xs := rfl
theorem tupO_t {xs : List V} : tupO (some (.tup xs)) = some xs := rfl
theorem seqO_l {xs : List V} : seqO (some (.lst xs)) = some xs := rfl
theorem seqO_t {xs : List V} : seqO (some (.tup xs)) = some xs := rfl
theorem insO_i {C dx : Addr} {fs : List (Str × V)} : insO C (some (.ins C dx fs)) = some (dx, fs) := by
  show (if C = C then _ else _) = _
  rw [if_pos rfl]
theorem same_upd {H : Hp} {p : Addr} {o : HO} (hp : H p = none) : Same H (upd H p o) := fun b u e => upd_old' hp e
theorem same_eq {H H' : Hp} {a : Addr} (s : Same H H') (ha : (H a).isSome = true) : H' a = H a := by
  cases e : H a with
  | none => rw [e] at ha; cases ha
  | some u => exact s a u e
theorem same_lst {H H' : Hp} {a : Addr} {xs : List V} (s : Same H H') (h : lst? H a = some xs) : lst? H' a = some xs := by
  unfold lst? at h ⊢
  cases e : H a with
  | none => rw [e] at h; cases h
  | some u => rw [s a u e]; rw [e] at h; exact h
theorem same_seq {H H' : Hp} {a : Addr} {xs : List V} (s : Same H H') (h : seq? H a = some xs) : seq? H' a = some xs := by
  unfold seq? at h ⊢
  cases e : H a with
  | none => rw [e] at h; cases h
  | some u => rw [s a u e]; rw [e] at h; exact h
theorem lst_seq {H : Hp} {a : Addr} {xs : List V} (h : lst? H a = some xs) : seq? H a = some xs := by
  unfold lst? at h
  unfold seq?
  split at h <;> simp_all
theorem atI_map {ns : List Int} {i : Int} (h0 : 0 ≤ i) (h1 : i < ns.length) : atI (ns.map V.int) i = some (.int (ns.getD i.toNat 0)) := by
  unfold atI ixN
  rw [if_pos h0, List.length_map, if_pos h1]
  have : i.toNat < ns.length := by omega
  simp [List.getD, this]

section
variable {i j k : Int} {H : Hp} {Q : VK} {a b p l : Addr} {z y : Str} {v x : V} {vs xs : List V} {Qh : Hp → Prop} {QB : Bool → Hp → Prop}
theorem v_add_i : addV (.int i) (.int j) H Q = Q (.int (i + j)) H := rfl
theorem v_add_s : addV (.str z) (.str y) H Q = (z.length + y.length ≤ sizeLine ∧ Q (.str (z ++ y)) H) := rfl
theorem v_add_l : addV (.ref a) (.ref b) H Q = opt (lstW (H a)) fun xs => opt (lstW (H b)) fun zs => xs.length + zs.length ≤ sizeLine ∧ ∀ p, H p = none → Q (.ref p) (upd H p (.lst (xs ++ zs))) := by
  unfold addV
  show (match H a, H b with
    | some (.lst xs), some (.lst zs) => xs.length + zs.length ≤ sizeLine ∧ ∀ p, H p = none → Q (.ref p) (upd H p (.lst (xs ++ zs)))
    | _, _ => False) = _
  generalize H a = o1
  generalize H b = o2
  cases o1 with
  | none => rfl
  | some o1 =>
    cases o2 with
    | none => cases o1 <;> rfl
    | some o2 => cases o1 <;> cases o2 <;> rfl
theorem v_sub : subV (.int i) (.int j) H Q = Q (.int (i - j)) H := rfl
theorem v_mul_i : mulV (.int i) (.int j) H Q = (CMul i j ∧ Q (.int (i * j)) H) := rfl
theorem v_mul_l : mulV (.ref a) (.int k) H Q = opt (lstW (H a)) fun xs => -(2 ^ 63) ≤ k ∧ k < 2 ^ 63 ∧ xs.length * k.toNat ≤ sizeLine ∧ ∀ p, H p = none → Q (.ref p) (upd H p (.lst (List.replicate k.toNat xs).flatten)) := by
  unfold mulV
  simp only []
  generalize H a = o
  cases o with
  | none => rfl
  | some o => cases o <;> rfl
theorem v_mod : modV (.int i) (.int j) H Q = (0 < j ∧ Q (.int (i % j)) H) := rfl
theorem v_div : divV (.int i) (.int j) H Q = ((0 < j ∧ j < 1073741824) ∧ Q (.int (i / j)) H) := rfl
theorem v_shl : shlV (.int i) (.int j) H Q = (CPow i j ∧ Q (.int (i * 2 ^ j.toNat)) H) := rfl
theorem v_shr : shrV (.int i) (.int j) H Q = (0 ≤ j ∧ Q (.int (i / 2 ^ j.toNat)) H) := rfl
theorem v_band : bandV (.int i) (.int j) H Q = Q (.int (Builtin.bitAnd i j)) H := rfl
theorem v_neg : negV (.int i) H Q = Q (.int (-i)) H := rfl
theorem v_lt : ltV (.int i) (.int j) H Q = Q (.bl (decide (i < j))) H := rfl
theorem v_lt_s : ltV (.str z) (.str y) H Q = Q (.bl (decide (z.cps.toList < y.cps.toList))) H := rfl
theorem v_le : leV (.int i) (.int j) H Q = Q (.bl (decide (i ≤ j))) H := rfl
theorem v_le_s : leV (.str z) (.str y) H Q = Q (.bl (!decide (y.cps.toList < z.cps.toList))) H := rfl
theorem v_gt : gtV (.int i) (.int j) H Q = Q (.bl (decide (j < i))) H := rfl
theorem v_ge : geV (.int i) (.int j) H Q = Q (.bl (decide (j ≤ i))) H := rfl
theorem v_eq_i : eqSV (.int i) (.int j) H Q = Q (.bl (decide (i = j))) H := by
  unfold eqSV
  apply propext
  simp only [scal, true_and, V.int.injEq]
theorem v_ne_i : neSV (.int i) (.int j) H Q = Q (.bl (!decide (i = j))) H := by
  unfold neSV
  apply propext
  simp only [scal, true_and, V.int.injEq]
theorem v_eq_s : eqSV (.str z) (.str y) H Q = Q (.bl (decide (z = y))) H := by
  unfold eqSV
  apply propext
  simp only [scal, true_and, V.str.injEq]
theorem v_ne_s : neSV (.str z) (.str y) H Q = Q (.bl (!decide (z = y))) H := by
  unfold neSV
  apply propext
  simp only [scal, true_and, V.str.injEq]
theorem v_in_l {neg : Bool} : inVV neg x (.ref a) H Q = (flatV x = true ∧ opt (seqO (H a)) fun xs => xs.all flatV = true ∧ Q (.bl (if neg then !inV x xs else inV x xs)) H) := rfl
theorem v_in_s {c : Nat} {neg : Bool} : inVV neg (.str ⟨#[c]⟩) (.str z) H Q = Q (.bl (if neg then !decide (c ∈ z.cps.toList) else decide (c ∈ z.cps.toList))) H := by
  unfold inVV
  simp
theorem v_idx : idxV (.ref a) (.int i) H Q = opt (seqO (H a)) fun xs => opt (atI xs i) fun v => Q v H := rfl
theorem v_idx_s : idxV (.str z) (.int i) H Q = (z.length ≤ sizeLine ∧ opt (atI z.cps.toList i) fun c => Q (.str ⟨#[c]⟩) H) := rfl
theorem v_slice {lo hi : Option Int} : sliceV (.ref a) lo hi H Q = opt (lstO (H a)) fun xs => ∀ q, H q = none → Q (.ref q) (upd H q (.lst (cutV xs lo hi))) := rfl
theorem v_len : lenV [.ref a] H Q = opt (seqO (H a)) fun xs => Q (.int xs.length) H := rfl
theorem v_len_s : lenV [.str z] H Q = (z.length ≤ sizeLine ∧ Q (.int z.length) H) := rfl
theorem v_list : listV [.ref a] H Q = opt (seqO (H a)) fun xs => ∀ l, H l = none → Q (.ref l) (upd H l (.lst xs)) := rfl
theorem v_tuple : tupleV [.ref a] H Q = opt (lstO (H a)) fun xs => ∀ l, H l = none → Q (.ref l) (upd H l (.tup xs)) := rfl
theorem v_int : intV [.int i] H Q = Q (.int i) H := rfl
theorem v_abs : absVV [.int i] H Q = Q (.int (if i < 0 then -i else i)) H := rfl
theorem v_max : maxV [.int i, .int j] H Q = Q (.int (if j > i then j else i)) H := rfl
theorem v_min : minV [.int i, .int j] H Q = Q (.int (if j < i then j else i)) H := rfl
theorem v_maxL : maxLV [.ref a] H Q = opt ((lstO (H a)).bind ints?) fun ns => 0 < ns.length ∧ ∀ m, m ∈ ns → (∀ y, y ∈ ns → y ≤ m) → Q (.int m) H := rfl
theorem v_sum : sumV [.ref a] H Q = opt ((seqO (H a)).bind ints?) fun ns => Q (.int ns.sum) H := rfl
theorem v_append : appendV (.ref l) [v] H Q = opt (lstW (H l)) fun xs => xs.length < sizeLine ∧ Q .non (upd H l (.lst (xs ++ [v]))) := by
  unfold appendV
  simp only []
  generalize H l = o
  cases o with
  | none => rfl
  | some o => cases o <;> rfl
theorem v_insert : insertV (.ref l) [.int i, v] H Q = opt (lstW (H l)) fun xs => xs.length < sizeLine ∧ 0 ≤ i ∧ i < 2 ^ 63 ∧ Q .non (upd H l (.lst (xs.take i.toNat ++ [v] ++ xs.drop i.toNat))) := by
  unfold insertV
  simp only []
  generalize H l = o
  cases o with
  | none => rfl
  | some o => cases o <;> rfl
theorem v_popAt : popAtV (.ref l) [.int i] H Q = opt (lstW (H l)) fun xs => -(2 ^ 63) ≤ i ∧ i < 2 ^ 63 ∧ opt (seqIndex? i xs.length) fun k => opt xs[k]? fun y => Q y (upd H l (.lst (xs.eraseIdx k))) := by
  unfold popAtV
  simp only []
  generalize H l = o
  cases o with
  | none => rfl
  | some o => cases o <;> rfl
theorem v_pop : popV (.ref l) [] H Q = opt (lstW (H l)) fun xs => opt xs[xs.length - 1]? fun y => Q y (upd H l (.lst xs.dropLast)) := by
  unfold popV
  simp only []
  generalize H l = o
  cases o with
  | none => rfl
  | some o => cases o <;> rfl
theorem v_join : joinV (.str z) [.ref p] H Q = opt ((seqO (H p)).bind strs?) fun ys => (ys.map (·.length)).sum + ys.length * z.length ≤ 16777216 ∧ Q (.str (Txt.join z ys)) H := rfl
theorem v_toB {c : Bool} : toB (.bl c) H QB = QB c H := rfl
theorem v_tru_b {c : Bool} : truV (.bl c) H QB = QB c H := rfl
theorem v_aug {f : Int → Int → Int} : augV f (.int i) (.int j) H Q = Q (.int (f i j)) H := rfl
theorem v_set : setV (.ref p) (.int k) v H Qh = opt (lstW (H p)) fun xs => opt (ixN xs.length k) fun j => Qh (upd H p (.lst (xs.set j v))) := by
  unfold setV
  simp only []
  generalize H p = o
  cases o with
  | none => rfl
  | some o => cases o <;> rfl
theorem v_ins {C : Addr} {kk : Addr → Addr → List (Str × V) → Prop} : ins? C H (.ref a) kk = opt (insO C (H a)) fun q => kk a q.1 q.2 := by
  unfold ins?
  simp only []
  generalize H a = o
  cases o with
  | none => rfl
  | some o =>
    cases o with
    | ins C' dx fs =>
      show (C' = C ∧ kk a dx fs) = opt (if C' = C then some (dx, fs) else none) _
      by_cases h : C' = C
      · rw [if_pos h]
        apply propext
        exact ⟨fun q => q.2, fun q => ⟨h, q⟩⟩
      · rw [if_neg h]
        apply propext
        exact ⟨fun q => h q.1, fun q => q.elim⟩
    | _ => rfl
theorem r_iter' {R : FI → Hp → Prop} : (match (H a) with
    | some (.lst xs) => R (fiL a xs) H
    | some (.frz _ (.lst xs)) => R (fiL a xs) H
    | _ => False) = opt (lstO (H a)) fun xs => R (fiL a xs) H := by
  unfold lstO
  split <;> rfl
theorem ints_bind {ns : List Int} : (some (ns.map V.int)).bind ints? = some ns := by
  rw [Option.bind_some, ints?_map]
theorem strs_bind {ns : List Str} : (some (ns.map V.str)).bind strs? = some ns := by
  rw [Option.bind_some, strs?_map]
end
end Ly

/-! Lay8 -/
set_option Elab.async false
set_option linter.all false
set_option maxRecDepth 100000
set_option maxHeartbeats 4000000
namespace Ly
open PySem PySem.Spec PyProof.Rows L2
/-! ### a name that holds a list or a tuple, walked -/
theorem _root_.L2.PI.or {X : Cx} {tg e : Expr} {w1 w2 : TI} (h1 : PI X tg e w1) (h2 : PI X tg e w2) : PI X tg e (fun σ H R => w1 σ H R ∨ w2 σ H R) := ⟨fun pins s σ H R I q => by
  rcases q with q | q
  · exact h1.run pins s σ H R I q
  · exact h2.run pins s σ H R I q⟩
def wIterV (i : Nat) : TF := fun σ H R => opt σ[i]? fun o => opt o fun x => match x with
  | .ref a => (match H a with
    | some (.lst xs) => R (fiL a xs) H
    | some (.tup xs) => R (fiT a xs) H
    | _ => False)
  | _ => False
theorem f_any {X : Cx} {tg : Expr} (i : Nat) {x : Str} {pos : Pos} (hN : X.N[i]? = some x := by rfl) (hv : Vis X.env.scope x := by first | exact Or.inl rfl | exact Or.inr (Or.inl rfl) | exact Or.inr (Or.inr rfl)) (hd : (x == ("__debug__" : Str)) = false := by decide)
    (hcd : (x == ("__classdict__" : Str)) = false := by decide) : PF X tg (.Name x pos) (wIterV i) :=
  ⟨_, (pi_list (pe_var hN hv hd hcd)).or (pi_tup (pe_var hN hv hd hcd)), fun σ H R R0 w q => by
    obtain ⟨o, e1, q⟩ := opt_ex q
    obtain ⟨v, e2, q⟩ := opt_ex q
    split at q
    · split at q
      · rename_i xs e
        exact .inl ⟨_, by rw [e1, e2], _, rfl, ⟨xs, .inl (.inl e)⟩, w _ _ _ isF_list q⟩
      · rename_i xs e
        exact .inr ⟨_, by rw [e1, e2], _, rfl, ⟨xs, .inl (.inl e)⟩, w _ _ _ isF_tup q⟩
      · exact q.elim
    · exact q.elim⟩
end Ly

/-! M1 -/
set_option linter.all false
set_option maxHeartbeats 1000000
namespace M
/-! Casts of pages, in plain Lean. -/

/-- the value at a place of the line of a list that grows by its length with each cycle -/
def atP (ns : List Int) (p : Int) : Int := ns.getD (p % ns.length).toNat 0 + p - p % ns.length
/-- stands: a list of places of the calendar -/
def OkS (P : Nat) (S : List Int) : Prop := S ≠ [] ∧ ∀ s ∈ S, 0 ≤ s ∧ s < P

theorem emod_add_self (y : Int) (P : Nat) : (y + P) % P = y % P := by
  rw [Int.add_emod_right]
theorem atP_add (c : List Int) (y : Int) : atP c (y + c.length) = atP c y + c.length := by
  unfold atP
  rw [emod_add_self]
  omega
theorem atP_small (c : List Int) {i : Nat} (h : i < c.length) : atP c i = c.getD i 0 := by
  unfold atP
  have : ((i : Int) % c.length) = i := Int.emod_eq_of_lt (by omega) (by omega)
  rw [this]
  simp
/-- two functions that grow by P with each cycle agree if they do on one cycle -/
theorem per_mul {f : Int → Int} {P : Nat} (hf : ∀ y, f (y + P) = f y + P) (k : Nat) (y : Int) : f (y + k * P) = f y + k * P := by
  induction k with
  | zero => simp
  | succ k ih =>
    have : y + ((k + 1 : Nat) : Int) * P = (y + k * P) + P := by
      rw [Int.natCast_add, Int.add_mul]; omega
    rw [this, hf, ih]
    rw [Int.natCast_add, Int.add_mul]; omega
theorem per_ext {f g : Int → Int} {P : Nat} (hP : 0 < P) (hf : ∀ y, f (y + P) = f y + P) (hg : ∀ y, g (y + P) = g y + P) (h : ∀ i : Nat, i < P → f i = g i) (y : Int) : f y = g y := by
  have e : y = y % P + P * (y / P) := (Int.emod_add_mul_ediv y P).symm
  have h0 := Int.emod_nonneg y (show (P : Int) ≠ 0 by omega)
  have h1 := Int.emod_lt_of_pos y (show (0 : Int) < P by omega)
  obtain ⟨r, hr⟩ := Int.eq_ofNat_of_zero_le h0
  have hr' : r < P := by omega
  have base := h r hr'
  rcases Int.le_total 0 (y / P) with hq | hq
  · obtain ⟨q, hq⟩ := Int.eq_ofNat_of_zero_le hq
    have : y = (r : Int) + q * P := by
      rw [hr, hq] at e
      rw [Int.mul_comm] at e
      exact e
    rw [this, per_mul hf, per_mul hg, base]
  · obtain ⟨q, hq⟩ := Int.eq_ofNat_of_zero_le (show 0 ≤ -(y / P) by omega)
    have : (r : Int) = y + q * P := by
      rw [hr] at e
      have : (y / P : Int) = -q := by omega
      rw [this] at e
      have e2 : (P : Int) * -(q : Int) = -((q : Int) * P) := by rw [Int.mul_neg, Int.mul_comm]
      rw [e2] at e
      omega
    have e1 := per_mul hf q y
    have e2 := per_mul hg q y
    rw [← this] at e1 e2
    omega

/-! ### what an entry carries -/
def carrN (f : Int → Int) (P : Nat) (S : List Int) : Nat → Int → Int
  | 0, y => f y
  | n + 1, y => if y % P ∈ S then f y else min (f y) (carrN f P S n (y - 1))
theorem carrN_stable {f : Int → Int} {P : Nat} {S : List Int} : ∀ (n m : Nat) (y : Int) (d : Nat), d ≤ n → d ≤ m → (y - d) % P ∈ S → carrN f P S n y = carrN f P S m y := by
  intro n
  induction n with
  | zero =>
    intro m y d h1 h2 h3
    have : d = 0 := by omega
    subst this
    have h3' : y % P ∈ S := by simpa using h3
    cases m with
    | zero => rfl
    | succ m => unfold carrN; rw [if_pos h3']
  | succ n ih =>
    intro m y d h1 h2 h3
    cases d with
    | zero =>
      have h3' : y % P ∈ S := by simpa using h3
      cases m with
      | zero => unfold carrN; rw [if_pos h3']
      | succ m => unfold carrN; rw [if_pos h3', if_pos h3']
    | succ d =>
      cases m with
      | zero => omega
      | succ m =>
        unfold carrN
        have : carrN f P S n (y - 1) = carrN f P S m (y - 1) := ih m (y - 1) d (by omega) (by omega) (by
          have : y - 1 - (d : Int) = y - ((d + 1 : Nat) : Int) := by omega
          rw [this]; exact h3)
        rw [this]
theorem near {P : Nat} {S : List Int} (ok : OkS P S) (y : Int) : ∃ d : Nat, d < P ∧ (y - d) % P ∈ S := by
  obtain ⟨s, r, rfl⟩ := List.exists_cons_of_ne_nil ok.1
  obtain ⟨h0, h1⟩ := ok.2 s (by simp)
  have hP : (0 : Int) < P := by omega
  refine ⟨((y - s) % P).toNat, ?_, ?_⟩
  · have := Int.emod_lt_of_pos (y - s) hP
    have := Int.emod_nonneg (y - s) (show (P : Int) ≠ 0 by omega)
    omega
  · have h2 := Int.emod_nonneg (y - s) (show (P : Int) ≠ 0 by omega)
    rw [Int.toNat_of_nonneg h2]
    have : (y - (y - s) % P) % P = s := by
      rw [Int.sub_emod, Int.emod_emod_of_dvd _ (Int.dvd_refl _), ← Int.sub_emod]
      have : y - (y - s) = s := by omega
      rw [this]
      exact Int.emod_eq_of_lt h0 h1
    rw [this]
    simp
def carr (f : Int → Int) (P : Nat) (S : List Int) (g : Int) : Int := carrN f P S P (g - 1)
theorem carr_succ {f : Int → Int} {P : Nat} {S : List Int} (ok : OkS P S) (g : Int) : carr f P S (g + 1) = if g % P ∈ S then f g else min (f g) (carr f P S g) := by
  unfold carr
  have e : g + 1 - 1 = g := by omega
  rw [e]
  cases P with
  | zero =>
    obtain ⟨d, hd, _⟩ := near ok g
    omega
  | succ P =>
    by_cases h : g % ((P + 1 : Nat) : Int) ∈ S
    · rw [if_pos h]
      conv => lhs; unfold carrN
      rw [if_pos h]
    · rw [if_neg h]
      conv => lhs; unfold carrN
      rw [if_neg h]
      obtain ⟨d, hd, hs⟩ := near ok (g - 1)
      rw [carrN_stable P (P + 1) (g - 1) d (by omega) (by omega) hs]
theorem carrN_le {f : Int → Int} {P : Nat} {S : List Int} (n : Nat) (y : Int) : carrN f P S n y ≤ f y := by
  cases n with
  | zero => exact Int.le_refl _
  | succ n =>
    unfold carrN
    split
    · exact Int.le_refl _
    · omega
theorem carr_le {f : Int → Int} {P : Nat} {S : List Int} (hf : ∀ y, f y ≤ y) (g : Int) : carr f P S g ≤ g - 1 :=
  Int.le_trans (carrN_le P (g - 1)) (hf _)
theorem carrN_per {f : Int → Int} {P : Nat} {S : List Int} (hf : ∀ y, f (y + P) = f y + P) (n : Nat) : ∀ y, carrN f P S n (y + P) = carrN f P S n y + P := by
  induction n with
  | zero => exact hf
  | succ n ih =>
    intro y
    unfold carrN
    rw [emod_add_self, hf]
    have : y + (P : Int) - 1 = y - 1 + P := by omega
    rw [this, ih]
    split
    · rfl
    · omega
theorem carr_per {f : Int → Int} {P : Nat} {S : List Int} (hf : ∀ y, f (y + P) = f y + P) (g : Int) : carr f P S (g + P) = carr f P S g + P := by
  unfold carr
  have : g + (P : Int) - 1 = g - 1 + P := by omega
  rw [this, carrN_per hf]
/-- one more entry -/
def stepF (f : Int → Int) (P : Nat) (S : List Int) (y : Int) : Int := if y % P ∈ S then carr f P S y else max (f y) (carr f P S y)
theorem stepF_per {f : Int → Int} {P : Nat} {S : List Int} (hf : ∀ y, f (y + P) = f y + P) (y : Int) : stepF f P S (y + P) = stepF f P S y + P := by
  unfold stepF
  rw [emod_add_self, hf, carr_per hf]
  split
  · rfl
  · omega
theorem stepF_le {f : Int → Int} {P : Nat} {S : List Int} (hf : ∀ y, f y ≤ y) (y : Int) : stepF f P S y ≤ y := by
  unfold stepF
  have := carr_le (P := P) (S := S) hf y
  have := hf y
  split <;> omega

/-! ### counts -/
def cnt (f : Int → Int) (b : Int) : Nat → Nat
  | 0 => 0
  | n + 1 => cnt f b n + if f (b + n) < b then 1 else 0
theorem cnt_step {f : Int → Int} {P : Nat} {S : List Int} (ok : OkS P S) (hf : ∀ y, f y ≤ y) (b : Int) (n : Nat) : cnt (stepF f P S) b n = cnt f b n + if b ≤ carr f P S (b + n) then 1 else 0 := by
  induction n with
  | zero =>
    have := carr_le (P := P) (S := S) hf b
    simp only [cnt, Int.natCast_zero, Int.add_zero]
    rw [if_neg (by omega)]
  | succ n ih =>
    simp only [cnt]
    rw [ih]
    have e : b + ((n + 1 : Nat) : Int) = (b + n) + 1 := by omega
    rw [e, carr_succ ok]
    unfold stepF
    generalize carr f P S (b + n) = k
    generalize f (b + n) = v
    by_cases h : (b + (n : Int)) % P ∈ S
    · simp only [if_pos h]
      by_cases h1 : k < b <;> by_cases h2 : v < b
      · rw [if_neg (by omega), if_pos h1, if_pos h2, if_neg (by omega)]
      · rw [if_neg (by omega), if_pos h1, if_neg h2, if_pos (by omega)]
      · rw [if_pos (by omega), if_neg h1, if_pos h2, if_neg (by omega)]
      · rw [if_pos (by omega), if_neg h1, if_neg h2, if_pos (by omega)]
    · simp only [if_neg h]
      by_cases h1 : k < b <;> by_cases h2 : v < b
      · rw [if_neg (show ¬ b ≤ k by omega), if_pos (show max v k < b by omega), if_pos h2, if_neg (show ¬ b ≤ min v k by omega)]
      · rw [if_neg (show ¬ b ≤ k by omega), if_neg (show ¬ max v k < b by omega), if_neg h2, if_neg (show ¬ b ≤ min v k by omega)]
      · rw [if_pos (show b ≤ k by omega), if_neg (show ¬ max v k < b by omega), if_pos h2, if_neg (show ¬ b ≤ min v k by omega)]
      · rw [if_pos (show b ≤ k by omega), if_neg (show ¬ max v k < b by omega), if_neg h2, if_pos (show b ≤ min v k by omega)]
/-- the recursion of a table of counts -/
theorem cnt_rec {f : Int → Int} {P : Nat} {S : List Int} (ok : OkS P S) (hf : ∀ y, f y ≤ y) (b : Int) (n : Nat) :
    cnt (stepF f P S) b (n + 1) = max (max (cnt (stepF f P S) b n) (if (b + (n : Int)) % P ∈ S then cnt f b n + 1 else 0)) (cnt f b (n + 1)) := by
  rw [cnt_step ok hf, cnt_step ok hf]
  simp only [cnt]
  have e : b + ((n + 1 : Nat) : Int) = (b + n) + 1 := by omega
  rw [e, carr_succ ok]
  generalize carr f P S (b + n) = k
  generalize f (b + n) = v
  generalize cnt f b n = q
  by_cases h : (b + (n : Int)) % P ∈ S
  · simp only [if_pos h]
    by_cases h1 : b ≤ k <;> by_cases h2 : v < b
    · rw [if_pos h1, if_pos h2, if_neg (by omega)]; omega
    · rw [if_pos h1, if_neg h2, if_pos (by omega)]; omega
    · rw [if_neg h1, if_pos h2, if_neg (by omega)]; omega
    · rw [if_neg h1, if_neg h2, if_pos (by omega)]; omega
  · simp only [if_neg h]
    by_cases h1 : b ≤ k <;> by_cases h2 : v < b
    · rw [if_pos h1, if_pos h2, if_neg (by omega)]; omega
    · rw [if_pos h1, if_neg h2, if_pos (by omega)]; omega
    · rw [if_neg h1, if_pos h2, if_neg (by omega)]; omega
    · rw [if_neg h1, if_neg h2, if_neg (by omega)]; omega
theorem cnt_mono {f : Int → Int} {b : Int} {n m : Nat} (h : n ≤ m) : cnt f b n ≤ cnt f b m := by
  induction m with
  | zero => have : n = 0 := by omega
            subst this; exact Nat.le_refl _
  | succ m ih =>
    rcases Nat.lt_or_ge n (m + 1) with h1 | h1
    · simp only [cnt]
      have := ih (by omega)
      omega
    · have : n = m + 1 := by omega
      subst this; exact Nat.le_refl _
/-- a function is told by its counts -/
theorem eq_of_cnt {f g : Int → Int} (hf : ∀ y, f y ≤ y) (hg : ∀ y, g y ≤ y) (h : ∀ b n, cnt f b n = cnt g b n) (y : Int) : f y = g y := by
  have key : ∀ b : Int, b ≤ y → (f y < b ↔ g y < b) := by
    intro b hb
    have h1 := h b (y - b).toNat
    have h2 := h b ((y - b).toNat + 1)
    simp only [cnt] at h2
    have e : b + ((y - b).toNat : Int) = y := by omega
    rw [e] at h2
    by_cases ha : f y < b <;> by_cases hc : g y < b
    · exact ⟨fun _ => hc, fun _ => ha⟩
    · rw [if_pos ha, if_neg hc] at h2; omega
    · rw [if_neg ha, if_pos hc] at h2; omega
    · exact ⟨fun z => (ha z).elim, fun z => (hc z).elim⟩
  have h1 := key (f y) (hf y)
  have h2 := key (g y) (hg y)
  omega
end M

/-! M2 -/
set_option linter.all false
set_option maxHeartbeats 1000000
namespace M
/-! ### pages: a list of stands -/
def OkP (P : Nat) (A : List (List Int)) : Prop := ∀ S ∈ A, OkS P S
def pageF (P : Nat) (A : List (List Int)) : Int → Int := A.foldl (fun f S => stepF f P S) id
theorem pageF_snoc (P : Nat) (A : List (List Int)) (S : List Int) : pageF P (A ++ [S]) = stepF (pageF P A) P S := by
  unfold pageF
  rw [List.foldl_append]; rfl
theorem pageF_app (P : Nat) (A B : List (List Int)) : pageF P (A ++ B) = B.foldl (fun f S => stepF f P S) (pageF P A) := by
  unfold pageF
  rw [List.foldl_append]
/-- induction from behind -/
theorem snoc_ind {α : Type} {p : List α → Prop} (h0 : p []) (h1 : ∀ l x, p l → p (l ++ [x])) (l : List α) : p l := by
  have : ∀ n, ∀ l : List α, l.length = n → p l := by
    intro n
    induction n with
    | zero => intro l hl; rw [List.length_eq_zero_iff.mp hl]; exact h0
    | succ n ih =>
      intro l hl
      have hne : l ≠ [] := by intro e; rw [e] at hl; simp at hl
      rw [← List.dropLast_concat_getLast hne]
      exact h1 _ _ (ih _ (by rw [List.length_dropLast]; omega))
  exact this l.length l rfl
theorem OkP.left {P : Nat} {A B : List (List Int)} (h : OkP P (A ++ B)) : OkP P A := fun S hS => h S (List.mem_append_left _ hS)
theorem OkP.right {P : Nat} {A B : List (List Int)} (h : OkP P (A ++ B)) : OkP P B := fun S hS => h S (List.mem_append_right _ hS)
theorem OkP.app {P : Nat} {A B : List (List Int)} (h : OkP P A) (k : OkP P B) : OkP P (A ++ B) := fun S hS => (List.mem_append.mp hS).elim (h S) (k S)
theorem pageF_le {P : Nat} (A : List (List Int)) : ∀ y, pageF P A y ≤ y := by
  refine snoc_ind (p := fun A => ∀ y, pageF P A y ≤ y) (fun y => Int.le_refl _) (fun l x ih y => ?_) A
  rw [pageF_snoc]
  exact stepF_le ih y
theorem pageF_per {P : Nat} (A : List (List Int)) : ∀ y, pageF P A (y + P) = pageF P A y + P := by
  refine snoc_ind (p := fun A => ∀ y, pageF P A (y + P) = pageF P A y + P) (fun y => rfl) (fun l x ih y => ?_) A
  rw [pageF_snoc]
  exact stepF_per ih y
/-- the count of a page in the stretch from b of n places -/
def cou (P : Nat) (A : List (List Int)) (b : Int) (n : Nat) : Nat := cnt (pageF P A) b n
theorem cou_zero {P : Nat} {A : List (List Int)} {b : Int} : cou P A b 0 = 0 := rfl
theorem cou_nil {P : Nat} {b : Int} {n : Nat} : cou P [] b n = 0 := by
  unfold cou
  induction n with
  | zero => rfl
  | succ n ih =>
    simp only [cnt]
    rw [ih]
    have : pageF P [] (b + n) = b + n := rfl
    rw [this, if_neg (by omega)]
theorem cou_rec {P : Nat} {A : List (List Int)} {S : List Int} (ok : OkS P S) (b : Int) (n : Nat) :
    cou P (A ++ [S]) b (n + 1) = max (max (cou P (A ++ [S]) b n) (if (b + (n : Int)) % P ∈ S then cou P A b n + 1 else 0)) (cou P A b (n + 1)) := by
  unfold cou
  rw [pageF_snoc]
  exact cnt_rec ok (pageF_le A) b n
theorem cou_mono {P : Nat} {A : List (List Int)} {b : Int} {n m : Nat} (h : n ≤ m) : cou P A b n ≤ cou P A b m := cnt_mono h
/-- one entry more in the middle -/
theorem cou_mid {P : Nat} {A : List (List Int)} {S : List Int} (B : List (List Int)) (okS : OkS P S) (okB : OkP P B) (b : Int) :
    ∀ n, cou P (A ++ B) b n ≤ cou P (A ++ [S] ++ B) b n ∧ cou P (A ++ [S] ++ B) b n ≤ cou P (A ++ B) b n + 1 := by
  refine snoc_ind (p := fun B => OkP P B → ∀ n, cou P (A ++ B) b n ≤ cou P (A ++ [S] ++ B) b n ∧ cou P (A ++ [S] ++ B) b n ≤ cou P (A ++ B) b n + 1) (fun _ n => ?_) (fun B T ih ok n => ?_) B okB
  · rw [List.append_nil, List.append_nil]
    unfold cou
    rw [pageF_snoc, cnt_step okS (pageF_le A)]
    split <;> omega
  · have okT : OkS P T := ok T (by simp)
    have ih' := ih ok.left
    induction n with
    | zero => rw [cou_zero, cou_zero]; omega
    | succ n ihn =>
      rw [← List.append_assoc, ← List.append_assoc] at ihn ⊢
      rw [cou_rec okT, cou_rec okT]
      have h1 := ih' n
      have h2 := ih' (n + 1)
      split <;> omega
theorem cou_put {P : Nat} {A B : List (List Int)} (C : List (List Int)) (okC : OkP P C) (okB : OkP P B) (b : Int) (n : Nat) :
    cou P (A ++ B) b n ≤ cou P (A ++ C ++ B) b n ∧ cou P (A ++ C ++ B) b n ≤ cou P (A ++ B) b n + C.length := by
  refine snoc_ind (p := fun C => OkP P C → cou P (A ++ B) b n ≤ cou P (A ++ C ++ B) b n ∧ cou P (A ++ C ++ B) b n ≤ cou P (A ++ B) b n + C.length) (fun _ => ?_) (fun C T ih ok => ?_) C okC
  · rw [List.append_nil]; simp
  · have h1 := ih ok.left
    have h2 := cou_mid (A := A ++ C) B (ok T (by simp)) okB b n
    rw [← List.append_assoc A C [T], List.length_append, List.length_singleton]
    omega
/-- the cuts -/
theorem cou_cut {P : Nat} {A : List (List Int)} (B : List (List Int)) (okB : OkP P B) (b : Int) :
    ∀ n, (∀ m, m ≤ n → cou P A b m + cou P B (b + m) (n - m) ≤ cou P (A ++ B) b n) ∧ ∃ m, m ≤ n ∧ cou P A b m + cou P B (b + m) (n - m) = cou P (A ++ B) b n := by
  refine snoc_ind (p := fun B => OkP P B → ∀ n, (∀ m, m ≤ n → cou P A b m + cou P B (b + m) (n - m) ≤ cou P (A ++ B) b n) ∧ ∃ m, m ≤ n ∧ cou P A b m + cou P B (b + m) (n - m) = cou P (A ++ B) b n) (fun _ n => ?_) (fun B T ih ok n => ?_) B okB
  · rw [List.append_nil]
    refine ⟨fun m hm => ?_, n, Nat.le_refl _, ?_⟩
    · rw [cou_nil]; exact cou_mono hm
    · rw [cou_nil]; rfl
  · have okT : OkS P T := ok T (by simp)
    have ih' := ih ok.left
    rw [← List.append_assoc]
    induction n with
    | zero =>
      refine ⟨fun m hm => ?_, 0, Nat.le_refl _, rfl⟩
      have : m = 0 := by omega
      subst this
      exact Nat.le_refl _
    | succ n ihn =>
      rw [cou_rec okT]
      -- the recursion of the second factor
      have rec2 : ∀ m, m ≤ n → cou P (B ++ [T]) (b + m) (n + 1 - m) = max (max (cou P (B ++ [T]) (b + m) (n - m)) (if (b + (n : Int)) % P ∈ T then cou P B (b + m) (n - m) + 1 else 0)) (cou P B (b + m) (n + 1 - m)) := by
        intro m hm
        have e : n + 1 - m = (n - m) + 1 := by omega
        rw [e, cou_rec okT]
        have : b + (m : Int) + ((n - m : Nat) : Int) = b + n := by omega
        rw [this]
      refine ⟨fun m hm => ?_, ?_⟩
      · rcases Nat.lt_or_ge n m with h | h
        · have : m = n + 1 := by omega
          subst this
          have z := (ih' (n + 1)).1 (n + 1) (Nat.le_refl _)
          simp only [Nat.sub_self, cou_zero] at z ⊢
          omega
        · rw [rec2 m h]
          have z1 := ihn.1 m h
          have z2 := (ih' n).1 m h
          have z3 := (ih' (n + 1)).1 m hm
          split <;> omega
      · -- which of the three is the greatest
        have h1 := ihn.2
        have h2 := (ih' n).2
        have h3 := (ih' (n + 1)).2
        obtain ⟨m1, l1, e1⟩ := h1
        obtain ⟨m2, l2, e2⟩ := h2
        obtain ⟨m3, l3, e3⟩ := h3
        -- upper bound again
        have ub : ∀ m, m ≤ n + 1 → cou P A b m + cou P (B ++ [T]) (b + m) (n + 1 - m) ≤ max (max (cou P (A ++ B ++ [T]) b n) (if (b + (n : Int)) % P ∈ T then cou P (A ++ B) b n + 1 else 0)) (cou P (A ++ B) b (n + 1)) := by
          intro m hm
          rcases Nat.lt_or_ge n m with h | h
          · have : m = n + 1 := by omega
            subst this
            have z := (ih' (n + 1)).1 (n + 1) (Nat.le_refl _)
            simp only [Nat.sub_self, cou_zero] at z ⊢
            omega
          · rw [rec2 m h]
            have z1 := ihn.1 m h
            have z2 := (ih' n).1 m h
            have z3 := (ih' (n + 1)).1 m hm
            split <;> omega
        by_cases c3 : cou P (A ++ B) b (n + 1) = max (max (cou P (A ++ B ++ [T]) b n) (if (b + (n : Int)) % P ∈ T then cou P (A ++ B) b n + 1 else 0)) (cou P (A ++ B) b (n + 1))
        · refine ⟨m3, l3, Nat.le_antisymm (ub m3 l3) ?_⟩
          rw [← c3, ← e3]
          rcases Nat.lt_or_ge n m3 with h | h
          · have : m3 = n + 1 := by omega
            subst this
            simp only [Nat.sub_self, cou_zero]
            omega
          · rw [rec2 m3 h]; omega
        · by_cases c1 : cou P (A ++ B ++ [T]) b n = max (max (cou P (A ++ B ++ [T]) b n) (if (b + (n : Int)) % P ∈ T then cou P (A ++ B) b n + 1 else 0)) (cou P (A ++ B) b (n + 1))
          · refine ⟨m1, by omega, Nat.le_antisymm (ub m1 (by omega)) ?_⟩
            rw [← c1, ← e1, rec2 m1 l1]
            omega
          · refine ⟨m2, by omega, Nat.le_antisymm (ub m2 (by omega)) ?_⟩
            rw [rec2 m2 l2]
            split at c1 <;> split at c3 <;> simp_all <;> omega
/-- what stands behind counts by its own counts alone -/
theorem pageF_congr {P : Nat} {A B B' : List (List Int)} (okB : OkP P B) (okB' : OkP P B') (h : ∀ y, pageF P B y = pageF P B' y) (y : Int) : pageF P (A ++ B) y = pageF P (A ++ B') y := by
  refine eq_of_cnt (pageF_le _) (pageF_le _) (fun b n => ?_) y
  have e : pageF P B = pageF P B' := funext h
  obtain ⟨u1, m1, l1, e1⟩ := cou_cut (A := A) B okB b n
  obtain ⟨u2, m2, l2, e2⟩ := cou_cut (A := A) B' okB' b n
  have c : ∀ m k, cou P B m k = cou P B' m k := fun m k => by unfold cou; rw [e]
  have a1 := u1 m2 l2
  have a2 := u2 m1 l1
  rw [c] at a1
  rw [c] at e1
  show cou P (A ++ B) b n = cou P (A ++ B') b n
  omega
end M

/-! M3 -/
set_option linter.all false
set_option maxHeartbeats 1000000
namespace M
/-! ### one cycle -/
theorem stepF_perm {f : Int → Int} {P : Nat} {S : List Int} (ok : OkS P S) (n : Nat) :
    List.Perm ((List.range n).map (fun i : Nat => stepF f P S (i : Int)) ++ [carr f P S (n : Int)]) ((List.range n).map (fun i : Nat => f (i : Int)) ++ [carr f P S 0]) := by
  induction n with
  | zero => exact List.Perm.refl _
  | succ n ih =>
    rw [List.range_succ, List.map_append, List.map_append, List.map_singleton, List.map_singleton, List.append_assoc, List.append_assoc]
    have two : List.Perm ([stepF f P S (n : Int)] ++ [carr f P S ((n + 1 : Nat) : Int)]) ([carr f P S (n : Int)] ++ [f (n : Int)]) := by
      have e : ((n + 1 : Nat) : Int) = (n : Int) + 1 := by omega
      rw [e, carr_succ ok]
      unfold stepF
      by_cases h : (n : Int) % P ∈ S
      · rw [if_pos h, if_pos h]
      · rw [if_neg h, if_neg h]
        rcases Int.le_total (f n) (carr f P S n) with h1 | h1
        · rw [show max (f (n : Int)) (carr f P S n) = carr f P S n by omega, show min (f (n : Int)) (carr f P S n) = f n by omega]
        · rw [show max (f (n : Int)) (carr f P S n) = f n by omega, show min (f (n : Int)) (carr f P S n) = carr f P S n by omega]
          exact List.Perm.swap _ _ _
    refine (List.Perm.append_left _ two).trans ?_
    rw [← List.append_assoc]
    refine (List.Perm.append_right _ ih).trans ?_
    rw [List.append_assoc]
    exact List.Perm.append_left _ (List.Perm.swap _ _ _)
/-- the remainders of one cycle are different -/
def NodM (f : Int → Int) (P : Nat) : Prop := ((List.range P).map fun i : Nat => f (i : Int) % P).Nodup
theorem NodM.step {f : Int → Int} {P : Nat} {S : List Int} (ok : OkS P S) (hf : ∀ y, f (y + P) = f y + P) (h : NodM f P) : NodM (stepF f P S) P := by
  have p := (stepF_perm (f := f) ok P).map (fun x => x % (P : Int))
  rw [List.map_append, List.map_append, List.map_map, List.map_map] at p
  have e : carr f P S (P : Int) = carr f P S 0 + P := by
    have := carr_per (S := S) hf 0
    rw [Int.zero_add] at this
    exact this
  have e2 : [carr f P S (P : Int)].map (fun x => x % (P : Int)) = [carr f P S 0].map (fun x => x % (P : Int)) := by
    rw [List.map_singleton, List.map_singleton, e, emod_add_self]
  rw [e2] at p
  have q := (List.perm_append_right_iff _).mp p
  exact q.nodup_iff.mpr h
theorem pageF_nod {P : Nat} (hP : 0 < P) {A : List (List Int)} (ok : OkP P A) : NodM (pageF P A) P := by
  refine snoc_ind (p := fun A => OkP P A → NodM (pageF P A) P) (fun _ => ?_) (fun A S ih ok => ?_) A ok
  · unfold NodM
    have : (List.range P).map (fun i : Nat => pageF P [] (i : Int) % P) = (List.range P).map (fun i : Nat => (i : Int)) := by
      refine List.map_congr_left fun i hi => ?_
      have := List.mem_range.mp hi
      exact Int.emod_eq_of_lt (by show (0 : Int) ≤ i; omega) (by show (i : Int) < P; omega)
    rw [this]
    rw [List.nodup_iff_pairwise_ne, List.pairwise_map]
    refine (List.nodup_iff_pairwise_ne.mp (List.nodup_range (n := P))).imp ?_
    intro a b h e
    exact h (by omega)
  · rw [pageF_snoc]
    exact NodM.step (ok S (by simp)) (pageF_per A) (ih ok.left)
def sumF (f : Int → Int) : Nat → Int
  | 0 => 0
  | n + 1 => sumF f n + f n
theorem stepF_sum {f : Int → Int} {P : Nat} {S : List Int} (ok : OkS P S) (n : Nat) : sumF (stepF f P S) n + carr f P S n = sumF f n + carr f P S 0 := by
  induction n with
  | zero => rfl
  | succ n ih =>
    simp only [sumF]
    have e : ((n + 1 : Nat) : Int) = (n : Int) + 1 := by omega
    have key : stepF f P S n + carr f P S (n + 1) = f n + carr f P S n := by
      rw [carr_succ ok]
      unfold stepF
      by_cases h : (n : Int) % P ∈ S
      · rw [if_pos h, if_pos h]; omega
      · rw [if_neg h, if_neg h]; omega
    rw [e]
    omega
theorem pageF_sum {P : Nat} {A : List (List Int)} (ok : OkP P A) : sumF (pageF P A) P + A.length * P = sumF id P := by
  refine snoc_ind (p := fun A => OkP P A → sumF (pageF P A) P + A.length * P = sumF id P) (fun _ => ?_) (fun A S ih ok => ?_) A ok
  · simp; rfl
  · have h1 := ih ok.left
    have h2 := stepF_sum (f := pageF P A) (ok S (by simp)) P
    have e := carr_per (S := S) (pageF_per (P := P) A) 0
    rw [Int.zero_add] at e
    rw [pageF_snoc, List.length_append, List.length_singleton]
    have e3 : ((A.length + 1 : Nat) : Int) * P = A.length * P + P := by rw [Int.natCast_add, Int.add_mul]; omega
    rw [e3]
    omega

/-! ### pigeons -/
theorem pigeon : ∀ (n : Nat) (l : List Nat), l.Nodup → (∀ x ∈ l, x < n) → l.length ≤ n := by
  intro n
  induction n with
  | zero =>
    intro l _ h
    cases l with
    | nil => exact Nat.le_refl _
    | cons a r => exact absurd (h a (by simp)) (by omega)
  | succ n ih =>
    intro l hn h
    by_cases hm : n ∈ l
    · have h1 := ih (l.erase n) (hn.erase n) (fun x hx => by
        obtain ⟨h2, h3⟩ := (List.Nodup.mem_erase_iff hn).mp hx
        have := h x h3
        omega)
      rw [List.length_erase_of_mem hm] at h1
      omega
    · have h1 := ih l hn (fun x hx => by
        have := h x hx
        have : x ≠ n := fun e => hm (e ▸ hx)
        omega)
      omega
theorem full {n : Nat} {l : List Nat} (hn : l.Nodup) (h : ∀ x ∈ l, x < n) (hl : l.length = n) {p : Nat} (hp : p < n) : p ∈ l := by
  by_cases hm : p ∈ l
  · exact hm
  · have := pigeon n (p :: l) (List.nodup_cons.mpr ⟨hm, hn⟩) (fun x hx => by
      rcases List.mem_cons.mp hx with e | e
      · rw [e]; exact hp
      · exact h x e)
    rw [List.length_cons] at this
    omega
theorem perm_range {n : Nat} {l : List Nat} (hn : l.Nodup) (h : ∀ x ∈ l, x < n) (hl : l.length = n) : List.Perm l (List.range n) := by
  rw [List.perm_iff_count]
  intro a
  rw [hn.count, List.nodup_range.count]
  by_cases ha : a < n
  · rw [if_pos (full hn h hl ha), if_pos (List.mem_range.mpr ha)]
  · rw [if_neg (fun z => ha (h a z)), if_neg (fun z => ha (List.mem_range.mp z))]
theorem sum_perm {l l' : List Int} (h : List.Perm l l') : l.sum = l'.sum := by
  induction h with
  | nil => rfl
  | cons x _ ih => rw [List.sum_cons, List.sum_cons, ih]
  | swap x y l => rw [List.sum_cons, List.sum_cons, List.sum_cons, List.sum_cons]; omega
  | trans _ _ h1 h2 => rw [h1, h2]

/-! ### heights -/
section
variable {P : Nat} {f : Int → Int}
theorem NodM.inj (h : NodM f P) {i j : Nat} (hi : i < P) (hj : j < P) (e : f i % P = f j % P) : i = j := by
  unfold NodM at h
  have h1 : ((List.range P).map fun i : Nat => f (i : Int) % P)[i]? = some (f i % P) := by simp [hi]
  have h2 : ((List.range P).map fun i : Nat => f (i : Int) % P)[j]? = some (f j % P) := by simp [hj]
  rw [e] at h1
  have hl : i < ((List.range P).map fun i : Nat => f (i : Int) % P).length := by simp [hi]
  have := (List.getElem?_inj hl h).mp (h1.trans h2.symm)
  exact this
def res (f : Int → Int) (P : Nat) : List Nat := (List.range P).map fun i : Nat => (f (i : Int) % P).toNat
theorem res_lt (hP : 0 < P) : ∀ x ∈ res f P, x < P := by
  intro x hx
  obtain ⟨i, _, rfl⟩ := List.mem_map.mp hx
  have := Int.emod_lt_of_pos (f i) (show (0 : Int) < P by omega)
  have := Int.emod_nonneg (f i) (show (P : Int) ≠ 0 by omega)
  omega
theorem res_nodup (hP : 0 < P) (h : NodM f P) : (res f P).Nodup := by
  unfold res
  rw [List.nodup_iff_pairwise_ne, List.pairwise_map]
  have h2 := (List.nodup_iff_pairwise_ne.mp h)
  rw [List.pairwise_map] at h2
  refine h2.imp ?_
  intro a b hab e
  apply hab
  have := Int.emod_nonneg (f a) (show (P : Int) ≠ 0 by omega)
  have := Int.emod_nonneg (f b) (show (P : Int) ≠ 0 by omega)
  omega
theorem res_length : (res f P).length = P := by simp [res]
theorem NodM.surj (hP : 0 < P) (h : NodM f P) {p : Nat} (hp : p < P) : ∃ i : Nat, i < P ∧ f i % P = p := by
  obtain ⟨i, hi, e⟩ := List.mem_map.mp (full (res_nodup hP h) (res_lt hP) res_length hp)
  have := Int.emod_nonneg (f i) (show (P : Int) ≠ 0 by omega)
  exact ⟨i, List.mem_range.mp hi, by omega⟩
/-- the heights of a function's cycle -/
def hOf (f : Int → Int) (P : Nat) : List Int := (List.range P).map fun p : Nat => match (List.range P).find? (fun i : Nat => decide (f (i : Int) % P = p)) with
  | some i => (i : Int) - f i
  | none => 0
theorem hOf_length : (hOf f P).length = P := by simp [hOf]
theorem hOf_at (hP : 0 < P) (h : NodM f P) {i : Nat} (hi : i < P) : (hOf f P).getD (f i % P).toNat 0 = i - f i := by
  have h0 := Int.emod_nonneg (f i) (show (P : Int) ≠ 0 by omega)
  have h1 := Int.emod_lt_of_pos (f i) (show (0 : Int) < P by omega)
  have hp : (f i % P).toNat < P := by omega
  unfold hOf
  rw [List.getD_eq_getElem?_getD, List.getElem?_map, List.getElem?_range hp, Option.map_some, Option.getD_some]
  cases e : (List.range P).find? (fun j : Nat => decide (f (j : Int) % P = (((f i % P).toNat : Nat) : Int))) with
  | none =>
    have := List.find?_eq_none.mp e i (List.mem_range.mpr hi)
    exfalso
    apply this
    rw [decide_eq_true_eq]
    omega
  | some j =>
    have e1 := List.find?_some e
    have e2 := List.mem_range.mp (List.mem_of_find?_eq_some e)
    rw [decide_eq_true_eq] at e1
    have : i = j := h.inj hi e2 (by omega)
    subst this
    rfl
def land (hs : List Int) (x : Int) : Int := x + hs.getD (x % hs.length).toNat 0
theorem land_per (hs : List Int) (x : Int) : land hs (x + hs.length) = land hs x + hs.length := by
  unfold land
  rw [emod_add_self]
  omega
/-- the place whose landing is y -/
theorem land_f (hP : 0 < P) (h : NodM f P) (hf : ∀ y, f (y + P) = f y + P) (y : Int) : land (hOf f P) (f y) = y := by
  have hl : (hOf f P).length = P := hOf_length
  have := per_ext (f := fun y => land (hOf f P) (f y)) (g := fun y => y) hP (fun y => by
    show land (hOf f P) (f (y + P)) = _
    rw [hf]
    have := land_per (hOf f P) (f y)
    rw [hl] at this
    exact this) (fun _ => rfl) (fun i hi => by
    show land (hOf f P) (f i) = i
    unfold land
    rw [hl, hOf_at hP h hi]
    omega) y
  exact this
theorem f_land (hP : 0 < P) (h : NodM f P) (hf : ∀ y, f (y + P) = f y + P) (x : Int) : f (land (hOf f P) x) = x := by
  have hl : (hOf f P).length = P := hOf_length
  refine per_ext (f := fun x => f (land (hOf f P) x)) (g := fun x => x) hP (fun x => ?_) (fun _ => rfl) (fun p hp => ?_) x
  · show f (land (hOf f P) (x + P)) = _
    have := land_per (hOf f P) x
    rw [hl] at this
    rw [this, hf]
  · show f (land (hOf f P) p) = p
    obtain ⟨i, hi, e⟩ := h.surj hP hp
    have e2 := hOf_at hP h hi
    rw [e] at e2
    unfold land
    rw [hl]
    have e3 : ((p : Int) % P) = p := Int.emod_eq_of_lt (by omega) (by omega)
    rw [e3, e2]
    -- p + (i - f i) is i up to cycles
    have e4 := Int.emod_add_mul_ediv (f i) P
    rw [e] at e4
    have e5 : (p : Int) + (i - f i) = i + -((f i / P) * P) := by
      rw [← e4]
      rw [Int.mul_comm]
      have : ((p : Int) + f i / P * P) / P = f i / P := by
        rw [Int.add_mul_ediv_right _ _ (show (P : Int) ≠ 0 by omega), Int.ediv_eq_zero_of_lt (by omega) (by omega), Int.zero_add]
      rw [this]
      omega
    rw [e5]
    -- f at a shifted place
    rcases Int.le_total 0 (f i / P) with hq | hq
    · obtain ⟨q, hq⟩ := Int.eq_ofNat_of_zero_le hq
      rw [hq] at e4 ⊢
      have := per_mul hf q (i + -((q : Int) * P))
      rw [show (i : Int) + -((q : Int) * P) + q * P = i by omega] at this
      rw [Int.mul_comm] at e4
      omega
    · obtain ⟨q, hq⟩ := Int.eq_ofNat_of_zero_le (show 0 ≤ -(f i / P) by omega)
      have hq' : f i / P = -(q : Int) := by omega
      rw [hq'] at e4 ⊢
      have := per_mul hf q (i : Int)
      rw [show (i : Int) + -(-(q : Int) * P) = i + q * P by rw [Int.neg_mul]; omega, this]
      rw [Int.mul_neg, Int.mul_comm] at e4
      omega
/-- sums of heights -/
theorem sumF_map (g : Int → Int) (n : Nat) : ((List.range n).map fun i : Nat => g i).sum = sumF g n := by
  induction n with
  | zero => rfl
  | succ n ih =>
    rw [List.range_succ, List.map_append, List.sum_append, ih]
    simp [sumF]
theorem hOf_sum (hP : 0 < P) (h : NodM f P) : (hOf f P).sum = sumF (fun i => i - f i) P := by
  have p := (perm_range (res_nodup hP h) (res_lt hP) res_length).map (fun p => (hOf f P).getD p 0)
  have e1 : (res f P).map (fun p => (hOf f P).getD p 0) = (List.range P).map fun i : Nat => (fun i : Int => i - f i) (i : Int) := by
    unfold res
    rw [List.map_map]
    exact List.map_congr_left fun i hi => hOf_at hP h (List.mem_range.mp hi)
  have e2 : (List.range P).map (fun p => (hOf f P).getD p 0) = hOf f P := by
    refine List.ext_getElem (by simp [hOf_length]) fun i h1 h2 => ?_
    rw [List.getElem_map, List.getElem_range, List.getD_eq_getElem?_getD, List.getElem?_eq_getElem h2]
    rfl
  rw [e1, e2] at p
  rw [← sum_perm p]
  exact sumF_map (fun i => i - f i) P
theorem sumF_sub (g : Int → Int) (n : Nat) : sumF (fun i => i - g i) n = sumF id n - sumF g n := by
  induction n with
  | zero => rfl
  | succ n ih =>
    simp only [sumF, ih, id]
    omega
theorem hOf_nonneg (hf : ∀ y, f y ≤ y) : ∀ x ∈ hOf f P, 0 ≤ x := by
  intro x hx
  obtain ⟨p, _, rfl⟩ := List.mem_map.mp hx
  split
  · rename_i i _
    have := hf i
    omega
  · exact Int.le_refl _
theorem le_sum : ∀ {l : List Int}, (∀ x ∈ l, 0 ≤ x) → ∀ x ∈ l, x ≤ l.sum
  | [], _, x, hx => by cases hx
  | a :: r, h, x, hx => by
    rw [List.sum_cons]
    have h0 : 0 ≤ r.sum := by
      clear hx
      have hr : ∀ x ∈ r, 0 ≤ x := fun x hx => h x (List.mem_cons_of_mem _ hx)
      clear h
      induction r with
      | nil => exact Int.le_refl _
      | cons b r ih =>
        rw [List.sum_cons]
        have := ih fun x hx => hr x (List.mem_cons_of_mem _ hx)
        have := hr b (by simp)
        omega
    rcases List.mem_cons.mp hx with e | e
    · subst e; omega
    · have := le_sum (fun x hx => h x (List.mem_cons_of_mem _ hx)) x e
      have := h a (by simp)
      omega
end
/-! ### the cast of a page -/
def hts (P : Nat) (A : List (List Int)) : List Int := hOf (pageF P A) P
def cml (P : Nat) (A : List (List Int)) : List Int := (List.range P).map fun i : Nat => pageF P A i
theorem cml_length (P : Nat) (A : List (List Int)) : (cml P A).length = P := by simp [cml]
theorem hts_length (P : Nat) (A : List (List Int)) : (hts P A).length = P := hOf_length
theorem cml_get {P : Nat} {A : List (List Int)} {i : Nat} (h : i < P) : (cml P A).getD i 0 = pageF P A i := by
  unfold cml
  rw [List.getD_eq_getElem?_getD, List.getElem?_map, List.getElem?_range h]
  rfl
theorem atP_cml {P : Nat} (hP : 0 < P) (A : List (List Int)) (y : Int) : atP (cml P A) y = pageF P A y := by
  refine per_ext (P := P) hP (fun y => ?_) (pageF_per A) (fun i hi => ?_) y
  · have := atP_add (cml P A) y
    rw [cml_length] at this
    exact this
  · rw [atP_small _ (by rw [cml_length]; exact hi), cml_get hi]
theorem hts_sum {P : Nat} (hP : 0 < P) {A : List (List Int)} (ok : OkP P A) : (hts P A).sum = A.length * P := by
  unfold hts
  rw [hOf_sum hP (pageF_nod hP ok), sumF_sub]
  have := pageF_sum ok
  omega
theorem hts_nonneg {P : Nat} {A : List (List Int)} : ∀ x ∈ hts P A, 0 ≤ x := hOf_nonneg (pageF_le A)
theorem hts_le {P : Nat} (hP : 0 < P) {A : List (List Int)} (ok : OkP P A) : ∀ x ∈ hts P A, x ≤ A.length * P := fun x hx => by
  have := le_sum hts_nonneg x hx
  rw [hts_sum hP ok] at this
  exact this
end M

/-! M4 -/
set_option linter.all false
set_option maxHeartbeats 1000000
namespace M
/-- the came function of a cast -/
structure VF (P : Nat) (f : Int → Int) : Prop where
  pos : 0 < P
  per : ∀ y, f (y + P) = f y + P
  le : ∀ y, f y ≤ y
  nod : NodM f P
theorem vf_page {P : Nat} (hP : 0 < P) {A : List (List Int)} (ok : OkP P A) : VF P (pageF P A) := ⟨hP, pageF_per A, pageF_le A, pageF_nod hP ok⟩
section
variable {P : Nat} {f : Int → Int}
/-- the landing -/
def lan (f : Int → Int) (P : Nat) (x : Int) : Int := land (hOf f P) x
theorem VF.lf (v : VF P f) (y : Int) : lan f P (f y) = y := land_f v.pos v.nod v.per y
theorem VF.fl (v : VF P f) (x : Int) : f (lan f P x) = x := f_land v.pos v.nod v.per x
theorem VF.inj (v : VF P f) {x y : Int} (h : f x = f y) : x = y := by rw [← v.lf x, h, v.lf]
theorem lan_eq (x : Int) : lan f P x = x + (hOf f P).getD (x % P).toNat 0 := by
  unfold lan land
  rw [hOf_length]
theorem lan_at (x : Nat) (h : x < P) : lan f P x = x + (hOf f P).getD x 0 := by
  rw [lan_eq, Int.emod_eq_of_lt (by omega) (by omega)]
  simp
theorem VF.le_lan (v : VF P f) (x : Int) : x ≤ lan f P x := by
  have := v.le (lan f P x)
  rw [v.fl] at this
  exact this
/-- a place is used if a ball is thrown from it, and if one lands there -/
theorem VF.used (v : VF P f) (x : Int) : x < lan f P x ↔ f x < x := by
  constructor
  · intro h
    have h1 := v.le x
    rcases Int.lt_or_eq_of_le h1 with h2 | h2
    · exact h2
    · have := v.lf x
      rw [h2] at this
      omega
  · intro h
    have h1 := v.le_lan x
    rcases Int.lt_or_eq_of_le h1 with h2 | h2
    · exact h2
    · have := v.fl x
      rw [← h2] at this
      omega
theorem used_per (v : VF P f) (x : Int) : (f (x + P) < x + P) ↔ f x < x := by rw [v.per]; omega
def prN (f : Int → Int) : Nat → Int → Int
  | 0, y => y
  | n + 1, y => if f y < y then y else prN f n (y - 1)
def suN (f : Int → Int) : Nat → Int → Int
  | 0, y => y
  | n + 1, y => if f y < y then y else suN f n (y + 1)
theorem prN_spec : ∀ (n : Nat) (y : Int), (∃ d : Nat, d ≤ n ∧ f (y - d) < y - d) → f (prN f n y) < prN f n y ∧ prN f n y ≤ y ∧ ∀ z, prN f n y < z → z ≤ y → ¬ f z < z := by
  intro n
  induction n with
  | zero =>
    rintro y ⟨d, hd, h⟩
    have : d = 0 := by omega
    subst this
    have e : y - ((0 : Nat) : Int) = y := by omega
    rw [e] at h
    exact ⟨h, Int.le_refl _, fun z h1 h2 => by
      have h1' : y < z := h1
      omega⟩
  | succ n ih =>
    rintro y ⟨d, hd, h⟩
    unfold prN
    by_cases hu : f y < y
    · rw [if_pos hu]
      exact ⟨hu, Int.le_refl _, fun z h1 h2 => by omega⟩
    · rw [if_neg hu]
      cases d with
      | zero =>
        have e : y - ((0 : Nat) : Int) = y := by omega
        rw [e] at h
        exact (hu h).elim
      | succ d =>
        obtain ⟨h1, h2, h3⟩ := ih (y - 1) ⟨d, by omega, by
          have e : y - 1 - (d : Int) = y - ((d + 1 : Nat) : Int) := by omega
          rw [e]; exact h⟩
        refine ⟨h1, by omega, fun z hz1 hz2 => ?_⟩
        by_cases hzy : z = y
        · rw [hzy]; exact hu
        · exact h3 z hz1 (by omega)
theorem suN_spec : ∀ (n : Nat) (y : Int), (∃ d : Nat, d ≤ n ∧ f (y + d) < y + d) → f (suN f n y) < suN f n y ∧ y ≤ suN f n y ∧ ∀ z, y ≤ z → z < suN f n y → ¬ f z < z := by
  intro n
  induction n with
  | zero =>
    rintro y ⟨d, hd, h⟩
    have : d = 0 := by omega
    subst this
    have e : y + ((0 : Nat) : Int) = y := by omega
    rw [e] at h
    exact ⟨h, Int.le_refl _, fun z h1 h2 => by
      have h2' : z < y := h2
      omega⟩
  | succ n ih =>
    rintro y ⟨d, hd, h⟩
    unfold suN
    by_cases hu : f y < y
    · rw [if_pos hu]
      exact ⟨hu, Int.le_refl _, fun z h1 h2 => by omega⟩
    · rw [if_neg hu]
      cases d with
      | zero =>
        have e : y + ((0 : Nat) : Int) = y := by omega
        rw [e] at h
        exact (hu h).elim
      | succ d =>
        obtain ⟨h1, h2, h3⟩ := ih (y + 1) ⟨d, by omega, by
          have e : y + 1 + (d : Int) = y + ((d + 1 : Nat) : Int) := by omega
          rw [e]; exact h⟩
        refine ⟨h1, by omega, fun z hz1 hz2 => ?_⟩
        by_cases hzy : z = y
        · rw [hzy]; exact hu
        · exact h3 z (by omega) hz2
/-- some place is used -/
def HasU (P : Nat) (f : Int → Int) : Prop := ∃ u : Nat, u < P ∧ f u < u
theorem shift_used (v : VF P f) {x : Int} (h : f x < x) (k : Nat) : f (x + k * P) < x + k * P := by
  rw [per_mul v.per]
  omega
theorem HasU.down (v : VF P f) (hu : HasU P f) (y : Int) : ∃ d : Nat, d < P ∧ f (y - d) < y - d := by
  obtain ⟨u, h1, h2⟩ := hu
  have hP := v.pos
  obtain ⟨d, hd, hs⟩ := near (P := P) (S := [(u : Int)]) ⟨by simp, fun s hs => by
    have : s = u := by simpa using hs
    subst this; omega⟩ y
  have hs' : (y - d) % P = u := by simpa using hs
  refine ⟨d, hd, ?_⟩
  have e := Int.emod_add_mul_ediv (y - d) P
  rw [hs'] at e
  rcases Int.le_total 0 ((y - d) / P) with hq | hq
  · obtain ⟨q, hq⟩ := Int.eq_ofNat_of_zero_le hq
    have := shift_used v h2 q
    rw [hq, Int.mul_comm] at e
    rw [e] at this
    exact this
  · obtain ⟨q, hq⟩ := Int.eq_ofNat_of_zero_le (show 0 ≤ -((y - d) / P) by omega)
    have hq' : (y - d) / P = -(q : Int) := by omega
    rw [hq', Int.mul_neg, Int.mul_comm] at e
    have := per_mul v.per q (y - d)
    rw [show y - (d : Int) + q * P = u by omega] at this
    omega
theorem HasU.up (v : VF P f) (hu : HasU P f) (y : Int) : ∃ d : Nat, d < P ∧ f (y + d) < y + d := by
  have hP := v.pos
  obtain ⟨d, hd, h⟩ := hu.down v (y + (P - 1 : Nat))
  refine ⟨P - 1 - d, by omega, ?_⟩
  have e : y + ((P - 1 - d : Nat) : Int) = y + ((P - 1 : Nat) : Int) - d := by omega
  rw [e]
  exact h
def pred (f : Int → Int) (P : Nat) (g : Int) : Int := prN f P (g - 1)
def succ (f : Int → Int) (P : Nat) (g : Int) : Int := suN f P (g + 1)
theorem pred_spec (v : VF P f) (hu : HasU P f) (g : Int) : f (pred f P g) < pred f P g ∧ pred f P g < g ∧ ∀ z, pred f P g < z → z < g → ¬ f z < z := by
  obtain ⟨d, hd, h⟩ := hu.down v (g - 1)
  obtain ⟨h1, h2, h3⟩ := prN_spec (f := f) P (g - 1) ⟨d, by omega, h⟩
  exact ⟨h1, by unfold pred; omega, fun z a b => h3 z a (by omega)⟩
theorem succ_spec (v : VF P f) (hu : HasU P f) (g : Int) : f (succ f P g) < succ f P g ∧ g < succ f P g ∧ ∀ z, g < z → z < succ f P g → ¬ f z < z := by
  obtain ⟨d, hd, h⟩ := hu.up v (g + 1)
  obtain ⟨h1, h2, h3⟩ := suN_spec (f := f) P (g + 1) ⟨d, by omega, h⟩
  exact ⟨h1, by unfold succ; omega, fun z a b => h3 z (by omega) b⟩
theorem succ_pred (v : VF P f) (hu : HasU P f) {y : Int} (hy : f y < y) : succ f P (pred f P y) = y := by
  obtain ⟨a1, a2, a3⟩ := pred_spec v hu y
  obtain ⟨b1, b2, b3⟩ := succ_spec v hu (pred f P y)
  rcases Int.lt_trichotomy (succ f P (pred f P y)) y with h | h | h
  · exact (a3 _ b2 h b1).elim
  · exact h
  · exact (b3 y a2 h hy).elim
theorem pred_succ (v : VF P f) (hu : HasU P f) {y : Int} (hy : f y < y) : pred f P (succ f P y) = y := by
  obtain ⟨a1, a2, a3⟩ := succ_spec v hu y
  obtain ⟨b1, b2, b3⟩ := pred_spec v hu (succ f P y)
  rcases Int.lt_trichotomy (pred f P (succ f P y)) y with h | h | h
  · exact (b3 y h a2 hy).elim
  · exact h
  · exact (a3 _ h b2 b1).elim
theorem suN_per (v : VF P f) (n : Nat) : ∀ y, suN f n (y + P) = suN f n y + P := by
  induction n with
  | zero => intro y; rfl
  | succ n ih =>
    intro y
    unfold suN
    have e : y + (P : Int) + 1 = y + 1 + P := by omega
    by_cases h : f y < y
    · rw [if_pos h, if_pos ((used_per v y).mpr h)]
    · rw [if_neg h, if_neg (fun z => h ((used_per v y).mp z)), e, ih]
theorem succ_per (v : VF P f) (y : Int) : succ f P (y + P) = succ f P y + P := by
  unfold succ
  have e : y + (P : Int) + 1 = y + 1 + P := by omega
  rw [e, suN_per v]
/-- the cast without the last entry of the growing page -/
def pe (f : Int → Int) (P : Nat) (y : Int) : Int := if f y < y then f (succ f P y) else y
/-- the used places -/
def usedL (f : Int → Int) (P : Nat) : List Int := ((List.range P).filter fun p : Nat => decide (f (p : Int) < p)).map fun p : Nat => (p : Int)
theorem mem_used {p : Int} : p ∈ usedL f P ↔ 0 ≤ p ∧ p < P ∧ f p < p := by
  unfold usedL
  constructor
  · intro h
    obtain ⟨q, hq, rfl⟩ := List.mem_map.mp h
    obtain ⟨h1, h2⟩ := List.mem_filter.mp hq
    rw [decide_eq_true_eq] at h2
    have := List.mem_range.mp h1
    exact ⟨by omega, by omega, h2⟩
  · rintro ⟨h0, h1, h2⟩
    obtain ⟨q, rfl⟩ := Int.eq_ofNat_of_zero_le h0
    exact List.mem_map.mpr ⟨q, List.mem_filter.mpr ⟨List.mem_range.mpr (by omega), by rw [decide_eq_true_eq]; exact h2⟩, rfl⟩
theorem used_mod (v : VF P f) (y : Int) : y % P ∈ usedL f P ↔ f y < y := by
  rw [mem_used]
  have h0 := Int.emod_nonneg y (show (P : Int) ≠ 0 by have := v.pos; omega)
  have h1 := Int.emod_lt_of_pos y (show (0 : Int) < P by have := v.pos; omega)
  have e := Int.emod_add_mul_ediv y P
  have key : f (y % P) < y % P ↔ f y < y := by
    rcases Int.le_total 0 (y / P) with hq | hq
    · obtain ⟨q, hq⟩ := Int.eq_ofNat_of_zero_le hq
      have := per_mul v.per q (y % P)
      rw [hq, Int.mul_comm] at e
      rw [e] at this
      omega
    · obtain ⟨q, hq⟩ := Int.eq_ofNat_of_zero_le (show 0 ≤ -(y / P) by omega)
      have hq' : y / P = -(q : Int) := by omega
      rw [hq', Int.mul_neg, Int.mul_comm] at e
      have := per_mul v.per q y
      rw [show y + (q : Int) * P = y % P by omega] at this
      omega
  exact ⟨fun z => key.mp z.2.2, fun z => ⟨h0, h1, key.mpr z⟩⟩
theorem ok_used (v : VF P f) (hu : HasU P f) : OkS P (usedL f P) := by
  obtain ⟨u, h1, h2⟩ := hu
  have : (u : Int) ∈ usedL f P := mem_used.mpr ⟨by omega, by omega, h2⟩
  exact ⟨fun e => (by rw [e] at this; cases this), fun s hs => ⟨(mem_used.mp hs).1, (mem_used.mp hs).2.1⟩⟩
theorem pe_used (v : VF P f) (hu : HasU P f) {y : Int} (hy : f y < y) : pe f P y ≤ y := by
  unfold pe
  rw [if_pos hy]
  obtain ⟨a1, a2, a3⟩ := succ_spec v hu y
  have h1 : f (f (succ f P y)) < f (succ f P y) := (v.used _).mp (by rw [v.lf]; exact a1)
  rcases (show y < f (succ f P y) ∨ f (succ f P y) ≤ y by omega) with h | h
  · exact (a3 _ h a1 h1).elim
  · exact h
theorem vf_pe (v : VF P f) (hu : HasU P f) : VF P (pe f P) := by
  have le : ∀ y, pe f P y ≤ y := fun y => by
    by_cases h : f y < y
    · exact pe_used v hu h
    · unfold pe; rw [if_neg h]; exact Int.le_refl _
  have per : ∀ y, pe f P (y + P) = pe f P y + P := fun y => by
    unfold pe
    by_cases h : f y < y
    · rw [if_pos h, if_pos ((used_per v y).mpr h), succ_per v, v.per]
    · rw [if_neg h, if_neg fun z => h ((used_per v y).mp z)]
  have inj : ∀ x y, pe f P x = pe f P y → x = y := by
    have cross : ∀ x y, f x < x → ¬ f y < y → f (succ f P x) = y → False := fun x y hx hy e => by
      obtain ⟨a1, a2, a3⟩ := succ_spec v hu x
      have : f (f (succ f P x)) < f (succ f P x) := (v.used _).mp (by rw [v.lf]; exact a1)
      rw [e] at this
      exact hy this
    intro x y e
    unfold pe at e
    by_cases hx : f x < x <;> by_cases hy : f y < y
    · rw [if_pos hx, if_pos hy] at e
      have := v.inj e
      rw [← pred_succ v hu hx, this, pred_succ v hu hy]
    · rw [if_pos hx, if_neg hy] at e
      exact (cross x y hx hy e).elim
    · rw [if_neg hx, if_pos hy] at e
      exact (cross y x hy hx e.symm).elim
    · rw [if_neg hx, if_neg hy] at e
      exact e
  refine ⟨v.pos, per, le, ?_⟩
  unfold NodM
  rw [List.nodup_iff_pairwise_ne, List.pairwise_map]
  refine (List.nodup_iff_pairwise_ne.mp (List.nodup_range (n := P))).imp_of_mem ?_
  intro a b ha hb hab e
  have ha := List.mem_range.mp ha
  have hb := List.mem_range.mp hb
  have hP := v.pos
  have ea := Int.emod_add_mul_ediv (pe f P a) P
  have eb := Int.emod_add_mul_ediv (pe f P b) P
  rw [e] at ea
  apply hab
  -- the two values differ by cycles
  have key : ∀ (x y : Nat), x < P → y < P → ∀ q : Nat, pe f P x = pe f P y + q * P → x = y := fun x y hx hy q h => by
    rw [← per_mul per q (y : Int)] at h
    have := inj _ _ h
    cases q with
    | zero => omega
    | succ q =>
      have : ((q + 1 : Nat) : Int) * P = q * P + P := by rw [Int.natCast_add, Int.add_mul]; omega
      have : 0 ≤ (q : Int) * P := Int.mul_nonneg (by omega) (by omega)
      omega
  rcases Int.le_total (pe f P b / P) (pe f P a / P) with h | h
  · obtain ⟨q, hq⟩ := Int.eq_ofNat_of_zero_le (show 0 ≤ pe f P a / P - pe f P b / P by omega)
    refine key a b ha hb q ?_
    have : (P : Int) * (pe f P a / P) = P * (pe f P b / P) + q * P := by
      rw [show pe f P a / P = pe f P b / P + q by omega, Int.mul_add, Int.mul_comm (P : Int) q]
    omega
  · obtain ⟨q, hq⟩ := Int.eq_ofNat_of_zero_le (show 0 ≤ pe f P b / P - pe f P a / P by omega)
    refine (key b a hb ha q ?_).symm
    have : (P : Int) * (pe f P b / P) = P * (pe f P a / P) + q * P := by
      rw [show pe f P b / P = pe f P a / P + q by omega, Int.mul_add, Int.mul_comm (P : Int) q]
    omega
theorem carrN_pe (v : VF P f) (hu : HasU P f) : ∀ (n : Nat) (y : Int), (∃ d : Nat, d ≤ n ∧ f (y - d) < y - d) → carrN (pe f P) P (usedL f P) n y = pe f P (prN f n y) := by
  intro n
  induction n with
  | zero => intro y _; rfl
  | succ n ih =>
    rintro y ⟨d, hd, h⟩
    unfold carrN prN
    by_cases hy : f y < y
    · rw [if_pos ((used_mod v y).mpr hy), if_pos hy]
    · rw [if_neg fun z => hy ((used_mod v y).mp z), if_neg hy]
      cases d with
      | zero =>
        have e : y - ((0 : Nat) : Int) = y := by omega
        rw [e] at h
        exact (hy h).elim
      | succ d =>
        have hd' : ∃ d : Nat, d ≤ n ∧ f (y - 1 - d) < y - 1 - d := ⟨d, by omega, by
          have e : y - 1 - (d : Int) = y - ((d + 1 : Nat) : Int) := by omega
          rw [e]; exact h⟩
        rw [ih (y - 1) hd']
        obtain ⟨h1, h2, _⟩ := prN_spec (f := f) n (y - 1) hd'
        have := pe_used v hu h1
        have : pe f P y = y := by unfold pe; rw [if_neg hy]
        omega
/-- the last entry of the growing page put behind again -/
theorem step_pe (v : VF P f) (hu : HasU P f) (y : Int) : stepF (pe f P) P (usedL f P) y = f y := by
  obtain ⟨d, hd, h⟩ := hu.down v (y - 1)
  have e : carr (pe f P) P (usedL f P) y = pe f P (pred f P y) := carrN_pe v hu P (y - 1) ⟨d, by omega, h⟩
  obtain ⟨a1, a2, a3⟩ := pred_spec v hu y
  unfold stepF
  rw [e]
  by_cases hy : f y < y
  · rw [if_pos ((used_mod v y).mpr hy)]
    unfold pe
    rw [if_pos a1, succ_pred v hu hy]
  · rw [if_neg fun z => hy ((used_mod v y).mp z)]
    have h1 := pe_used v hu a1
    have h2 : pe f P y = y := by unfold pe; rw [if_neg hy]
    have := v.le y
    omega
/-- balls -/
def Balls (P : Nat) (f : Int → Int) (n : Nat) : Prop := sumF f P + n * P = sumF id P
theorem balls_page {A : List (List Int)} (ok : OkP P A) : Balls P (pageF P A) A.length := pageF_sum ok
theorem sumF_le {g : Int → Int} (hg : ∀ y, g y ≤ y) (n : Nat) : sumF g n ≤ sumF id n := by
  induction n with
  | zero => exact Int.le_refl _
  | succ n ih =>
    simp only [sumF, id]
    have := hg n
    omega
theorem sumF_eq {g : Int → Int} (hg : ∀ y, g y ≤ y) {n : Nat} (h : sumF g n = sumF id n) : ∀ i : Nat, i < n → g i = i := by
  induction n with
  | zero => intro i hi; omega
  | succ n ih =>
    simp only [sumF, id] at h
    have h1 := hg n
    have h2 := sumF_le hg n
    intro i hi
    by_cases e : i = n
    · subst e; omega
    · exact ih (by omega) i (by omega)
theorem balls_zero (v : VF P f) (h : Balls P f 0) (y : Int) : f y = y := by
  unfold Balls at h
  refine per_ext (g := fun y => y) v.pos v.per (fun _ => rfl) (fun i hi => sumF_eq v.le (by simpa using h) i hi) y
theorem balls_used (v : VF P f) {n : Nat} (h : Balls P f (n + 1)) : HasU P f := by
  unfold Balls at h
  by_cases hu : HasU P f
  · exact hu
  · have : ∀ m, m ≤ P → sumF f m = sumF id m := by
      intro m
      induction m with
      | zero => intro _; rfl
      | succ m ih =>
        intro hm
        simp only [sumF, id]
        rw [ih (by omega)]
        have h1 := v.le m
        have : ¬ f m < m := fun z => hu ⟨m, by omega, z⟩
        omega
    rw [this P (Nat.le_refl _)] at h
    have e : ((n + 1 : Nat) : Int) * P = n * P + P := by rw [Int.natCast_add, Int.add_mul]; omega
    have : 0 ≤ (n : Int) * P := Int.mul_nonneg (by omega) (by omega)
    have := v.pos
    omega
theorem balls_pe (v : VF P f) {n : Nat} (h : Balls P f (n + 1)) : Balls P (pe f P) n := by
  have hu := balls_used v h
  have h2 := stepF_sum (f := pe f P) (ok_used v hu) P
  have e : stepF (pe f P) P (usedL f P) = f := funext (step_pe v hu)
  rw [e] at h2
  have e2 := carr_per (S := usedL f P) (vf_pe v hu).per 0
  rw [Int.zero_add] at e2
  unfold Balls at h ⊢
  have e3 : ((n + 1 : Nat) : Int) * P = n * P + P := by rw [Int.natCast_add, Int.add_mul]; omega
  omega
/-- the growing page -/
def grow (P : Nat) : Nat → (Int → Int) → List (List Int)
  | 0, _ => []
  | n + 1, f => grow P n (pe f P) ++ [usedL f P]
theorem grow_ok (P : Nat) : ∀ (n : Nat) (f : Int → Int), VF P f → Balls P f n → OkP P (grow P n f) ∧ pageF P (grow P n f) = f := by
  intro n
  induction n with
  | zero =>
    intro f v h
    refine ⟨(fun S hS => by cases hS), ?_⟩
    funext y
    rw [balls_zero v h y]
    rfl
  | succ n ih =>
    intro f v h
    have hu := balls_used v h
    obtain ⟨h1, h2⟩ := ih (pe f P) (vf_pe v hu) (balls_pe v h)
    unfold grow
    refine ⟨h1.app fun S hS => by
      have : S = usedL f P := by simpa using hS
      rw [this]; exact ok_used v hu, ?_⟩
    rw [pageF_snoc, h2]
    exact funext (step_pe v hu)
/-- the cast of the joined page -/
theorem product {A B : List (List Int)} (okA : OkP P A) (okB : OkP P B) (hP : 0 < P) : (grow P B.length (pageF P B)).foldl (fun f S => stepF f P S) (pageF P A) = pageF P (A ++ B) := by
  obtain ⟨h1, h2⟩ := grow_ok P B.length (pageF P B) (vf_page hP okB) (balls_page okB)
  rw [← pageF_app]
  funext y
  exact pageF_congr h1 okB (fun y => by rw [h2]) y
/-- the rest's heights -/
theorem hOf_pe (v : VF P f) (hu : HasU P f) {p : Nat} (hp : p < P) : (hOf (pe f P) P).getD p 0 = if f p < p then pred f P (lan f P p) - p else 0 := by
  have vp := vf_pe v hu
  have at_ : ∀ y : Int, pe f P y = p → (hOf (pe f P) P).getD p 0 = y - p := fun y e => by
    have h1 := vp.lf y
    rw [e, lan_at p hp] at h1
    omega
  by_cases h : f p < p
  · rw [if_pos h]
    refine at_ _ ?_
    have hl : f (lan f P p) < lan f P p := by rw [v.fl]; exact (v.used p).mpr h
    obtain ⟨a1, a2, a3⟩ := pred_spec v hu (lan f P p)
    unfold pe
    rw [if_pos a1, succ_pred v hu hl, v.fl]
  · rw [if_neg h, at_ p (by unfold pe; rw [if_neg h])]
    omega
/-! ### counts by landings -/
def cntL (L : Int → Int) (e b : Int) : Nat → Nat
  | 0 => 0
  | n + 1 => cntL L e b n + if e ≤ L (b + n) then 1 else 0
def cntE (L : Int → Int) (e b : Int) : Nat → Nat
  | 0 => 0
  | n + 1 => cntE L e b n + if L (b + n) = e then 1 else 0
theorem cntL_split (L : Int → Int) (e b : Int) (n : Nat) : cntL L e b n = cntL L (e + 1) b n + cntE L e b n := by
  induction n with
  | zero => rfl
  | succ n ih =>
    simp only [cntL, cntE]
    rw [ih]
    by_cases h1 : e + 1 ≤ L (b + n)
    · rw [if_pos (show e ≤ L (b + n) by omega), if_pos h1, if_neg (by omega)]; omega
    · by_cases h2 : L (b + n) = e
      · rw [if_pos (show e ≤ L (b + n) by omega), if_neg h1, if_pos h2]; omega
      · rw [if_neg (show ¬ e ≤ L (b + n) by omega), if_neg h1, if_neg h2]; omega
theorem cntE_one (v : VF P f) (e b : Int) (n : Nat) : cntE (lan f P) e b n = if b ≤ f e ∧ f e < b + n then 1 else 0 := by
  induction n with
  | zero =>
    simp only [cntE]
    rw [if_neg (by omega)]
  | succ n ih =>
    simp only [cntE]
    rw [ih]
    have iff1 : lan f P (b + n) = e ↔ b + n = f e := ⟨fun h => by rw [← h, v.fl], fun h => by rw [h, v.lf]⟩
    by_cases h : b + (n : Int) = f e
    · rw [if_pos (iff1.mpr h), if_neg (by omega), if_pos (by omega)]
    · rw [if_neg (fun z => h (iff1.mp z))]
      by_cases h2 : b ≤ f e ∧ f e < b + n
      · rw [if_pos h2, if_pos (by omega)]
      · rw [if_neg h2, if_neg (by omega)]
theorem cntL_cnt (v : VF P f) (b : Int) (n : Nat) : cntL (lan f P) (b + n) b n = cnt f b n := by
  induction n with
  | zero => rfl
  | succ n ih =>
    simp only [cntL, cnt]
    have e : b + ((n + 1 : Nat) : Int) = (b + n) + 1 := by omega
    rw [e]
    have h1 := cntL_split (lan f P) (b + n) b n
    rw [ih, cntE_one v] at h1
    have u := v.used (b + n)
    have := v.le (b + n)
    by_cases h : f (b + n) < b + n
    · rw [if_pos (show b + (n : Int) + 1 ≤ lan f P (b + n) by have := u.mpr h; omega)]
      by_cases h2 : f (b + n) < b
      · rw [if_pos h2]
        rw [if_neg (by omega)] at h1
        omega
      · rw [if_neg h2]
        rw [if_pos (by omega)] at h1
        omega
    · rw [if_neg (show ¬ b + (n : Int) + 1 ≤ lan f P (b + n) by
        intro z
        exact h (u.mp (by omega)))]
      rw [if_neg (show ¬ f (b + (n : Int)) < b by omega)]
      rw [if_neg (by omega)] at h1
      omega
theorem cntL_app (L : Int → Int) (e b : Int) (n m : Nat) : cntL L e b (n + m) = cntL L e b n + cntL L e (b + n) m := by
  induction m with
  | zero => rfl
  | succ m ih =>
    rw [← Nat.add_assoc]
    simp only [cntL]
    rw [ih]
    have : b + ((n + m : Nat) : Int) = b + n + m := by omega
    rw [this]
    omega
theorem cntL_none (L : Int → Int) (e b : Int) (n : Nat) (h : ∀ i : Nat, i < n → L (b + i) < e) : cntL L e b n = 0 := by
  induction n with
  | zero => rfl
  | succ n ih =>
    simp only [cntL]
    rw [ih fun i hi => h i (by omega), if_neg (by have := h n (by omega); omega)]
/-- where the heights' greatest cuts the walk -/
theorem cntL_cut (v : VF P f) {b e hi lo : Int} (hbe : b ≤ e) (hhi : ∀ x ∈ hOf f P, x ≤ hi) (hlo : lo = max b (e - hi)) : cntL (lan f P) e lo (e - lo).toNat = cnt f b (e - b).toNat := by
  have h0 : 0 ≤ hi := by
    have := v.pos
    have hl : 0 < (hOf f P).length := by rw [hOf_length]; exact this
    have m : (hOf f P)[0] ∈ hOf f P := List.getElem_mem hl
    have := hhi _ m
    have := hOf_nonneg v.le _ m
    omega
  have key := cntL_cnt v b (e - b).toNat
  have e1 : b + ((e - b).toNat : Int) = e := by omega
  rw [e1] at key
  rw [← key]
  have e2 : (e - b).toNat = (lo - b).toNat + (e - lo).toNat := by omega
  rw [e2, cntL_app]
  have e3 : b + ((lo - b).toNat : Int) = lo := by omega
  rw [e3, cntL_none (lan f P) e b (lo - b).toNat fun i hi' => ?_, Nat.zero_add]
  rw [lan_eq]
  have hP := v.pos
  have h1 := Int.emod_lt_of_pos (b + i) (show (0 : Int) < P by omega)
  have h2 := Int.emod_nonneg (b + i) (show (P : Int) ≠ 0 by omega)
  have hl : ((b + i) % P).toNat < (hOf f P).length := by rw [hOf_length]; omega
  have := hhi _ (List.getElem_mem hl)
  rw [List.getD_eq_getElem?_getD, List.getElem?_eq_getElem hl]
  show b + (i : Int) + (hOf f P)[((b + i) % P).toNat] < e
  omega
/-- no two landings meet -/
theorem no_meet (v : VF P f) {i j : Nat} (hi : i < P) (hj : j < P) (hij : i ≠ j) : (lan f P i - lan f P j) % P ≠ 0 := by
  intro h
  have hP := v.pos
  obtain ⟨q, hq⟩ := Int.dvd_of_emod_eq_zero h
  have key : ∀ x y : Nat, x < P → y < P → ∀ k : Nat, lan f P x = lan f P y + k * P → x = y := fun x y hx hy k e => by
    have e1 := v.fl x
    rw [e, per_mul v.per, v.fl] at e1
    cases k with
    | zero => omega
    | succ k =>
      have : ((k + 1 : Nat) : Int) * P = k * P + P := by rw [Int.natCast_add, Int.add_mul]; omega
      have : 0 ≤ (k : Int) * P := Int.mul_nonneg (by omega) (by omega)
      omega
  rcases Int.le_total 0 q with h0 | h0
  · obtain ⟨k, hk⟩ := Int.eq_ofNat_of_zero_le h0
    exact hij (key i j hi hj k (by rw [hk, Int.mul_comm] at hq; omega))
  · obtain ⟨k, hk⟩ := Int.eq_ofNat_of_zero_le (show 0 ≤ -q by omega)
    refine hij (key j i hj hi k ?_).symm
    have : q = -(k : Int) := by omega
    rw [this, Int.mul_neg, Int.mul_comm] at hq
    omega
end
end M

/-! Sp -/
set_option Elab.async false
set_option linter.all false
set_option maxRecDepth 100000
set_option maxHeartbeats 4000000
namespace Ly
open PySem PySem.Spec PyProof.Rows L2 M
abbrev iv (ns : List Int) : List V := ns.map V.int
abbrev IL (H : Hp) (a : Addr) (ns : List Int) : Prop := H a = some (.lst (ns.map V.int))
def cl (F : Int → Int) (P : Nat) : List Int := (List.range P).map fun i : Nat => F i
/-- a list of lists of ints -/
def LL (H : Hp) (a : Addr) (A : List (List Int)) : Prop := ∃ bs : List Addr, H a = some (.lst (bs.map V.ref)) ∧ bs.length = A.length ∧ ∀ (i : Nat) (b : Addr) (S : List Int), bs[i]? = some b → A[i]? = some S → IL H b S
/-- the came function of a cast of 1 to 6 places and n balls -/
structure GF (P : Nat) (F : Int → Int) (n : Nat) : Prop where
  v : VF P F
  p6 : P ≤ 6
  b : Balls P F n
  n16 : n ≤ 16
/-- a page of a calendar of 1 to 6 places -/
structure PG (P : Nat) (A : List (List Int)) : Prop where
  pos : 0 < P
  p6 : P ≤ 6
  ok : OkP P A
  n16 : A.length ≤ 16
theorem PG.gf {P : Nat} {A : List (List Int)} (h : PG P A) : GF P (pageF P A) A.length := ⟨vf_page h.pos h.ok, h.p6, balls_page h.ok, h.n16⟩
def sm (x : Int) : Prop := -1000000000 ≤ x ∧ x ≤ 1000000000
def IsC (c : CA) (H : Hp) (x : Addr) (P : Nat) (F : Int → Int) : Prop := ∃ dx t, H x = some (.ins c.Cast dx [("_heights", .ref t)]) ∧ H t = some (.tup ((hOf F P).map V.int))
abbrev one (k : Nat) : Str := ⟨#[k]⟩
def has (z : Str) (k : Nat) : Bool := decide (k ∈ z.cps.toList)
def IsCal (c : CA) (H : Hp) (k : Addr) (ws : List Str) : Prop := ∃ dx l, H k = some (.ins c.Calendar dx [("_words", .ref l)]) ∧ H l = some (.lst (ws.map V.str))
def standsL (ws : List Str) (k : Nat) : List Int := ((List.range ws.length).filter fun p => has (ws.getD p ⟨#[]⟩) k).map fun p : Nat => (p : Int)
def pageA (ws : List Str) (z : Str) : List (List Int) := z.cps.toList.map (standsL ws)
/-- words of a calendar -/
structure OkW (ws : List Str) : Prop where
  pos : 0 < ws.length
  p6 : ws.length ≤ 6
  short : ∀ w ∈ ws, w.length ≤ 26
/-- a sign of the calendar -/
def sign (ws : List Str) (k : Nat) : Prop := 97 ≤ k ∧ k ≤ 122 ∧ ∃ w ∈ ws, has w k = true
structure OkZ (ws : List Str) (z : Str) : Prop where
  w : OkW ws
  sg : ∀ k ∈ z.cps.toList, sign ws k
  l16 : z.length ≤ 16

/-! ### promises -/
def sp_check_places (c : CA) : Sp := fun vs H Q _ => ∃ p : Int, vs = [.int p] ∧ 1 ≤ p ∧ p ≤ 6 ∧ Q .non H
def sp_check_stretch (c : CA) : Sp := fun vs H Q _ => ∃ b e : Int, vs = [.int b, .int e] ∧ b ≤ e ∧ Q .non H
def sp_at_place (c : CA) : Sp := fun vs H Q _ => ∃ (a : Addr) (p : Int) (ns : List Int), vs = [.ref a, .int p] ∧ IL H a ns ∧ 0 < ns.length ∧ Q (.int (atP ns p)) H
def sp_landing (c : CA) : Sp := fun vs H Q _ => ∃ (a : Addr) (p : Int) (P : Nat) (F : Int → Int), vs = [.ref a, .int p] ∧ IL H a (hOf F P) ∧ 0 < P ∧ Q (.int (lan F P p)) H
def sp_came_list (c : CA) : Sp := fun vs H Q _ => ∃ (a : Addr) (P : Nat) (F : Int → Int), vs = [.ref a] ∧ IL H a (hOf F P) ∧ VF P F ∧ P ≤ 6 ∧ ∀ H' p, Same H H' → H p = none → IL H' p (cl F P) → Q (.ref p) H'
def sp_heights_of (c : CA) : Sp := fun vs H Q _ => ∃ (a : Addr) (P : Nat) (F : Int → Int), vs = [.ref a] ∧ IL H a (cl F P) ∧ VF P F ∧ P ≤ 6 ∧ ∀ H' p, Same H H' → H p = none → IL H' p (hOf F P) → Q (.ref p) H'
def sp_count_between (c : CA) : Sp := fun vs H Q _ => ∃ (a : Addr) (b e : Int) (P n : Nat) (F : Int → Int), vs = [.ref a, .int b, .int e] ∧ IL H a (hOf F P) ∧ GF P F n ∧ b ≤ e ∧ sm b ∧ sm e ∧ ∀ H', Same H H' → Q (.int (cnt F b (e - b).toNat)) H'
def sp_carried_to (c : CA) : Sp := fun vs H Q _ => ∃ (a s : Addr) (g : Int) (P : Nat) (F : Int → Int) (S : List Int), vs = [.ref a, .ref s, .int g] ∧ IL H a (cl F P) ∧ IL H s S ∧ OkS P S ∧ (∀ y, F (y + P) = F y + P) ∧ 0 < P ∧ Q (.int (carr F P S g)) H
def sp_carried_came (c : CA) : Sp := fun vs H Q _ => ∃ (a s : Addr) (P : Nat) (F : Int → Int) (S : List Int), vs = [.ref a, .ref s] ∧ IL H a (cl F P) ∧ IL H s S ∧ OkS P S ∧ (∀ y, F (y + P) = F y + P) ∧ 0 < P ∧ P ≤ 6 ∧ ∀ H' p, Same H H' → H p = none → IL H' p (cl (carr F P S) P) → Q (.ref p) H'
def sp_step_came (c : CA) : Sp := fun vs H Q _ => ∃ (a s : Addr) (P : Nat) (F : Int → Int) (S : List Int), vs = [.ref a, .ref s] ∧ IL H a (cl F P) ∧ IL H s S ∧ OkS P S ∧ (∀ y, F (y + P) = F y + P) ∧ 0 < P ∧ P ≤ 6 ∧ ∀ H' p, Same H H' → H p = none → IL H' p (cl (stepF F P S) P) → Q (.ref p) H'
def sp_peel (c : CA) : Sp := fun vs H Q _ => ∃ (a : Addr) (P : Nat) (F : Int → Int), vs = [.ref a] ∧ IL H a (hOf F P) ∧ VF P F ∧ HasU P F ∧ P ≤ 6 ∧ ∀ H' t r u, Same H H' → H' t = some (.tup [.ref r, .ref u]) → IL H' r (hOf (pe F P) P) → IL H' u (usedL F P) → Q (.ref t) H'
def sp_product_heights (c : CA) : Sp := fun vs H Q _ => ∃ (a b : Addr) (P : Nat) (A B : List (List Int)), vs = [.ref a, .ref b] ∧ IL H a (hts P A) ∧ IL H b (hts P B) ∧ PG P A ∧ PG P B ∧ ∀ H' p, Same H H' → H p = none → IL H' p (hts P (A ++ B)) → Q (.ref p) H'
def sp_Cast___init__ (c : CA) : Sp := fun vs H Q _ => ∃ (x dx h : Addr) (P n : Nat) (F : Int → Int), vs = [.ref x, .ref h] ∧ H x = some (.ins c.Cast dx []) ∧ IL H h (hOf F P) ∧ GF P F n ∧
  ∀ H' t, (∀ b o, b ≠ x → H b = some o → H' b = some o) → H' x = some (.ins c.Cast dx [("_heights", .ref t)]) → H' t = some (.tup ((hOf F P).map V.int)) → Q .non H'
def sp_Cast_none (c : CA) : Sp := fun vs H Q _ => ∃ P : Nat, vs = [.int P] ∧ 0 < P ∧ P ≤ 6 ∧ ∀ H' x, Same H H' → H x = none → IsC c H' x P (pageF P []) → Q (.ref x) H'
def sp_Cast_places (c : CA) : Sp := fun vs H Q _ => ∃ (x : Addr) (P : Nat) (F : Int → Int), vs = [.ref x] ∧ IsC c H x P F ∧ Q (.int P) H
def sp_Cast_balls (c : CA) : Sp := fun vs H Q _ => ∃ (x : Addr) (P n : Nat) (F : Int → Int), vs = [.ref x] ∧ IsC c H x P F ∧ GF P F n ∧ Q (.int n) H
def sp_Cast_heights (c : CA) : Sp := fun vs H Q _ => ∃ (x : Addr) (P : Nat) (F : Int → Int), vs = [.ref x] ∧ IsC c H x P F ∧ ∀ H' p, Same H H' → H p = none → IL H' p (hOf F P) → Q (.ref p) H'
def sp_Cast_count (c : CA) : Sp := fun vs H Q _ => ∃ (x : Addr) (b e : Int) (P n : Nat) (F : Int → Int), vs = [.ref x, .int b, .int e] ∧ IsC c H x P F ∧ GF P F n ∧ b ≤ e ∧ sm b ∧ sm e ∧ ∀ H', Same H H' → Q (.int (cnt F b (e - b).toNat)) H'
def sp_check_like (c : CA) : Sp := fun vs H Q _ => ∃ (x y : Addr) (P : Nat) (F G : Int → Int), vs = [.ref x, .ref y] ∧ IsC c H x P F ∧ IsC c H y P G ∧ Q .non H
def sp_Cast___mul__ (c : CA) : Sp := fun vs H Q _ => ∃ (x y : Addr) (P : Nat) (A B : List (List Int)), vs = [.ref x, .ref y] ∧ IsC c H x P (pageF P A) ∧ IsC c H y P (pageF P B) ∧ PG P A ∧ PG P B ∧ A.length + B.length ≤ 16 ∧ ∀ H' z, Same H H' → H z = none → IsC c H' z P (pageF P (A ++ B)) → Q (.ref z) H'
def rising : List Nat → List Nat → Bool
  | _, [] => true
  | b, k :: r => (decide (97 ≤ k) && decide (k ≤ 122) && decide (b < [k])) && rising [k] r
def sp_is_rising (c : CA) : Sp := fun vs H Q _ => ∃ z : Str, vs = [.str z] ∧ rising [] z.cps.toList = true ∧ Q (.bl true) H
def sp_Calendar___init__ (c : CA) : Sp := fun vs H Q _ => ∃ (x dx l : Addr) (ws : List Str), vs = [.ref x, .ref l] ∧ H x = some (.ins c.Calendar dx []) ∧ H l = some (.lst (ws.map V.str)) ∧ OkW ws ∧ (∀ w ∈ ws, rising [] w.cps.toList = true) ∧
  ∀ H' l', (∀ b o, b ≠ x → H b = some o → H' b = some o) → H' x = some (.ins c.Calendar dx [("_words", .ref l')]) → H' l' = some (.lst (ws.map V.str)) → Q .non H'
def everyW (P : Nat) : List Str := (List.range P).map fun p => ⟨(((List.range (2 ^ P - 1)).filter fun i => (i + 1) / 2 ^ p % 2 == 1).map (97 + ·)).toArray⟩
def sp_Calendar_every (c : CA) : Sp := fun vs H Q _ => ∃ P : Nat, vs = [.int P] ∧ 0 < P ∧ P ≤ 4 ∧ ∀ H' x, Same H H' → H x = none → IsCal c H' x (everyW P) → Q (.ref x) H'
def sp_Calendar_places (c : CA) : Sp := fun vs H Q _ => ∃ (x : Addr) (ws : List Str), vs = [.ref x] ∧ IsCal c H x ws ∧ Q (.int ws.length) H
def signsOf (ws : List Str) : Str := ⟨(((List.range 26).map (97 + ·)).filter fun k => ws.any fun w => has w k).toArray⟩
def sp_Calendar_signs (c : CA) : Sp := fun vs H Q _ => ∃ (x : Addr) (ws : List Str), vs = [.ref x] ∧ IsCal c H x ws ∧ OkW ws ∧ ∀ H', Same H H' → Q (.str (signsOf ws)) H'
def sp_Calendar_stands (c : CA) : Sp := fun vs H Q _ => ∃ (x : Addr) (ws : List Str) (k : Nat), vs = [.ref x, .str (one k)] ∧ IsCal c H x ws ∧ OkW ws ∧ (∃ w ∈ ws, has w k = true) ∧ ∀ H' p, Same H H' → H p = none → IL H' p (standsL ws k) → Q (.ref p) H'
def sp_check_page (c : CA) : Sp := fun vs H Q _ => ∃ (x : Addr) (ws : List Str) (z : Str), vs = [.ref x, .str z] ∧ IsCal c H x ws ∧ OkZ ws z ∧ ∀ H', Same H H' → Q .non H'
def sp_sets_of (c : CA) : Sp := fun vs H Q _ => ∃ (x : Addr) (ws : List Str) (z : Str), vs = [.ref x, .str z] ∧ IsCal c H x ws ∧ OkZ ws z ∧ ∀ H' p, Same H H' → H p = none → LL H' p (pageA ws z) → Q (.ref p) H'
def sp_came_of (c : CA) : Sp := fun vs H Q _ => ∃ (x : Addr) (ws : List Str) (z : Str), vs = [.ref x, .str z] ∧ IsCal c H x ws ∧ OkZ ws z ∧ ∀ H' p, Same H H' → IL H' p (cl (pageF ws.length (pageA ws z)) ws.length) → Q (.ref p) H'
def sp_cast_of (c : CA) : Sp := fun vs H Q _ => ∃ (x : Addr) (ws : List Str) (z : Str), vs = [.ref x, .str z] ∧ IsCal c H x ws ∧ OkZ ws z ∧ ∀ H' y, Same H H' → H y = none → IsC c H' y ws.length (pageF ws.length (pageA ws z)) → Q (.ref y) H'
end Ly

/-! Rd -/
set_option Elab.async false
set_option linter.all false
set_option maxRecDepth 100000
set_option maxHeartbeats 4000000
namespace Ly
open PySem PySem.Spec PyProof.Rows L2 M
/-- places -/
def t_check_places (c : CA) (E : XK) : TS :=
  (tIfS (tNot (wTB (wChain leV leV (wC (.int 1)) (wVar 0) (wC (.int 6)))))
  tNever
  tNext)
/-- begin, end -/
def t_check_stretch (c : CA) (E : XK) : TS :=
  (tIfS (wTB (wBin ltV (wVar 1) (wVar 0)))
  tNever
  tNext)
/-- calendar, page, known, index -/
def t_check_page (c : CA) (E : XK) : TS :=
  (tSeq (tAsg (wProp c.Calendar (sp_Calendar_signs c) (wVar 0)) (gName 2))
  (tSeq (wFor (wRng1 (wCB lenV (tCons (wVar 1) tNil))) (gName 3)
  (tIfS (wTB (wBin (inVV true) (wBin idxV (wVar 1) (wVar 3)) (wVar 2)))
  tNever
  tNext))
  (tIfS (wTB (wBin gtV (wCB lenV (tCons (wVar 1) tNil)) (wC (.int 16))))
  tNever
  tNext)))
/-- first, second -/
def t_check_like (c : CA) (E : XK) : TS :=
  (tIfS (wTB (wBin neSV (wProp c.Cast (sp_Cast_places c) (wVar 0)) (wProp c.Cast (sp_Cast_places c) (wVar 1))))
  tNever
  tNext)
/-- values, place, index -/
def t_at_place (c : CA) (E : XK) : TS :=
  (tSeq (tAsg (wBin modV (wVar 1) (wCB lenV (tCons (wVar 0) tNil))) (gName 2))
  (tRet (wBin subV (wBin addV (wBin idxV (wVar 0) (wVar 2)) (wVar 1)) (wVar 2))))
/-- heights, place -/
def t_landing (c : CA) (E : XK) : TS :=
  (tRet (wBin addV (wVar 1) (wBin idxV (wVar 0) (wBin modV (wVar 1) (wCB lenV (tCons (wVar 0) tNil))))))
/-- heights, places, _, came, place, index -/
def t_came_list (c : CA) (E : XK) : TS :=
  (tSeq (tAsg (wCB lenV (tCons (wVar 0) tNil)) (gName 1))
  (tSeq (tAsg (wComp (wIter (wVar 0)) (gName 2) tYes (wC (.int 0)) [2]) (gName 3))
  (tSeq (wFor (wRng1 (wVar 1)) (gName 4)
  (tSeq (tAsg (wBin modV (wBin addV (wVar 4) (wBin idxV (wVar 0) (wVar 4))) (wVar 1)) (gName 5))
  (tAsg (wBin subV (wVar 5) (wBin idxV (wVar 0) (wVar 4))) (gSub (wVar 3) (wVar 5) setV))))
  (tRet (wVar 3)))))
/-- came, places, _, heights, place -/
def t_heights_of (c : CA) (E : XK) : TS :=
  (tSeq (tAsg (wCB lenV (tCons (wVar 0) tNil)) (gName 1))
  (tSeq (tAsg (wComp (wIter (wVar 0)) (gName 2) tYes (wC (.int 0)) [2]) (gName 3))
  (tSeq (wFor (wRng1 (wVar 1)) (gName 4)
  (tAsg (wBin subV (wVar 4) (wBin idxV (wVar 0) (wVar 4))) (gSub (wVar 3) (wBin modV (wBin idxV (wVar 0) (wVar 4)) (wVar 1)) setV)))
  (tRet (wVar 3)))))
/-- heights, begin, end, height, highest, found, place -/
def t_count_between (c : CA) (E : XK) : TS :=
  (tSeq (tDrop (wCall (sp_check_stretch c) E (tCons (wVar 1) (tCons (wVar 2) tNil))))
  (tSeq (tAsg (wCB maxLV (tCons (wComp (wIter (wVar 0)) (gName 3) tYes (wCB intV (tCons (wVar 3) tNil)) [3]) tNil)) (gName 4))
  (tSeq (tAsg (wC (.int 0)) (gName 5))
  (tSeq (wFor (wRng2 (wCB maxV (tCons (wCB intV (tCons (wVar 1) tNil)) (tCons (wBin subV (wCB intV (tCons (wVar 2) tNil)) (wVar 4)) tNil))) (wVar 2)) (gName 6)
  (tIfS (wTB (wBin geV (wCall (sp_landing c) E (tCons (wVar 0) (tCons (wVar 6) tNil))) (wVar 2)))
  (wAug 5 (wC (.int 1)) (augV (· + ·)))
  tNext))
  (tRet (wVar 5))))))
/-- came, stands, gap -/
def t_carried_came (c : CA) (E : XK) : TS :=
  (tRet (wComp (wRng1 (wCB lenV (tCons (wVar 0) tNil))) (gName 2) tYes (wCall (sp_carried_to c) E0 (tCons (wVar 0) (tCons (wVar 1) (tCons (wVar 2) tNil)))) [2]))
/-- came, stands, gap, place, least -/
def t_carried_to (c : CA) (E : XK) : TS :=
  (tSeq (tAsg (wBin subV (wVar 2) (wC (.int 1))) (gName 3))
  (tSeq (tAsg (wCall (sp_at_place c) E (tCons (wVar 0) (tCons (wVar 3) tNil))) (gName 4))
  (tSeq (wWhile (wTB (wBin (inVV true) (wBin modV (wVar 3) (wCB lenV (tCons (wVar 0) tNil))) (wVar 1)))
  (tSeq (tAsg (wBin subV (wVar 3) (wC (.int 1))) (gName 3))
  (tIfS (wTB (wBin ltV (wCall (sp_at_place c) E (tCons (wVar 0) (tCons (wVar 3) tNil))) (wVar 4)))
  (tAsg (wCall (sp_at_place c) E (tCons (wVar 0) (tCons (wVar 3) tNil))) (gName 4))
  tNext)))
  (tRet (wVar 4)))))
/-- came, stands, brought, moved, place -/
def t_step_came (c : CA) (E : XK) : TS :=
  (tSeq (tAsg (wCall (sp_carried_came c) E (tCons (wVar 0) (tCons (wVar 1) tNil))) (gName 2))
  (tSeq (tAsg (tLst tNil) (gName 3))
  (tSeq (wFor (wRng1 (wCB lenV (tCons (wVar 0) tNil))) (gName 4)
  (tIfS (tOr (wTB (wBin (inVV false) (wVar 4) (wVar 1))) (wTB (wBin gtV (wBin idxV (wVar 2) (wVar 4)) (wBin idxV (wVar 0) (wVar 4)))))
  (tDrop (wLM appendV (wVar 3) (tCons (wBin idxV (wVar 2) (wVar 4)) tNil)))
  (tDrop (wLM appendV (wVar 3) (tCons (wBin idxV (wVar 0) (wVar 4)) tNil)))))
  (tRet (wVar 3)))))
/-- heights, places, place, used, rest, earlier -/
def t_peel (c : CA) (E : XK) : TS :=
  (tSeq (tAsg (wCB lenV (tCons (wVar 0) tNil)) (gName 1))
  (tSeq (tAsg (wComp (wRng1 (wVar 1)) (gName 2) (wTB (wBin gtV (wBin idxV (wVar 0) (wVar 2)) (wC (.int 0)))) (wVar 2) [2]) (gName 3))
  (tSeq (tAsg (wCB listV (tCons (wVar 0) tNil)) (gName 4))
  (tSeq (wFor (wIter (wVar 3)) (gName 2)
  (tSeq (tAsg (wBin subV (wBin addV (wVar 2) (wBin idxV (wVar 0) (wVar 2))) (wC (.int 1))) (gName 5))
  (tSeq (wWhile (wTB (wBin eqSV (wBin idxV (wVar 0) (wBin modV (wVar 5) (wVar 1))) (wC (.int 0))))
  (tAsg (wBin subV (wVar 5) (wC (.int 1))) (gName 5)))
  (tAsg (wBin subV (wVar 5) (wVar 2)) (gSub (wVar 4) (wVar 2) setV)))))
  (tRet (tTup (tCons (wVar 4) (tCons (wVar 3) tNil))))))))
/-- first, second, rest, sets, _, stands, came -/
def t_product_heights (c : CA) (E : XK) : TS :=
  (tSeq (tAsg (wCB listV (tCons (wVar 1) tNil)) (gName 2))
  (tSeq (tAsg (tLst tNil) (gName 3))
  (tSeq (wFor (wRng1 (wBin divV (wCB sumV (tCons (wVar 1) tNil)) (wCB lenV (tCons (wVar 1) tNil)))) (gName 4)
  (tSeq (tAsg (wCall (sp_peel c) E (tCons (wVar 2) tNil)) (wG2 (gName 2) (gName 5)))
  (tDrop (wLM appendV (wVar 3) (tCons (wVar 5) tNil)))))
  (tSeq (tAsg (wCall (sp_came_list c) E (tCons (wVar 0) tNil)) (gName 6))
  (tSeq (wFor (wIter (wRevS (wVar 3))) (gName 5)
  (tAsg (wCall (sp_step_came c) E (tCons (wVar 6) (tCons (wVar 5) tNil))) (gName 6)))
  (tRet (wCall (sp_heights_of c) E (tCons (wVar 6) tNil))))))))
/-- self, heights, places, place, second, first, balls -/
def t_Cast___init__ (c : CA) (E : XK) : TS :=
  (tSeq (tAsg (wCB lenV (tCons (wVar 1) tNil)) (gName 2))
  (tSeq (tIfS (tNot (wTB (wChain leV leV (wC (.int 1)) (wVar 2) (wC (.int 6)))))
  tNever
  tNext)
  (tSeq (wFor (wRng1 (wVar 2)) (gName 3)
  (tIfS (tNot (wTB (wChain leV leV (wC (.int 0)) (wBin idxV (wVar 1) (wVar 3)) (wC (.int 96)))))
  tNever
  tNext))
  (tSeq (wFor (wRng1 (wVar 2)) (gName 4)
  (wFor (wRng1 (wVar 4)) (gName 5)
  (tIfS (wTB (wBin eqSV (wBin modV (wBin subV (wBin subV (wBin addV (wVar 4) (wBin idxV (wVar 1) (wVar 4))) (wVar 5)) (wBin idxV (wVar 1) (wVar 5))) (wVar 2)) (wC (.int 0))))
  tNever
  tNext)))
  (tSeq (tAsg (wBin divV (wCB sumV (tCons (wVar 1) tNil)) (wVar 2)) (gName 6))
  (tSeq (tIfS (wTB (wBin gtV (wVar 6) (wC (.int 16))))
  tNever
  tNext)
  (wSetF c.Cast "_heights" (wVar 0) (wCB tupleV (tCons (wVar 1) tNil)))))))))
/-- places, _ -/
def t_Cast_none (c : CA) (E : XK) : TS :=
  (tSeq (tDrop (wCall (sp_check_places c) E (tCons (wVar 0) tNil)))
  (tRet (wCall (mkOf c.Cast (sp_Cast___init__ c)) E (tCons (wComp (wRng1 (wVar 0)) (gName 1) tYes (wC (.int 0)) [1]) tNil))))
/-- self -/
def t_Cast_places (c : CA) (E : XK) : TS :=
  (tRet (wCB lenV (tCons (wFld c.Cast "_heights" (wVar 0)) tNil)))
/-- self -/
def t_Cast_balls (c : CA) (E : XK) : TS :=
  (tRet (wBin divV (wCB sumV (tCons (wFld c.Cast "_heights" (wVar 0)) tNil)) (wCB lenV (tCons (wFld c.Cast "_heights" (wVar 0)) tNil))))
/-- self -/
def t_Cast_heights (c : CA) (E : XK) : TS :=
  (tRet (wCB listV (tCons (wFld c.Cast "_heights" (wVar 0)) tNil)))
/-- self, begin, end -/
def t_Cast_count (c : CA) (E : XK) : TS :=
  (tRet (wCall (sp_count_between c) E (tCons (wProp c.Cast (sp_Cast_heights c) (wVar 0)) (tCons (wVar 1) (tCons (wVar 2) tNil)))))
/-- self, other, amount -/
def t_Cast___mul__ (c : CA) (E : XK) : TS :=
  (tSeq (tDrop (wCall (sp_check_like c) E (tCons (wVar 0) (tCons (wVar 1) tNil))))
  (tSeq (tAsg (wBin addV (wProp c.Cast (sp_Cast_balls c) (wVar 0)) (wProp c.Cast (sp_Cast_balls c) (wVar 1))) (gName 2))
  (tSeq (tIfS (wTB (wBin gtV (wVar 2) (wC (.int 16))))
  tNever
  tNext)
  (tRet (wCall (mkOf c.Cast (sp_Cast___init__ c)) E (tCons (wCall (sp_product_heights c) E (tCons (wProp c.Cast (sp_Cast_heights c) (wVar 0)) (tCons (wProp c.Cast (sp_Cast_heights c) (wVar 1)) tNil))) tNil))))))
/-- word, before, letter -/
def t_is_rising (c : CA) (E : XK) : TS :=
  (tSeq (tAsg (wC (.str "")) (gName 1))
  (tSeq (wFor (wIterS (wVar 0)) (gName 2)
  (tSeq (tIfS (tOr (wTB (wBin (inVV true) (wVar 2) (wC (.str "abcdefghijklmnopqrstuvwxyz")))) (wTB (wBin leV (wVar 2) (wVar 1))))
  (tRet (wC (.bl false)))
  tNext)
  (tAsg (wVar 2) (gName 1))))
  (tRet (wC (.bl true)))))
/-- self, words, place, word -/
def t_Calendar___init__ (c : CA) (E : XK) : TS :=
  (tSeq (tIfS (tNot (wTB (wChain leV leV (wC (.int 1)) (wCB lenV (tCons (wVar 1) tNil)) (wC (.int 6)))))
  tNever
  tNext)
  (tSeq (wFor (wEnum (wVar 1)) (wG2 (gName 2) (gName 3))
  (tIfS (tNot (wT (wCall (sp_is_rising c) E (tCons (wVar 3) tNil))))
  tNever
  tNext))
  (wSetF c.Calendar "_words" (wVar 0) (wCB listV (tCons (wVar 1) tNil)))))
/-- places, words, place, code, signs -/
def t_Calendar_every (c : CA) (E : XK) : TS :=
  (tSeq (tIfS (tNot (wTB (wChain leV leV (wC (.int 1)) (wVar 0) (wC (.int 4)))))
  tNever
  tNext)
  (tSeq (tAsg (tLst tNil) (gName 1))
  (tSeq (wFor (wRng1 (wVar 0)) (gName 2)
  (tSeq (tAsg (wComp (wRng2 (wC (.int 1)) (wBin shlV (wC (.int 1)) (wVar 0))) (gName 3) (wTB (wBin eqSV (wBin bandV (wBin shrV (wVar 3) (wVar 2)) (wC (.int 1))) (wC (.int 1)))) (wBin idxV (wC (.str "abcdefghijklmnopqrstuvwxyz")) (wBin subV (wVar 3) (wC (.int 1)))) [3]) (gName 4))
  (tDrop (wLM appendV (wVar 1) (tCons (wSM joinV (wC (.str "")) (tCons (wVar 4) tNil)) tNil)))))
  (tRet (wCall (mkOf c.Calendar (sp_Calendar___init__ c)) E (tCons (wVar 1) tNil))))))
/-- self -/
def t_Calendar_places (c : CA) (E : XK) : TS :=
  (tRet (wCB lenV (tCons (wFld c.Calendar "_words" (wVar 0)) tNil)))
/-- self, standing, letter -/
def t_Calendar_signs (c : CA) (E : XK) : TS :=
  (tSeq (tAsg (wSM joinV (wC (.str "")) (tCons (wFld c.Calendar "_words" (wVar 0)) tNil)) (gName 1))
  (tRet (wSM joinV (wC (.str "")) (tCons (wComp (wIterS (wC (.str "abcdefghijklmnopqrstuvwxyz"))) (gName 2) (wTB (wBin (inVV false) (wVar 2) (wVar 1))) (wVar 2) [2]) tNil))))
/-- self, sign, places, place, word -/
def t_Calendar_stands (c : CA) (E : XK) : TS :=
  (tSeq (tAsg (tLst tNil) (gName 2))
  (tSeq (wFor (wEnum (wFld c.Calendar "_words" (wVar 0))) (wG2 (gName 3) (gName 4))
  (tIfS (tAnd (wTB (wBin eqSV (wCB lenV (tCons (wVar 1) tNil)) (wC (.int 1)))) (wTB (wBin (inVV false) (wVar 1) (wVar 4))))
  (tDrop (wLM appendV (wVar 2) (tCons (wVar 3) tNil)))
  tNext))
  (tSeq (tIfS (wTB (wBin eqSV (wCB lenV (tCons (wVar 2) tNil)) (wC (.int 0))))
  tNever
  tNext)
  (tRet (wVar 2)))))
/-- calendar, page, sign -/
def t_sets_of (c : CA) (E : XK) : TS :=
  (tSeq (tDrop (wCall (sp_check_page c) E (tCons (wVar 0) (tCons (wVar 1) tNil))))
  (tRet (wComp (wIterS (wVar 1)) (gName 2) tYes (wMeth c.Calendar "stands" (sp_Calendar_stands c) E0 (wVar 0) (tCons (wVar 2) tNil)) [2])))
/-- calendar, page, came, stands -/
def t_came_of (c : CA) (E : XK) : TS :=
  (tSeq (tAsg (wListR (wProp c.Calendar (sp_Calendar_places c) (wVar 0))) (gName 2))
  (tSeq (wFor (wIter (wCall (sp_sets_of c) E (tCons (wVar 0) (tCons (wVar 1) tNil)))) (gName 3)
  (tAsg (wCall (sp_step_came c) E (tCons (wVar 2) (tCons (wVar 3) tNil))) (gName 2)))
  (tRet (wVar 2))))
/-- calendar, page -/
def t_cast_of (c : CA) (E : XK) : TS :=
  (tRet (wCall (mkOf c.Cast (sp_Cast___init__ c)) E (tCons (wCall (sp_heights_of c) E (tCons (wCall (sp_came_of c) E (tCons (wVar 0) (tCons (wVar 1) tNil))) tNil)) tNil)))
end Ly

/-! M5 -/
set_option linter.all false
set_option maxHeartbeats 1000000
namespace M
/-! ### loops that store by place -/
def scat (k : Nat → Nat) (v : Nat → Int) (init : List Int) : Nat → List Int
  | 0 => init
  | n + 1 => (scat k v init n).set (k n) (v n)
theorem scat_length {k : Nat → Nat} {v : Nat → Int} {init : List Int} (n : Nat) : (scat k v init n).length = init.length := by
  induction n with
  | zero => rfl
  | succ n ih => simp [scat, ih]
theorem scat_get {k : Nat → Nat} {v : Nat → Int} {init : List Int} (n : Nat) (hk : ∀ i, i < n → k i < init.length) (inj : ∀ i j, i < n → j < n → k i = k j → i = j) : ∀ i, i < n → (scat k v init n).getD (k i) 0 = v i := by
  induction n with
  | zero => intro i hi; omega
  | succ n ih =>
    intro i hi
    unfold scat
    by_cases e : i = n
    · subst e
      have := hk i (by omega)
      simp [List.getD_eq_getElem?_getD, scat_length, this]
    · have := ih (fun i hi => hk i (by omega)) (fun i j hi hj => inj i j (by omega) (by omega)) i (by omega)
      rw [← this, List.getD_eq_getElem?_getD, List.getD_eq_getElem?_getD, List.getElem?_set_ne]
      intro z
      exact e (inj i n (by omega) (by omega) z.symm)
theorem eq_cl {P : Nat} {F : Int → Int} {xs : List Int} (hl : xs.length = P) (h : ∀ i, i < P → xs.getD i 0 = F i) : xs = (List.range P).map fun i : Nat => F i := by
  refine List.ext_getElem (by simp [hl]) fun i h1 h2 => ?_
  rw [List.getElem_map, List.getElem_range, ← h i (by omega), List.getD_eq_getElem?_getD, List.getElem?_eq_getElem h1]
  rfl
theorem getD_of {xs : List Int} {i : Nat} (h : i < xs.length) : xs.getD i 0 = xs[i] := by
  rw [List.getD_eq_getElem?_getD, List.getElem?_eq_getElem h]; rfl
section
variable {P : Nat} {F : Int → Int}
def clI (F : Int → Int) (P : Nat) (i : Nat) : Nat := ((i + (hOf F P).getD i 0) % P).toNat
/-- came_list of the heights -/
theorem came_of_heights (v : VF P F) : scat (clI F P) (fun i => (clI F P i : Int) - (hOf F P).getD i 0) (List.replicate P 0) P = (List.range P).map fun i : Nat => F i := by
  have hP := v.pos
  have idx : ∀ i, i < P → (clI F P i : Int) = lan F P i % P := fun i hi => by
    have h0 := Int.emod_nonneg (i + (hOf F P).getD i 0) (show (P : Int) ≠ 0 by omega)
    unfold clI
    rw [Int.toNat_of_nonneg h0, lan_at i hi]
  have lt : ∀ i, i < P → clI F P i < P := fun i hi => by
    have := idx i hi
    have := Int.emod_lt_of_pos (lan F P i) (show (0 : Int) < P by omega)
    omega
  have inj : ∀ i j, i < P → j < P → clI F P i = clI F P j → i = j := fun i j hi hj e => by
    by_cases h : i = j
    · exact h
    · exfalso
      refine no_meet v hi hj h ?_
      have h1 := idx i hi
      have h2 := idx j hj
      rw [e, h2] at h1
      exact Int.emod_eq_emod_iff_emod_sub_eq_zero.mp h1.symm
  refine eq_cl (by rw [scat_length, List.length_replicate]) fun k hk => ?_
  -- k is the remainder of the landing of F k's place
  have hF := v.lf k
  have r0 := Int.emod_nonneg (F k) (show (P : Int) ≠ 0 by omega)
  have r1 := Int.emod_lt_of_pos (F k) (show (0 : Int) < P by omega)
  obtain ⟨j, hj⟩ := Int.eq_ofNat_of_zero_le r0
  have hjP : j < P := by omega
  have e0 := Int.emod_add_mul_ediv (F k) P
  rw [hj] at e0
  -- the landing of j
  have lj : lan F P j = k - P * (F k / P) := by
    have per : ∀ y, lan F P (y + P) = lan F P y + P := fun y => by
      have := land_per (hOf F P) y
      rw [hOf_length] at this
      exact this
    rcases Int.le_total 0 (F k / P) with hq | hq
    · obtain ⟨q, hq⟩ := Int.eq_ofNat_of_zero_le hq
      have := per_mul per q (j : Int)
      rw [hq] at e0 ⊢
      rw [Int.mul_comm] at e0 ⊢
      rw [e0, hF] at this
      omega
    · obtain ⟨q, hq⟩ := Int.eq_ofNat_of_zero_le (show 0 ≤ -(F k / P) by omega)
      have hq' : F k / P = -(q : Int) := by omega
      rw [hq'] at e0 ⊢
      rw [Int.mul_neg, Int.mul_comm] at e0 ⊢
      have := per_mul per q (F k)
      rw [hF, show F k + (q : Int) * P = j by omega] at this
      omega
  have ek : clI F P j = k := by
    have := idx j hjP
    rw [lj] at this
    rw [Int.sub_mul_emod_self_left] at this
    rw [Int.emod_eq_of_lt (by omega) (by omega)] at this
    omega
  have := scat_get (init := List.replicate P 0) (v := fun i => (clI F P i : Int) - (hOf F P).getD i 0) P (fun i hi => by rw [List.length_replicate]; exact lt i hi) inj j hjP
  rw [ek] at this
  rw [this]
  have h1 := lan_at (f := F) j hjP
  omega
/-- heights_of the came list -/
theorem heights_of_came (v : VF P F) : scat (fun i => (F i % P).toNat) (fun i => (i : Int) - F i) (List.replicate P 0) P = hOf F P := by
  have hP := v.pos
  refine List.ext_getElem (by rw [scat_length, List.length_replicate, hOf_length]) fun k h1 h2 => ?_
  have hk : k < P := by rw [hOf_length] at h2; exact h2
  obtain ⟨i, hi, e⟩ := v.nod.surj hP hk
  have e2 : (F i % P).toNat = k := by omega
  have a := scat_get (k := fun i => (F i % P).toNat) (v := fun i => (i : Int) - F i) (init := List.replicate P 0) P (fun i hi => by
    rw [List.length_replicate]
    have := Int.emod_lt_of_pos (F i) (show (0 : Int) < P by omega)
    have := Int.emod_nonneg (F i) (show (P : Int) ≠ 0 by omega)
    show (F i % P).toNat < P
    omega) (fun i j hi hj z => v.nod.inj hi hj (by
    have := Int.emod_nonneg (F i) (show (P : Int) ≠ 0 by omega)
    have := Int.emod_nonneg (F j) (show (P : Int) ≠ 0 by omega)
    have z : (F i % P).toNat = (F j % P).toNat := z
    omega)) i hi
  have b := hOf_at hP v.nod hi
  have a : (scat (fun i => (F i % P).toNat) (fun i => (i : Int) - F i) (List.replicate P 0) P).getD (F i % P).toNat 0 = i - F i := a
  rw [e2] at a b
  rw [getD_of h1] at a
  rw [getD_of h2] at b
  rw [a, b]
end
end M

/-! M6 -/
set_option linter.all false
set_option maxHeartbeats 1000000
namespace M
def scatL (v : Int → Int) : List Int → List Int → List Int
  | [], init => init
  | p :: r, init => scatL v r (init.set p.toNat (v p))
theorem scatL_length {v : Int → Int} : ∀ (ps init : List Int), (scatL v ps init).length = init.length
  | [], _ => rfl
  | p :: r, init => by
    unfold scatL
    rw [scatL_length r, List.length_set]
theorem scatL_snoc {v : Int → Int} : ∀ (ps init : List Int) (p : Int), scatL v (ps ++ [p]) init = (scatL v ps init).set p.toNat (v p)
  | [], _, _ => rfl
  | q :: r, init, p => by
    show scatL v (r ++ [p]) _ = _
    rw [scatL_snoc r]
    rfl
theorem scatL_get {v : Int → Int} : ∀ (ps init : List Int), (∀ p ∈ ps, 0 ≤ p ∧ p < init.length) → ∀ q : Nat, (scatL v ps init).getD q 0 = if (q : Int) ∈ ps then v q else init.getD q 0
  | [], init, _, q => by simp [scatL]
  | p :: r, init, h, q => by
    unfold scatL
    rw [scatL_get r _ (fun x hx => by rw [List.length_set]; exact h x (List.mem_cons_of_mem _ hx)) q]
    obtain ⟨h0, h1⟩ := h p (by simp)
    by_cases hr : (q : Int) ∈ r
    · rw [if_pos hr, if_pos (List.mem_cons_of_mem _ hr)]
    · rw [if_neg hr]
      by_cases e : (q : Int) = p
      · rw [if_pos (by rw [e]; simp)]
        have : p.toNat = q := by omega
        rw [this, List.getD_eq_getElem?_getD, List.getElem?_set_self (by omega), ← e]
        rfl
      · rw [if_neg (by simp [e, hr]), List.getD_eq_getElem?_getD, List.getD_eq_getElem?_getD, List.getElem?_set_ne (by omega)]
section
variable {P : Nat} {F : Int → Int}
/-- the rest behind peel -/
theorem rest_eq (v : VF P F) (hu : HasU P F) : scatL (fun p => pred F P (lan F P p) - p) (usedL F P) (hOf F P) = hOf (pe F P) P := by
  refine List.ext_getElem (by rw [scatL_length, hOf_length, hOf_length]) fun k h1 h2 => ?_
  have hk : k < P := by rw [hOf_length] at h2; exact h2
  have a := scatL_get (v := fun p => pred F P (lan F P p) - p) (usedL F P) (hOf F P) (fun p hp => by
    obtain ⟨x, y, _⟩ := mem_used.mp hp
    rw [hOf_length]
    exact ⟨x, y⟩) k
  have b := hOf_pe v hu hk
  rw [getD_of h1] at a
  rw [getD_of h2] at b
  rw [a, b]
  by_cases h : F k < k
  · rw [if_pos h, if_pos (mem_used.mpr ⟨by omega, by omega, h⟩)]
  · rw [if_neg h, if_neg (fun z => h (mem_used.mp z).2.2)]
    -- an unused place has the height 0
    have h3 := lan_at (f := F) k hk
    have h4 := v.used k
    have h5 := v.le_lan k
    omega
theorem zero_iff (v : VF P F) (y : Int) : (hOf F P).getD (y % P).toNat 0 = 0 ↔ ¬ F y < y := by
  have h1 := lan_eq (f := F) (P := P) y
  have h2 := v.used y
  have h3 := v.le_lan y
  omega
end
end M

/-! M7 -/
set_option linter.all false
set_option maxHeartbeats 1000000
namespace M
def peN (P : Nat) : Nat → (Int → Int) → (Int → Int)
  | 0, f => f
  | n + 1, f => pe (peN P n f) P
theorem peN_in (P : Nat) (n : Nat) (f : Int → Int) : peN P (n + 1) f = peN P n (pe f P) := by
  induction n with
  | zero => rfl
  | succ n ih =>
    show pe (peN P (n + 1) f) P = pe (peN P n (pe f P)) P
    rw [ih]
theorem grow_eq (P : Nat) : ∀ (n : Nat) (f : Int → Int), grow P n f = ((List.range n).map fun j => usedL (peN P j f) P).reverse
  | 0, f => rfl
  | n + 1, f => by
    show grow P n (pe f P) ++ [usedL f P] = _
    rw [grow_eq P n, List.range_succ_eq_map, List.map_cons, List.reverse_cons, List.map_map]
    congr 2
    refine List.map_congr_left fun j _ => ?_
    show usedL (peN P j (pe f P)) P = usedL (peN P (j + 1) f) P
    rw [peN_in]
theorem peN_ok {P : Nat} : ∀ (i n : Nat) (f : Int → Int), VF P f → Balls P f (n + i) → VF P (peN P i f) ∧ Balls P (peN P i f) n
  | 0, n, f, v, b => ⟨v, b⟩
  | i + 1, n, f, v, b => by
    have e : n + (i + 1) = n + 1 + i := by omega
    rw [e] at b
    obtain ⟨v1, b1⟩ := peN_ok i (n + 1) f v b
    exact ⟨vf_pe v1 (balls_used v1 b1), balls_pe v1 b1⟩
theorem VF.foldl {P : Nat} {f : Int → Int} (hf : ∀ y, f (y + P) = f y + P) (B : List (List Int)) : ∀ y, (B.foldl (fun f S => stepF f P S) f) (y + P) = (B.foldl (fun f S => stepF f P S) f) y + P := by
  refine snoc_ind (p := fun B => ∀ y, (B.foldl (fun f S => stepF f P S) f) (y + P) = (B.foldl (fun f S => stepF f P S) f) y + P) hf (fun B S ih => ?_) B
  rw [List.foldl_append]
  exact stepF_per ih
end M

/-! Lp -/
set_option Elab.async false
set_option linter.all false
set_option maxRecDepth 100000
set_option maxHeartbeats 4000000
namespace Ly
open PySem PySem.Spec PyProof.Rows L2 M
abbrev De (Q : VK) : Ends := { nx := fun _ H' => Q .non H', rt := Q }
section
variable {g : TG} {tb : TS} {D : Ends} {σ : L2.St} {H : Hp}
theorem for_rng {lo : Int} {n : Nat} (P : Nat → L2.St → Hp → Prop) (h0 : P 0 σ H)
    (step : ∀ (i : Nat) σ H (N : L2.St → Hp → Prop), i < n → P i σ H → (∀ σ' H', P (i + 1) σ' H' → N σ' H') → g (.int (lo + i)) σ H fun σ2 H2 => tb { D with nx := N, ct := N, bk := D.nx } σ2 H2)
    (done : ∀ σ H, P n σ H → D.nx σ H) : forR (fiR lo n) g tb D (fiR lo n).n 0 σ H :=
  for_inv (F := fiR lo n) P h0 (fun i σ H N hi p hN => ⟨trivial, step i σ H N hi p hN⟩) fun σ H p => ⟨trivial, done σ H p⟩
theorem for_dn {lo : Int} {n : Nat} (P : Nat → L2.St → Hp → Prop) (h0 : P 0 σ H)
    (step : ∀ (i : Nat) σ H (N : L2.St → Hp → Prop), i < n → P i σ H → (∀ σ' H', P (i + 1) σ' H' → N σ' H') → g (.int (lo + i * (-1))) σ H fun σ2 H2 => tb { D with nx := N, ct := N, bk := D.nx } σ2 H2)
    (done : ∀ σ H, P n σ H → D.nx σ H) : forR (fiC lo (-1) n) g tb D (fiC lo (-1) n).n 0 σ H :=
  for_inv (F := fiC lo (-1) n) P h0 (fun i σ H N hi p hN => ⟨trivial, step i σ H N hi p hN⟩) fun σ H p => ⟨trivial, done σ H p⟩
theorem for_lst {a : Addr} {xs : List V} (P : Nat → L2.St → Hp → Prop) (h0 : P 0 σ H) (ok : ∀ i σ H, P i σ H → lst? H a = some xs)
    (step : ∀ (i : Nat) x σ H (N : L2.St → Hp → Prop), xs[i]? = some x → P i σ H → (∀ σ' H', P (i + 1) σ' H' → N σ' H') → g x σ H fun σ2 H2 => tb { D with nx := N, ct := N, bk := D.nx } σ2 H2)
    (done : ∀ σ H, P xs.length σ H → D.nx σ H) : forR (fiL a xs) g tb D (fiL a xs).n 0 σ H :=
  for_inv (F := fiL a xs) P h0 (fun i σ H N hi p hN => ⟨ok i σ H p, by
    have hi' : i < xs.length := hi
    have e : xs[i]? = some xs[i] := by simp [hi']
    show opt xs[i]? _
    rw [e]
    exact step i _ σ H N e p hN⟩) fun σ H p => ⟨ok _ σ H p, done σ H p⟩
theorem for_tpl {a : Addr} {xs : List V} (P : Nat → L2.St → Hp → Prop) (h0 : P 0 σ H) (ok : ∀ i σ H, P i σ H → tup? H a = some xs)
    (step : ∀ (i : Nat) x σ H (N : L2.St → Hp → Prop), xs[i]? = some x → P i σ H → (∀ σ' H', P (i + 1) σ' H' → N σ' H') → g x σ H fun σ2 H2 => tb { D with nx := N, ct := N, bk := D.nx } σ2 H2)
    (done : ∀ σ H, P xs.length σ H → D.nx σ H) : forR (fiT a xs) g tb D (fiT a xs).n 0 σ H :=
  for_inv (F := fiT a xs) P h0 (fun i σ H N hi p hN => ⟨ok i σ H p, by
    have hi' : i < xs.length := hi
    have e : xs[i]? = some xs[i] := by simp [hi']
    show opt xs[i]? _
    rw [e]
    exact step i _ σ H N e p hN⟩) fun σ H p => ⟨ok _ σ H p, done σ H p⟩
theorem for_str {z : Str} (P : Nat → L2.St → Hp → Prop) (h0 : P 0 σ H)
    (step : ∀ (i k : Nat) σ H (N : L2.St → Hp → Prop), z.cps.toList[i]? = some k → P i σ H → (∀ σ' H', P (i + 1) σ' H' → N σ' H') → g (.str (one k)) σ H fun σ2 H2 => tb { D with nx := N, ct := N, bk := D.nx } σ2 H2)
    (done : ∀ σ H, P z.cps.toList.length σ H → D.nx σ H) : forR (fiS z) g tb D (fiS z).n 0 σ H :=
  for_inv (F := fiS z) P h0 (fun i σ H N hi p hN => ⟨trivial, by
    have hi' : i < z.cps.size := hi
    have e : z.cps[i]? = some z.cps[i] := by simp [hi']
    show opt z.cps[i]? _
    rw [e]
    exact step i _ σ H N (by rw [Array.getElem?_toList]; exact e) p hN⟩) fun σ H p => ⟨trivial, done σ H (by rw [Array.length_toList]; exact p)⟩
theorem for_enm {a : Addr} {xs : List V} (P : Nat → L2.St → Hp → Prop) (h0 : P 0 σ H) (ok : ∀ i σ H, P i σ H → lst? H a = some xs)
    (step : ∀ (i : Nat) x T σ H (N : L2.St → Hp → Prop), xs[i]? = some x → P i σ H → H T = none → (∀ σ' H', P (i + 1) σ' H' → N σ' H') → g (.ref T) σ (upd H T (.tup [.int (i : Nat), x])) fun σ2 H2 => tb { D with nx := N, ct := N, bk := D.nx } σ2 H2)
    (done : ∀ σ H, P xs.length σ H → D.nx σ H) : forR (fiE a xs) g tb D (fiE a xs).n 0 σ H :=
  for_inv (F := fiE a xs) P h0 (fun i σ H N hi p hN => ⟨ok i σ H p, by
    have hi' : i < xs.length := hi
    have e : xs[i]? = some xs[i] := by simp [hi']
    show opt xs[i]? _
    rw [e]
    exact fun T hT => step i _ T σ H N e p hT hN⟩) fun σ H p => ⟨ok _ σ H p, done σ H p⟩
end
section
variable {g : TG} {tt : TT} {te : TE} {σ : L2.St} {H : Hp} {vs : List Nat} {D : Addr} {Q : VK}
theorem upd2 {H : Hp} {a : Addr} {o u : HO} : upd (upd H a o) a u = upd H a u := upd_upd
/-- a comprehension whose turn keeps what is tracked: items are kept or not, and valued -/
theorem lc_fm {F : FI} (n : Nat) (hFn : F.n = n) (p : Nat → Bool) (f : Nat → V) (I : Nat → Hp → Prop) (h0 : I 0 (upd H D (.lst [])))
    (ok : ∀ i H, I i H → F.ok H)
    (turn : ∀ (i : Nat) H (K : Hp → Prop) (R : V → Hp → Prop), i < n → I i H → (∀ H', I (i + 1) H' → p i = false → (∀ acc, H D = some (.lst acc) → H' D = some (.lst acc)) → K H') →
      (∀ (H4 : Hp) (y : V) (acc : List V), p i = true → y = f i → (∀ acc, H D = some (.lst acc) → H4 D = some (.lst acc)) → (∀ acc, H4 D = some (.lst acc) → I (i + 1) (upd H4 D (.lst (acc ++ [y])))) → R y H4) →
      F.get i H fun x H1 => g x (wipe σ vs) H1 fun σ2 H2 => wipe σ2 vs = wipe σ vs ∧ tt σ2 H2 fun b H3 => if b = true then te σ2 H3 R else K H3)
    (hs : n < sizeLine) (done : ∀ H, I n H → H D = some (.lst (((List.range n).filter p).map f)) → Q (.ref D) H) : lcR F g vs tt te σ D Q F.n 0 (upd H D (.lst [])) := by
  subst hFn
  refine lc_inv (P := fun i H => I i H ∧ H D = some (.lst (((List.range i).filter p).map f))) ⟨h0, by rw [upd_same]; rfl⟩ (fun i H N hi ⟨hI, hD⟩ hN => ⟨ok i H hI, ?_⟩) (fun H ⟨hI, hD⟩ => ⟨ok _ H hI, done H hI hD⟩)
  have len : ((List.range i).filter p).length ≤ i := by
    have := List.length_filter_le p (List.range i)
    rw [List.length_range] at this
    exact this
  refine turn i H _ _ hi hI (fun H' hI' hp hk => hN H' ⟨hI', ?_⟩) (fun H4 y acc hp hy hk hI' => ?_)
  · rw [hk _ hD, List.range_succ, List.filter_append]
    simp [hp]
  · have e := hk _ hD
    refine ⟨_, e, by rw [List.length_map]; omega, hN _ ⟨hI' _ e, ?_⟩⟩
    rw [upd_same, List.range_succ, List.filter_append, hy]
    simp [hp]
/-- .. whose turns make nothing at all: the heap is the source's with the new list -/
theorem lc_pure {F : FI} (n : Nat) (hFn : F.n = n) (f : Nat → V) (ok : ∀ acc : List V, F.ok (upd H D (.lst acc)))
    (turn : ∀ (i : Nat) (acc : List V) (R : V → Hp → Prop), i < n → R (f i) (upd H D (.lst acc)) → F.get i (upd H D (.lst acc)) fun x H1 => g x (wipe σ vs) H1 fun σ2 H2 => wipe σ2 vs = wipe σ vs ∧ te σ2 H2 R)
    (hs : n < sizeLine) (done : Q (.ref D) (upd H D (.lst ((List.range n).map f)))) : lcR F g vs tYes te σ D Q F.n 0 (upd H D (.lst [])) := by
  subst hFn
  refine lc_inv (P := fun i H' => H' = upd H D (.lst ((List.range i).map f))) rfl (fun i H' N hi e hN => ?_) (fun H' e => ?_)
  · subst e
    refine ⟨ok _, turn i _ _ hi ⟨_, upd_same, by rw [List.length_map, List.length_range]; omega, hN _ ?_⟩⟩
    rw [upd_upd, List.range_succ, List.map_append, List.map_singleton]
  · subst e
    exact ⟨ok _, done⟩
/-- .. with a test -/
theorem lc_filt {F : FI} (n : Nat) (hFn : F.n = n) (p : Nat → Bool) (f : Nat → V) (ok : ∀ acc : List V, F.ok (upd H D (.lst acc)))
    (turn : ∀ (i : Nat) (acc : List V) (K : Hp → Prop) (R : V → Hp → Prop), i < n → (p i = false → K (upd H D (.lst acc))) → (p i = true → R (f i) (upd H D (.lst acc))) → F.get i (upd H D (.lst acc)) fun x H1 => g x (wipe σ vs) H1 fun σ2 H2 => wipe σ2 vs = wipe σ vs ∧ tt σ2 H2 fun b H3 => if b = true then te σ2 H3 R else K H3)
    (hs : n < sizeLine) (done : Q (.ref D) (upd H D (.lst (((List.range n).filter p).map f)))) : lcR F g vs tt te σ D Q F.n 0 (upd H D (.lst [])) := by
  subst hFn
  refine lc_inv (P := fun i H' => H' = upd H D (.lst (((List.range i).filter p).map f))) rfl (fun i H' N hi e hN => ?_) (fun H' e => ?_)
  · subst e
    have len : ((List.range i).filter p).length ≤ i := by
      have := List.length_filter_le p (List.range i)
      rw [List.length_range] at this
      exact this
    refine ⟨ok _, turn i _ _ _ hi (fun hp => hN _ ?_) (fun hp => ⟨_, upd_same, by rw [List.length_map]; omega, hN _ ?_⟩)⟩
    · rw [List.range_succ, List.filter_append]
      simp [hp]
    · rw [upd_upd, List.range_succ, List.filter_append]
      simp [hp]
  · subst e
    exact ⟨ok _, done⟩
end
theorem range_map_getD {ns : List Int} {n : Nat} (h : ns.length = n) : (List.range n).map (fun i => V.int (ns.getD i 0)) = ns.map V.int := by
  refine List.ext_getElem (by simp [h]) fun i h1 h2 => ?_
  rw [List.getElem_map, List.getElem_range, List.getElem_map, getD_of (by simpa using h2)]
theorem getElem?_iv {ns : List Int} {i : Nat} (h : i < ns.length) : (ns.map V.int)[i]? = some (.int (ns.getD i 0)) := by
  rw [List.getElem?_map, List.getElem?_eq_getElem h, getD_of h]
  rfl
theorem small_line {n : Nat} (h : n ≤ 1000000) : n < sizeLine := Nat.lt_of_le_of_lt h (by decide)
theorem wipe_one {σ : L2.St} {i : Nat} : wipe σ [i] = σ.set i none := rfl
theorem ixN_of {n : Nat} {i : Int} (h0 : 0 ≤ i) (h1 : i < n) : ixN n i = some i.toNat := by
  unfold ixN
  rw [if_pos h0, if_pos h1]
theorem map_set {ns : List Int} {i : Nat} {v : Int} : (ns.map V.int).set i (.int v) = (ns.set i v).map V.int := by
  rw [List.map_set]
theorem repl_map {n : Nat} : (List.range n).map (fun _ => V.int 0) = (List.replicate n (0 : Int)).map V.int := by
  simp [List.map_const']
theorem rng_small {i : Int} (h0 : -1000000000000 ≤ i) (h1 : i ≤ 1000000000000) : rngOk i := ⟨by omega, by omega⟩
end Ly

/-! Se1 -/
set_option Elab.async false
set_option linter.all false
set_option maxRecDepth 100000
set_option maxHeartbeats 4000000
namespace Ly
open PySem PySem.Spec PyProof.Rows L2 M
local macro_rules | `(tactic| walk_at "run") => `(tactic| (try simp only [r_seq, r_next, r_cont, r_break, r_asg, r_name, r_sub, r_drop, r_ret, r_retN, r_if, r_ite, r_never, r_var, r_c, r_bin, r_un, r_tB, r_T, r_chain, r_and, r_or, r_not, r_andV, r_orV, r_notV, r_nil, r_cons, r_lst, r_tup, r_cb, r_call, r_lm, r_sm, r_fld, r_prop, r_meth, r_setF, r_aug, r_slice, r_no, r_some, r_revS, r_listR, r_g2, r_yes, r_for, r_comp, r_iter, r_iter', r_iterT, r_iterS, r_rng1, r_rng2, r_rngD, r_enum, r_zip, set0, setS, List.getElem?_cons_zero, List.getElem?_cons_succ, opt_some, opt_none, v_add_i, v_add_s, v_add_l, v_sub, v_mul_i, v_mul_l, v_mod, v_div, v_shl, v_shr, v_band, v_neg, v_lt, v_lt_s, v_le, v_le_s, v_gt, v_ge, v_eq_i, v_ne_i, v_eq_s, v_ne_s, v_in_l, v_in_s, v_idx, v_idx_s, v_slice, v_len, v_len_s, v_list, v_tuple, v_int, v_abs, v_max, v_min, v_maxL, v_sum, v_append, v_insert, v_popAt, v_pop, v_join, v_toB, v_tru_b, v_aug, v_set, v_ins, ints_bind, strs_bind, lst?_eq, tup?_eq, seq?_eq, lstO_l, lstO_f, lstW_l, tupO_t, seqO_l, seqO_t, insO_i, upd_same, upd_old, Option.isSome_some, List.length_map]))
local macro_rules | `(tactic| walk_at "runs") => `(tactic| (try simp only [r_seq, r_next, r_cont, r_break, r_asg, r_name, r_sub, r_drop, r_ret, r_retN, r_if, r_ite, r_never, r_var, r_c, r_bin, r_un, r_tB, r_T, r_chain, r_and, r_or, r_not, r_andV, r_orV, r_notV, r_nil, r_cons, r_lst, r_tup, r_cb, r_call, r_lm, r_sm, r_fld, r_prop, r_meth, r_setF, r_aug, r_slice, r_no, r_some, r_revS, r_listR, r_g2, r_yes, r_for, r_comp, r_iter, r_iter', r_iterT, r_iterS, r_rng1, r_rng2, r_rngD, r_enum, r_zip, set0, setS, List.getElem?_cons_zero, List.getElem?_cons_succ, opt_some, opt_none, v_add_i, v_add_s, v_add_l, v_sub, v_mul_i, v_mul_l, v_mod, v_div, v_shl, v_shr, v_band, v_neg, v_lt, v_lt_s, v_le, v_le_s, v_gt, v_ge, v_eq_i, v_ne_i, v_eq_s, v_ne_s, v_in_l, v_in_s, v_idx, v_idx_s, v_slice, v_len, v_len_s, v_list, v_tuple, v_int, v_abs, v_max, v_min, v_maxL, v_sum, v_append, v_insert, v_popAt, v_pop, v_join, v_toB, v_tru_b, v_aug, v_set, v_ins, ints_bind, strs_bind, lst?_eq, tup?_eq, seq?_eq, lstO_l, lstO_f, lstW_l, tupO_t, seqO_l, seqO_t, insO_i, upd_same, upd_old, Option.isSome_some, List.length_map, *]))
section
variable {c : CA} {vs : List V} {H : Hp} {Q : VK} {E : XK}
theorem sem_check_places (h : sp_check_places c vs H Q E) : t_check_places c E (De Q) (start ["places"] vs) H := by
  obtain ⟨p, rfl, h1, h2, q⟩ := h
  show t_check_places c E _ [some (.int p)] H
  unfold t_check_places
  walk_at "runs"
  simp [h1, h2, q]
theorem sem_check_stretch (h : sp_check_stretch c vs H Q E) : t_check_stretch c E (De Q) (start ["begin", "end"] vs) H := by
  obtain ⟨b, e, rfl, h1, q⟩ := h
  show t_check_stretch c E _ [some (.int b), some (.int e)] H
  unfold t_check_stretch
  walk_at "runs"
  have : ¬ e < b := by omega
  simp [this, q]
theorem sem_at_place (h : sp_at_place c vs H Q E) : t_at_place c E (De Q) (start ["values", "place", "index"] vs) H := by
  obtain ⟨a, p, ns, rfl, ha, hn, q⟩ := h
  show t_at_place c E _ [some (.ref a), some (.int p), none] H
  unfold t_at_place
  have hn' : (0 : Int) < ns.length := by omega
  have e := atI_map (Int.emod_nonneg p (show (ns.length : Int) ≠ 0 by omega)) (Int.emod_lt_of_pos p hn')
  unfold atP at q
  walk_at "runs"
  exact ⟨trivial, trivial⟩
theorem sem_landing (h : sp_landing c vs H Q E) : t_landing c E (De Q) (start ["heights", "place"] vs) H := by
  obtain ⟨a, p, P, F, rfl, ha, hP, q⟩ := h
  show t_landing c E _ [some (.ref a), some (.int p)] H
  unfold t_landing
  have hl : (hOf F P).length = P := hOf_length
  have hn' : (0 : Int) < P := by omega
  have e := atI_map (ns := hOf F P) (i := p % P) (Int.emod_nonneg p (show (P : Int) ≠ 0 by omega)) (by rw [hl]; exact Int.emod_lt_of_pos p hn')
  rw [lan_eq] at q
  walk_at "runs"
  exact ⟨trivial, trivial⟩
theorem sem_came_list (h : sp_came_list c vs H Q E) : t_came_list c E (De Q) (start ["heights", "places", "_", "came", "place", "index"] vs) H := by
  obtain ⟨a, P, F, rfl, ha, v, p6, q⟩ := h
  show t_came_list c E _ [some (.ref a), none, none, none, none, none] H
  unfold t_came_list
  have hl : (hOf F P).length = P := hOf_length
  have hP := v.pos
  walk_at "runs"
  intro D hD
  have aD := upd_old' (o := .lst []) hD ha
  refine lc_pure P (by show ((hOf F P).map V.int).length = P; rw [List.length_map, hl]) (fun _ => .int 0) (fun acc => by
    show lst? _ _ = _
    rw [lst?_eq, upd_old' hD ha]; rfl) (fun i acc R hi r => ?_) (small_line (by omega)) ?_
  · show opt _ _
    rw [getElem?_iv (by omega)]
    walk_at "run"
    exact ⟨rfl, r⟩
  · rw [repl_map]
    have rs : rngOk (P : Int) := rng_small (by omega) (by omega)
    have eP : (P : Int).toNat = P := by omega
    walk_at "runs"
    refine ⟨trivial, ?_⟩
    refine for_rng (P := fun i σ H' => ∃ v4 v5, σ = [some (.ref a), some (.int P), none, some (.ref D), v4, v5] ∧ H' = upd H D (.lst ((scat (clI F P) (fun i => (clI F P i : Int) - (hOf F P).getD i 0) (List.replicate P 0) i).map V.int)))
      ⟨none, none, rfl, rfl⟩ (fun i σ H' N hi ⟨v4, v5, e1, e2⟩ hN => ?_) (fun σ H' ⟨v4, v5, e1, e2⟩ => ?_)
    · subst e1 e2
      have i1 := atI_map (ns := hOf F P) (i := (i : Int)) (by omega) (by rw [hl]; omega)
      have hD' : upd H D (.lst ((scat (clI F P) (fun i => (clI F P i : Int) - (hOf F P).getD i 0) (List.replicate P 0) i).map V.int)) a = some (.lst ((hOf F P).map V.int)) := upd_old' hD ha
      have hPi : (0 : Int) < P := by omega
      have r0 := Int.emod_nonneg ((i : Int) + (hOf F P).getD i 0) (show (P : Int) ≠ 0 by omega)
      have r1 := Int.emod_lt_of_pos ((i : Int) + (hOf F P).getD i 0) hPi
      have ix : ixN P (((i : Int) + (hOf F P).getD i 0) % P) = some (clI F P i) := ixN_of r0 r1
      have cI : (((i : Int) + (hOf F P).getD i 0) % P) = (clI F P i : Int) := by unfold clI; rw [Int.toNat_of_nonneg r0]
      rw [cI] at ix
      have e0 : ((0 : Int) + (i : Int)) = i := by omega
      walk_at "run"
      simp only [e0, hD', seqO_l, opt_some, i1, Int.toNat_natCast, v_add_i]
      walk_at "run"
      simp only [hPi, true_and, hD', seqO_l, opt_some, i1, Int.toNat_natCast, v_sub]
      walk_at "run"
      simp only [cI, scat_length, List.length_replicate, ix, opt_some, upd2]
      refine hN _ _ ⟨_, _, rfl, ?_⟩
      rw [map_set]
      rfl
    · subst e1 e2
      walk_at "run"
      refine q _ D (same_upd hD) hD ?_
      show upd _ _ _ _ = _
      rw [upd_same, came_of_heights v]
      rfl
theorem sem_heights_of (h : sp_heights_of c vs H Q E) : t_heights_of c E (De Q) (start ["came", "places", "_", "heights", "place"] vs) H := by
  obtain ⟨a, P, F, rfl, ha, v, p6, q⟩ := h
  show t_heights_of c E _ [some (.ref a), none, none, none, none] H
  unfold t_heights_of
  have hl : (cl F P).length = P := by simp [cl]
  have hP := v.pos
  walk_at "runs"
  intro D hD
  refine lc_pure P (by show ((cl F P).map V.int).length = P; rw [List.length_map, hl]) (fun _ => .int 0) (fun acc => by
    show lst? _ _ = _
    rw [lst?_eq, upd_old' hD ha]; rfl) (fun i acc R hi r => ?_) (small_line (by omega)) ?_
  · show opt _ _
    rw [getElem?_iv (by omega)]
    walk_at "run"
    exact ⟨rfl, r⟩
  · rw [repl_map]
    have rs : rngOk (P : Int) := rng_small (by omega) (by omega)
    have eP : (P : Int).toNat = P := by omega
    walk_at "runs"
    refine ⟨trivial, ?_⟩
    refine for_rng (P := fun i σ H' => ∃ v4, σ = [some (.ref a), some (.int P), none, some (.ref D), v4] ∧ H' = upd H D (.lst ((scat (fun i => (F i % P).toNat) (fun i => (i : Int) - F i) (List.replicate P 0) i).map V.int)))
      ⟨none, rfl, rfl⟩ (fun i σ H' N hi ⟨v4, e1, e2⟩ hN => ?_) (fun σ H' ⟨v4, e1, e2⟩ => ?_)
    · subst e1 e2
      have g1 : (cl F P).getD i 0 = F i := by
        unfold cl
        rw [List.getD_eq_getElem?_getD, List.getElem?_map, List.getElem?_range hi]; rfl
      have i1 := atI_map (ns := cl F P) (i := (i : Int)) (by omega) (by rw [hl]; omega)
      rw [Int.toNat_natCast, g1] at i1
      have hD' : upd H D (.lst ((scat (fun i => (F i % P).toNat) (fun i => (i : Int) - F i) (List.replicate P 0) i).map V.int)) a = some (.lst ((cl F P).map V.int)) := upd_old' hD ha
      have hPi : (0 : Int) < P := by omega
      have ix : ixN P (F i % P) = some (F i % P).toNat := ixN_of (Int.emod_nonneg (F i) (show (P : Int) ≠ 0 by omega)) (Int.emod_lt_of_pos (F i) hPi)
      have e0 : ((0 : Int) + (i : Int)) = i := by omega
      walk_at "run"
      simp only [e0, hD', seqO_l, opt_some, i1, v_sub]
      walk_at "run"
      simp only [hPi, true_and, hD', seqO_l, opt_some, i1, v_mod]
      try (walk_at "run")
      simp only [scat_length, List.length_replicate, ix, opt_some, upd2]
      refine hN _ _ ⟨_, rfl, ?_⟩
      rw [map_set]
      rfl
    · subst e1 e2
      walk_at "run"
      refine q _ D (same_upd hD) hD ?_
      show upd _ _ _ _ = _
      rw [upd_same, heights_of_came v]
end
end Ly

/-! Se2 -/
set_option Elab.async false
set_option linter.all false
set_option maxRecDepth 100000
set_option maxHeartbeats 4000000
namespace Ly
open PySem PySem.Spec PyProof.Rows L2 M
local macro_rules | `(tactic| walk_at "run") => `(tactic| (try simp only [r_seq, r_next, r_cont, r_break, r_asg, r_name, r_sub, r_drop, r_ret, r_retN, r_if, r_ite, r_never, r_var, r_c, r_bin, r_un, r_tB, r_T, r_chain, r_and, r_or, r_not, r_andV, r_orV, r_notV, r_nil, r_cons, r_lst, r_tup, r_cb, r_call, r_lm, r_sm, r_fld, r_prop, r_meth, r_setF, r_aug, r_slice, r_no, r_some, r_revS, r_listR, r_g2, r_yes, r_for, r_comp, r_iter, r_iter', r_iterT, r_iterS, r_rng1, r_rng2, r_rngD, r_enum, r_zip, set0, setS, List.getElem?_cons_zero, List.getElem?_cons_succ, opt_some, opt_none, v_add_i, v_add_s, v_add_l, v_sub, v_mul_i, v_mul_l, v_mod, v_div, v_shl, v_shr, v_band, v_neg, v_lt, v_lt_s, v_le, v_le_s, v_gt, v_ge, v_eq_i, v_ne_i, v_eq_s, v_ne_s, v_in_l, v_in_s, v_idx, v_idx_s, v_slice, v_len, v_len_s, v_list, v_tuple, v_int, v_abs, v_max, v_min, v_maxL, v_sum, v_append, v_insert, v_popAt, v_pop, v_join, v_toB, v_tru_b, v_aug, v_set, v_ins, ints_bind, strs_bind, lst?_eq, tup?_eq, seq?_eq, lstO_l, lstO_f, lstW_l, tupO_t, seqO_l, seqO_t, insO_i, upd_same, upd_old, Option.isSome_some, List.length_map]))
local macro_rules | `(tactic| walk_at "runs") => `(tactic| (try simp only [r_seq, r_next, r_cont, r_break, r_asg, r_name, r_sub, r_drop, r_ret, r_retN, r_if, r_ite, r_never, r_var, r_c, r_bin, r_un, r_tB, r_T, r_chain, r_and, r_or, r_not, r_andV, r_orV, r_notV, r_nil, r_cons, r_lst, r_tup, r_cb, r_call, r_lm, r_sm, r_fld, r_prop, r_meth, r_setF, r_aug, r_slice, r_no, r_some, r_revS, r_listR, r_g2, r_yes, r_for, r_comp, r_iter, r_iter', r_iterT, r_iterS, r_rng1, r_rng2, r_rngD, r_enum, r_zip, set0, setS, List.getElem?_cons_zero, List.getElem?_cons_succ, opt_some, opt_none, v_add_i, v_add_s, v_add_l, v_sub, v_mul_i, v_mul_l, v_mod, v_div, v_shl, v_shr, v_band, v_neg, v_lt, v_lt_s, v_le, v_le_s, v_gt, v_ge, v_eq_i, v_ne_i, v_eq_s, v_ne_s, v_in_l, v_in_s, v_idx, v_idx_s, v_slice, v_len, v_len_s, v_list, v_tuple, v_int, v_abs, v_max, v_min, v_maxL, v_sum, v_append, v_insert, v_popAt, v_pop, v_join, v_toB, v_tru_b, v_aug, v_set, v_ins, ints_bind, strs_bind, lst?_eq, tup?_eq, seq?_eq, lstO_l, lstO_f, lstW_l, tupO_t, seqO_l, seqO_t, insO_i, upd_same, upd_old, Option.isSome_some, List.length_map, *]))
theorem inV_iv {q : Int} {S : List Int} : inV (.int q) (S.map V.int) = decide (q ∈ S) := by
  unfold inV
  induction S with
  | nil => rfl
  | cons a r ih =>
    rw [List.map_cons, List.any_cons, ih]
    show ((a == q) || decide (q ∈ r)) = decide (q ∈ a :: r)
    by_cases h : a = q
    · subst h; simp
    · have : ¬ q = a := fun e => h e.symm
      simp [h, this]
theorem flat_iv {S : List Int} : (S.map V.int).all flatV = true := by
  rw [List.all_eq_true]
  intro x hx
  obtain ⟨i, _, rfl⟩ := List.mem_map.mp hx
  rfl
theorem cl_length {F : Int → Int} {P : Nat} : (cl F P).length = P := by simp [cl]
theorem cl_get {F : Int → Int} {P i : Nat} (h : i < P) : (cl F P).getD i 0 = F i := by
  unfold cl
  rw [List.getD_eq_getElem?_getD, List.getElem?_map, List.getElem?_range h]; rfl
theorem atP_cl {F : Int → Int} {P : Nat} (hP : 0 < P) (hF : ∀ y, F (y + P) = F y + P) (y : Int) : atP (cl F P) y = F y := by
  refine per_ext (P := P) hP (fun y => ?_) hF (fun i hi => ?_) y
  · have := atP_add (cl F P) y
    rw [cl_length] at this
    exact this
  · rw [atP_small _ (by rw [cl_length]; exact hi), cl_get hi]
section
variable {c : CA} {vs : List V} {H : Hp} {Q : VK} {E : XK}
theorem use_at {H : Hp} {Q : VK} {E : XK} {a : Addr} {y : Int} {F : Int → Int} {P : Nat} (ha : IL H a (cl F P)) (hP : 0 < P) (hF : ∀ y, F (y + P) = F y + P) (q : Q (.int (F y)) H) : sp_at_place c [.ref a, .int y] H Q E :=
  ⟨a, y, cl F P, rfl, ha, by rw [cl_length]; exact hP, by rw [atP_cl hP hF]; exact q⟩
theorem sem_carried_to (h : sp_carried_to c vs H Q E) : t_carried_to c E (De Q) (start ["came", "stands", "gap", "place", "least"] vs) H := by
  obtain ⟨a, s, g, P, F, S, rfl, ha, hs, ok, hF, hP, q⟩ := h
  show t_carried_to c E _ [some (.ref a), some (.ref s), some (.int g), none, none] H
  unfold t_carried_to
  walk_at "run"
  refine use_at ha hP hF ?_
  obtain ⟨d, hd, hds⟩ := near ok (g - 1)
  refine while_inv (fun σ H' => H' = H ∧ ∃ (k : Nat) (p l : Int), σ = [some (.ref a), some (.ref s), some (.int g), some (.int p), some (.int l)] ∧ p = g - 1 - k ∧ k ≤ d ∧ l ≤ F p ∧ carr F P S g = min l (carrN F P S (P - k) p))
    (fun σ H' => match σ with
      | [_, _, _, some (.int p), _] => (p - (g - 1 - d)).toNat
      | _ => 0) ⟨rfl, 0, _, _, rfl, by omega, by omega, Int.le_refl _, by
        have := carrN_le (f := F) (P := P) (S := S) P (g - 1)
        show carrN F P S P (g - 1) = _
        rw [Nat.sub_zero]
        omega⟩ (fun σ H' N ⟨eH, k, p, l, eσ, ep, hk, hl, hc⟩ hN => ?_)
  subst eH eσ
  have lenP : ((cl F P).length : Int) = P := by rw [cl_length]
  have hPi : (0 : Int) < P := by omega
  walk_at "run"
  simp only [ha, hs, seqO_l, opt_some, List.length_map, lenP, v_mod, hPi, true_and]
  walk_at "run"
  simp only [hs, seqO_l, opt_some, flat_iv, inV_iv, flatV, true_and, v_toB, if_true]
  by_cases hm : p % P ∈ S
  · simp only [hm, decide_true, Bool.not_true, Bool.false_eq_true, if_false]
    walk_at "run"
    have : carrN F P S (P - k) p = F p := by
      cases e : P - k with
      | zero => rfl
      | succ n => unfold carrN; rw [if_pos hm]
    rw [this] at hc
    rw [show min l (F p) = l by omega] at hc
    rw [← hc]
    exact q
  · simp only [hm, decide_false, Bool.not_false, if_true]
    have hkd : k < d := by
      rcases Nat.lt_or_ge k d with h | h
      · exact h
      · have : k = d := by omega
        subst this
        rw [ep] at hm
        exact (hm hds).elim
    walk_at "run"
    refine use_at ha hP hF ?_
    walk_at "run"
    have e1 : P - k = (P - (k + 1)) + 1 := by omega
    rw [e1] at hc
    unfold carrN at hc
    rw [if_neg hm] at hc
    have hle := carrN_le (f := F) (P := P) (S := S) (P - (k + 1)) (p - 1)
    by_cases hlt : F (p - 1) < l
    · simp only [hlt, decide_true, if_true]
      walk_at "run"
      refine use_at ha hP hF ?_
      refine hN _ _ ⟨rfl, k + 1, p - 1, F (p - 1), rfl, by omega, by omega, Int.le_refl _, by omega⟩ ?_
      show (p - 1 - (g - 1 - d)).toNat < (p - (g - 1 - d)).toNat
      omega
    · simp only [hlt, decide_false, Bool.false_eq_true, if_false]
      refine hN _ _ ⟨rfl, k + 1, p - 1, l, rfl, by omega, by omega, by omega, by omega⟩ ?_
      show (p - 1 - (g - 1 - d)).toNat < (p - (g - 1 - d)).toNat
      omega
theorem sem_carried_came (h : sp_carried_came c vs H Q E) : t_carried_came c E (De Q) (start ["came", "stands", "gap"] vs) H := by
  obtain ⟨a, s, P, F, S, rfl, ha, hs, ok, hF, hP, p6, q⟩ := h
  show t_carried_came c E _ [some (.ref a), some (.ref s), none] H
  unfold t_carried_came
  have lenP : ((cl F P).length : Int) = P := by rw [cl_length]
  have rs : rngOk (P : Int) := rng_small (by omega) (by omega)
  walk_at "runs"
  refine ⟨trivial, fun D hD => ?_⟩
  refine lc_pure P (by show (P : Int).toNat = P; omega) (fun i => .int (carr F P S i)) (fun acc => trivial) (fun i acc R hi r => ?_) (small_line (by omega)) ?_
  · simp only [fiR]
    walk_at "run"
    refine ⟨rfl, a, s, _, P, F, S, rfl, upd_old' hD ha, upd_old' hD hs, ok, hF, hP, ?_⟩
    rw [Int.zero_add]
    exact r
  · refine q _ D (same_upd hD) hD ?_
    show upd _ _ _ _ = _
    rw [upd_same]
    unfold cl
    rw [List.map_map]
    rfl
theorem sem_step_came (h : sp_step_came c vs H Q E) : t_step_came c E (De Q) (start ["came", "stands", "brought", "moved", "place"] vs) H := by
  obtain ⟨a, s, P, F, S, rfl, ha, hs, ok, hF, hP, p6, q⟩ := h
  show t_step_came c E _ [some (.ref a), some (.ref s), none, none, none] H
  unfold t_step_came
  walk_at "run"
  refine ⟨a, s, P, F, S, rfl, ha, hs, ok, hF, hP, p6, fun H1 b s1 nb hb => ?_⟩
  walk_at "run"
  refine ⟨Nat.zero_le _, fun D hD => ?_⟩
  have ha1 := s1 _ _ ha
  have hs1 := s1 _ _ hs
  have lenP : ((cl F P).length : Int) = P := by rw [cl_length]
  have rs : rngOk (P : Int) := rng_small (by omega) (by omega)
  have haD := upd_old' (o := .lst []) hD ha1
  walk_at "runs"
  refine ⟨trivial, ?_⟩
  have eP : (P : Int).toNat = P := by omega
  rw [eP]
  refine for_rng (P := fun i σ H' => ∃ v4, σ = [some (.ref a), some (.ref s), some (.ref b), some (.ref D), v4] ∧ H' = upd H1 D (.lst (((List.range i).map fun j : Nat => stepF F P S j).map V.int)))
    ⟨none, rfl, rfl⟩ (fun i σ H' N hi ⟨v4, e1, e2⟩ hN => ?_) (fun σ H' ⟨v4, e1, e2⟩ => ?_)
  · subst e1 e2
    rw [Int.zero_add]
    have k1 : ∀ o, upd H1 D o a = some (.lst ((cl F P).map V.int)) := fun o => upd_old' hD ha1
    have k2 : ∀ o, upd H1 D o s = some (.lst (S.map V.int)) := fun o => upd_old' hD hs1
    have k3 : ∀ o, upd H1 D o b = some (.lst ((cl (carr F P S) P).map V.int)) := fun o => upd_old' hD hb
    have i1 := atI_map (ns := cl F P) (i := (i : Int)) (by omega) (by rw [cl_length]; omega)
    have i2 := atI_map (ns := cl (carr F P S) P) (i := (i : Int)) (by omega) (by rw [cl_length]; omega)
    rw [Int.toNat_natCast, cl_get hi] at i1 i2
    have em : ((i : Int) % P ∈ S) ↔ ((i : Int) ∈ S) := by rw [Int.emod_eq_of_lt (by omega) (by omega)]
    have res : ∀ v : Int, v = stepF F P S i → N [some (.ref a), some (.ref s), some (.ref b), some (.ref D), some (.int i)] (upd H1 D (.lst (((List.range i).map fun j : Nat => stepF F P S j).map V.int ++ [.int v]))) := fun v ev => hN _ _ ⟨_, rfl, by
      rw [ev, List.range_succ, List.map_append, List.map_append]; rfl⟩
    have hlen : (List.range i).length < sizeLine := by
      rw [List.length_range]
      exact small_line (by omega)
    walk_at "run"
    simp only [k2, seqO_l, opt_some, flat_iv, inV_iv, flatV, true_and, v_toB]
    by_cases hm : (i : Int) ∈ S
    · simp only [hm, decide_true, if_true, Bool.false_eq_true, if_false]
      walk_at "run"
      simp only [k3, seqO_l, opt_some, i2, v_append, upd_same, lstW_l, upd2]
      refine ⟨hlen, res _ ?_⟩
      unfold stepF
      rw [if_pos (em.mpr hm)]
    · simp only [hm, decide_false, Bool.false_eq_true, if_false]
      walk_at "run"
      simp only [k3, k1, seqO_l, opt_some, i1, i2, v_gt, v_toB]
      by_cases hg : F i < carr F P S i
      · simp only [hg, decide_true, if_true]
        walk_at "run"
        simp only [k3, seqO_l, opt_some, i2, v_append, upd_same, lstW_l, upd2]
        refine ⟨hlen, res _ ?_⟩
        unfold stepF
        rw [if_neg (fun z => hm (em.mp z))]
        omega
      · simp only [hg, decide_false, Bool.false_eq_true, if_false]
        walk_at "run"
        simp only [k1, seqO_l, opt_some, i1, v_append, upd_same, lstW_l, upd2]
        refine ⟨hlen, res _ ?_⟩
        unfold stepF
        rw [if_neg (fun z => hm (em.mp z))]
        omega
  · subst e1 e2
    walk_at "run"
    refine q _ D (s1.trans (same_upd hD)) ?_ ?_
    · cases e : H D with
      | none => rfl
      | some o => rw [s1 _ _ e] at hD; cases hD
    · show upd _ _ _ _ = _
      rw [upd_same]
      rfl
end
end Ly

/-! Se3 -/
set_option Elab.async false
set_option linter.all false
set_option maxRecDepth 100000
set_option maxHeartbeats 4000000
namespace Ly
open PySem PySem.Spec PyProof.Rows L2 M
local macro_rules | `(tactic| walk_at "run") => `(tactic| (try simp only [r_seq, r_next, r_cont, r_break, r_asg, r_name, r_sub, r_drop, r_ret, r_retN, r_if, r_ite, r_never, r_var, r_c, r_bin, r_un, r_tB, r_T, r_chain, r_and, r_or, r_not, r_andV, r_orV, r_notV, r_nil, r_cons, r_lst, r_tup, r_cb, r_call, r_lm, r_sm, r_fld, r_prop, r_meth, r_setF, r_aug, r_slice, r_no, r_some, r_revS, r_listR, r_g2, r_yes, r_for, r_comp, r_iter, r_iter', r_iterT, r_iterS, r_rng1, r_rng2, r_rngD, r_enum, r_zip, set0, setS, List.getElem?_cons_zero, List.getElem?_cons_succ, opt_some, opt_none, v_add_i, v_add_s, v_add_l, v_sub, v_mul_i, v_mul_l, v_mod, v_div, v_shl, v_shr, v_band, v_neg, v_lt, v_lt_s, v_le, v_le_s, v_gt, v_ge, v_eq_i, v_ne_i, v_eq_s, v_ne_s, v_in_l, v_in_s, v_idx, v_idx_s, v_slice, v_len, v_len_s, v_list, v_tuple, v_int, v_abs, v_max, v_min, v_maxL, v_sum, v_append, v_insert, v_popAt, v_pop, v_join, v_toB, v_tru_b, v_aug, v_set, v_ins, ints_bind, strs_bind, lst?_eq, tup?_eq, seq?_eq, lstO_l, lstO_f, lstW_l, tupO_t, seqO_l, seqO_t, insO_i, upd_same, upd_old, Option.isSome_some, List.length_map, wipe_one, Int.zero_add, Int.toNat_natCast, true_and]))
local macro_rules | `(tactic| walk_at "runs") => `(tactic| (try simp only [r_seq, r_next, r_cont, r_break, r_asg, r_name, r_sub, r_drop, r_ret, r_retN, r_if, r_ite, r_never, r_var, r_c, r_bin, r_un, r_tB, r_T, r_chain, r_and, r_or, r_not, r_andV, r_orV, r_notV, r_nil, r_cons, r_lst, r_tup, r_cb, r_call, r_lm, r_sm, r_fld, r_prop, r_meth, r_setF, r_aug, r_slice, r_no, r_some, r_revS, r_listR, r_g2, r_yes, r_for, r_comp, r_iter, r_iter', r_iterT, r_iterS, r_rng1, r_rng2, r_rngD, r_enum, r_zip, set0, setS, List.getElem?_cons_zero, List.getElem?_cons_succ, opt_some, opt_none, v_add_i, v_add_s, v_add_l, v_sub, v_mul_i, v_mul_l, v_mod, v_div, v_shl, v_shr, v_band, v_neg, v_lt, v_lt_s, v_le, v_le_s, v_gt, v_ge, v_eq_i, v_ne_i, v_eq_s, v_ne_s, v_in_l, v_in_s, v_idx, v_idx_s, v_slice, v_len, v_len_s, v_list, v_tuple, v_int, v_abs, v_max, v_min, v_maxL, v_sum, v_append, v_insert, v_popAt, v_pop, v_join, v_toB, v_tru_b, v_aug, v_set, v_ins, ints_bind, strs_bind, lst?_eq, tup?_eq, seq?_eq, lstO_l, lstO_f, lstW_l, tupO_t, seqO_l, seqO_t, insO_i, upd_same, upd_old, Option.isSome_some, List.length_map, wipe_one, Int.zero_add, Int.toNat_natCast, true_and, *]))
theorem range_id {ns : List Int} : (List.range ns.length).map (fun i => V.int (ns.getD i 0)) = ns.map V.int := range_map_getD rfl
theorem gf_le {P n : Nat} {F : Int → Int} (g : GF P F n) : ∀ x ∈ hOf F P, x ≤ 96 := fun x hx => by
  have h1 := le_sum (hOf_nonneg g.v.le) x hx
  rw [hOf_sum g.v.pos g.v.nod, sumF_sub] at h1
  have h2 := g.b
  unfold Balls at h2
  have : (n : Int) * P ≤ 16 * 6 := by
    have a := g.n16
    have b := g.p6
    have : (n * P : Nat) ≤ 16 * 6 := Nat.mul_le_mul a b
    have e : ((n * P : Nat) : Int) = (n : Int) * P := by exact Int.natCast_mul n P
    omega
  omega
theorem gf_sum {P n : Nat} {F : Int → Int} (g : GF P F n) : (hOf F P).sum = n * P := by
  rw [hOf_sum g.v.pos g.v.nod, sumF_sub]
  have h2 := g.b
  unfold Balls at h2
  omega
theorem none_back {H H' : Hp} (s : Same H H') {p : Addr} (h : H' p = none) : H p = none := by
  cases e : H p with
  | none => rfl
  | some o => rw [s _ _ e] at h; cases h
section
variable {c : CA} {vs : List V} {H : Hp} {Q : VK} {E : XK}
theorem sem_count_between (h : sp_count_between c vs H Q E) : t_count_between c E (De Q) (start ["heights", "begin", "end", "height", "highest", "found", "place"] vs) H := by
  obtain ⟨a, b, e, P, n, F, rfl, ha, gf, hbe, sb, se, q⟩ := h
  show t_count_between c E _ [some (.ref a), some (.int b), some (.int e), none, none, none, none] H
  unfold t_count_between
  have hl : (hOf F P).length = P := hOf_length
  have hP := gf.v.pos
  walk_at "run"
  refine ⟨b, e, rfl, hbe, ?_⟩
  walk_at "runs"
  intro D hD
  refine lc_pure (hOf F P).length (by show ((hOf F P).map V.int).length = _; rw [List.length_map]) (fun i => .int ((hOf F P).getD i 0)) (fun acc => by
    show lst? _ _ = _
    rw [lst?_eq, upd_old' hD ha]; rfl) (fun i acc R hi r => ?_) (by rw [hl]; exact small_line (by have := gf.p6; omega)) ?_
  · show opt _ _
    rw [getElem?_iv hi]
    walk_at "run"
    exact r
  rw [range_id]
  walk_at "run"
  refine ⟨by omega, fun hi mem up => ?_⟩
  have hhi : ∀ x ∈ hOf F P, x ≤ hi := up
  have h96 := gf_le gf hi mem
  have h0 := hOf_nonneg gf.v.le hi mem
  walk_at "run"
  unfold sm at sb se
  have elo : (if e - hi > b then e - hi else b) = max b (e - hi) := by split <;> omega
  rw [elo]
  have r1 : rngOk (max b (e - hi)) := rng_small (by omega) (by omega)
  have r2 : rngOk e := rng_small (by omega) (by omega)
  refine ⟨⟨r1, r2⟩, ?_⟩
  refine for_rng (P := fun i σ H' => ∃ v6, σ = [some (.ref a), some (.int b), some (.int e), none, some (.int hi), some (.int (cntL (lan F P) e (max b (e - hi)) i)), v6] ∧ H' = upd H D (.lst ((hOf F P).map V.int)))
    ⟨none, rfl, rfl⟩ (fun i σ H' N hlt ⟨v6, e1, e2⟩ hN => ?_) (fun σ H' ⟨v6, e1, e2⟩ => ?_)
  · subst e1 e2
    walk_at "run"
    refine ⟨a, _, P, F, rfl, upd_old' hD ha, hP, ?_⟩
    walk_at "run"
    by_cases hc : e ≤ lan F P (max b (e - hi) + i)
    · simp only [hc, decide_true, if_true]
      walk_at "run"
      have : ((cntL (lan F P) e (max b (e - hi)) (i + 1) : Nat) : Int) = cntL (lan F P) e (max b (e - hi)) i + 1 := by
        simp only [cntL]; rw [if_pos hc]; rfl
      exact hN _ _ ⟨some (.int (max b (e - hi) + i)), by rw [this], rfl⟩
    · simp only [hc, decide_false, Bool.false_eq_true, if_false]
      walk_at "run"
      have : cntL (lan F P) e (max b (e - hi)) (i + 1) = cntL (lan F P) e (max b (e - hi)) i := by
        simp only [cntL]; rw [if_neg hc, Nat.add_zero]
      exact hN _ _ ⟨some (.int (max b (e - hi) + i)), by rw [this], rfl⟩
  · subst e1 e2
    walk_at "run"
    rw [cntL_cut gf.v hbe hhi rfl]
    exact q _ (same_upd hD)
theorem sem_peel (h : sp_peel c vs H Q E) : t_peel c E (De Q) (start ["heights", "places", "place", "used", "rest", "earlier"] vs) H := by
  obtain ⟨a, P, F, rfl, ha, v, hu, p6, q⟩ := h
  show t_peel c E _ [some (.ref a), none, none, none, none, none] H
  unfold t_peel
  have hl : (hOf F P).length = P := hOf_length
  have hP := v.pos
  have rs : rngOk (P : Int) := rng_small (by omega) (by omega)
  have usedI : ∀ i : Nat, i < P → (0 < (hOf F P).getD i 0 ↔ F i < i) := fun i hi => by
    rw [← v.used, lan_at i hi]
    omega
  walk_at "runs"
  intro D hD
  refine lc_filt P rfl (fun i => decide (F i < i)) (fun i => .int (i : Int)) (fun acc => trivial) (fun i acc K R hi hk hr => ?_) (small_line (by omega)) ?_
  · simp only [fiR]
    have k1 : upd H D (.lst acc) a = some (.lst ((hOf F P).map V.int)) := upd_old' hD ha
    have i1 := atI_map (ns := hOf F P) (i := (i : Int)) (by omega) (by rw [hl]; omega)
    rw [Int.toNat_natCast] at i1
    walk_at "run"
    simp only [k1, seqO_l, opt_some, i1, v_gt, v_toB]
    have hu' := usedI i hi
    by_cases hp : F i < i
    · simp only [hu'.mpr hp, decide_true, if_true]
      walk_at "run"
      exact hr (by simp [hp])
    · have : ¬ 0 < (hOf F P).getD i 0 := fun z => hp (hu'.mp z)
      simp only [this, decide_false, Bool.false_eq_true, if_false]
      exact hk (by simp [hp])
  · have eu : ((List.range P).filter fun i : Nat => decide (F i < i)).map (fun i : Nat => V.int (i : Int)) = (usedL F P).map V.int := by
      unfold usedL
      rw [List.map_map]
      rfl
    rw [eu]
    have haD : ∀ o, upd H D o a = some (.lst ((hOf F P).map V.int)) := fun o => upd_old' hD ha
    walk_at "runs"
    intro R hR
    have nRD : D ≠ R := fun e => by rw [← e, upd_same] at hR; cases hR
    have aR : ∀ o, upd (upd H D (.lst ((usedL F P).map V.int))) R o a = some (.lst ((hOf F P).map V.int)) := fun o => upd_old' hR (haD _)
    have uR : ∀ o, upd (upd H D (.lst ((usedL F P).map V.int))) R o D = some (.lst ((usedL F P).map V.int)) := fun o => by rw [upd_ne nRD, upd_same]
    walk_at "runs"
    refine for_lst (P := fun i σ H' => ∃ v2 v5, σ = [some (.ref a), some (.int P), v2, some (.ref D), some (.ref R), v5] ∧ H' = upd (upd H D (.lst ((usedL F P).map V.int))) R (.lst ((scatL (fun p => pred F P (lan F P p) - p) ((usedL F P).take i) (hOf F P)).map V.int)))
      ⟨none, none, rfl, rfl⟩ (fun i σ H' ⟨v2, v5, e1, e2⟩ => ?_) (fun i x σ H' N hx ⟨v2, v5, e1, e2⟩ hN => ?_) (fun σ H' ⟨v2, v5, e1, e2⟩ => ?_)
    · subst e2
      rw [lst?_eq, uR]; rfl
    · subst e1 e2
      have hi : i < (usedL F P).length := by
        have := (List.getElem?_eq_some_iff.mp hx).1
        rw [List.length_map] at this
        exact this
      rw [List.getElem?_map, List.getElem?_eq_getElem hi, Option.map_some] at hx
      obtain ⟨p, hp⟩ : ∃ p, p = (usedL F P)[i] := ⟨_, rfl⟩
      rw [← hp] at hx
      obtain rfl := (Option.some.inj hx).symm
      have pm : p ∈ usedL F P := by rw [hp]; exact List.getElem_mem hi
      obtain ⟨p0, pP, pu⟩ := mem_used.mp pm
      have i1 := atI_map (ns := hOf F P) (i := p) p0 (by rw [hl]; exact pP)
      have lanp : p + (hOf F P).getD p.toNat 0 = lan F P p := by
        rw [lan_eq, Int.emod_eq_of_lt p0 pP]
      walk_at "run"
      simp only [aR, seqO_l, opt_some, i1, v_add_i, v_sub, lanp]
      walk_at "run"
      obtain ⟨d, hd, hdu⟩ := hu.down v (lan F P p - 1)
      refine while_inv (fun σ H' => H' = upd (upd H D (.lst ((usedL F P).map V.int))) R (.lst ((scatL (fun p => pred F P (lan F P p) - p) ((usedL F P).take i) (hOf F P)).map V.int)) ∧ ∃ (k : Nat) (y : Int), σ = [some (.ref a), some (.int P), some (.int p), some (.ref D), some (.ref R), some (.int y)] ∧ y = lan F P p - 1 - k ∧ k ≤ d ∧ pred F P (lan F P p) = prN F (P - k) y)
        (fun σ H' => match σ with
          | [_, _, _, _, _, some (.int y)] => (y - (lan F P p - 1 - d)).toNat
          | _ => 0) ⟨rfl, 0, _, rfl, by omega, by omega, rfl⟩ (fun σ H' N' ⟨eH, k, y, eσ, ey, hk, hc⟩ hN' => ?_)
      subst eH eσ
      have hPi : (0 : Int) < P := by omega
      have i2 := atI_map (ns := hOf F P) (i := y % P) (Int.emod_nonneg y (show (P : Int) ≠ 0 by omega)) (by rw [hl]; exact Int.emod_lt_of_pos y hPi)
      have z := zero_iff v y
      walk_at "run"
      simp only [aR, seqO_l, opt_some, hPi, true_and, i2, v_eq_i, v_toB, z]
      by_cases hy : F y < y
      · simp only [hy, not_true, decide_false, Bool.false_eq_true, if_false]
        walk_at "run"
        have ep : prN F (P - k) y = y := by
          cases e : P - k with
          | zero => rfl
          | succ n => unfold prN; rw [if_pos hy]
        rw [ep] at hc
        have ix : ixN P p = some p.toNat := ixN_of p0 pP
        simp only [scatL_length, hl, ix, opt_some, upd2]
        refine hN _ _ ⟨_, _, rfl, ?_⟩
        have et : (usedL F P).take (i + 1) = (usedL F P).take i ++ [p] := by
          rw [List.take_succ, List.getElem?_eq_getElem hi, ← hp]; rfl
        rw [map_set, et, scatL_snoc, hc]
      · simp only [hy, not_false_eq_true, decide_true, if_true]
        have hkd : k < d := by
          rcases Nat.lt_or_ge k d with h | h
          · exact h
          · have : k = d := by omega
            subst this
            rw [ey] at hy
            exact (hy hdu).elim
        walk_at "run"
        refine hN' _ _ ⟨rfl, k + 1, y - 1, rfl, by omega, by omega, ?_⟩ ?_
        · have e1 : P - k = (P - (k + 1)) + 1 := by omega
          rw [e1] at hc
          unfold prN at hc
          rw [if_neg hy] at hc
          exact hc
        · show (y - 1 - (lan F P p - 1 - d)).toNat < (y - (lan F P p - 1 - d)).toNat
          omega
    · subst e1 e2
      rw [List.length_map, List.take_length, rest_eq v hu]
      walk_at "run"
      refine ⟨(by show 2 ≤ sizeLine; decide), fun t ht => ?_⟩
      have s1 : Same H (upd (upd H D (.lst ((usedL F P).map V.int))) R (.lst ((hOf (pe F P) P).map V.int))) := (same_upd hD).trans (same_upd hR)
      refine q _ t R D (s1.trans (same_upd ht)) upd_same ?_ ?_
      · exact upd_old' ht upd_same
      · exact upd_old' ht (uR _)
end
end Ly

/-! Se4 -/
set_option Elab.async false
set_option linter.all false
set_option maxRecDepth 100000
set_option maxHeartbeats 4000000
namespace Ly
open PySem PySem.Spec PyProof.Rows L2 M
local macro_rules | `(tactic| walk_at "run") => `(tactic| (try simp only [r_seq, r_next, r_cont, r_break, r_asg, r_name, r_sub, r_drop, r_ret, r_retN, r_if, r_ite, r_never, r_var, r_c, r_bin, r_un, r_tB, r_T, r_chain, r_and, r_or, r_not, r_andV, r_orV, r_notV, r_nil, r_cons, r_lst, r_tup, r_cb, r_call, r_lm, r_sm, r_fld, r_prop, r_meth, r_setF, r_aug, r_slice, r_no, r_some, r_revS, r_listR, r_g2, r_yes, r_for, r_comp, r_iter, r_iter', r_iterT, r_iterS, r_rng1, r_rng2, r_rngD, r_enum, r_zip, set0, setS, List.getElem?_cons_zero, List.getElem?_cons_succ, opt_some, opt_none, v_add_i, v_add_s, v_add_l, v_sub, v_mul_i, v_mul_l, v_mod, v_div, v_shl, v_shr, v_band, v_neg, v_lt, v_lt_s, v_le, v_le_s, v_gt, v_ge, v_eq_i, v_ne_i, v_eq_s, v_ne_s, v_in_l, v_in_s, v_idx, v_idx_s, v_slice, v_len, v_len_s, v_list, v_tuple, v_int, v_abs, v_max, v_min, v_maxL, v_sum, v_append, v_insert, v_popAt, v_pop, v_join, v_toB, v_tru_b, v_aug, v_set, v_ins, ints_bind, strs_bind, lst?_eq, tup?_eq, seq?_eq, lstO_l, lstO_f, lstW_l, tupO_t, seqO_l, seqO_t, insO_i, upd_same, upd_old, Option.isSome_some, List.length_map, wipe_one, Int.zero_add, Int.toNat_natCast, true_and]))
local macro_rules | `(tactic| walk_at "runs") => `(tactic| (try simp only [r_seq, r_next, r_cont, r_break, r_asg, r_name, r_sub, r_drop, r_ret, r_retN, r_if, r_ite, r_never, r_var, r_c, r_bin, r_un, r_tB, r_T, r_chain, r_and, r_or, r_not, r_andV, r_orV, r_notV, r_nil, r_cons, r_lst, r_tup, r_cb, r_call, r_lm, r_sm, r_fld, r_prop, r_meth, r_setF, r_aug, r_slice, r_no, r_some, r_revS, r_listR, r_g2, r_yes, r_for, r_comp, r_iter, r_iter', r_iterT, r_iterS, r_rng1, r_rng2, r_rngD, r_enum, r_zip, set0, setS, List.getElem?_cons_zero, List.getElem?_cons_succ, opt_some, opt_none, v_add_i, v_add_s, v_add_l, v_sub, v_mul_i, v_mul_l, v_mod, v_div, v_shl, v_shr, v_band, v_neg, v_lt, v_lt_s, v_le, v_le_s, v_gt, v_ge, v_eq_i, v_ne_i, v_eq_s, v_ne_s, v_in_l, v_in_s, v_idx, v_idx_s, v_slice, v_len, v_len_s, v_list, v_tuple, v_int, v_abs, v_max, v_min, v_maxL, v_sum, v_append, v_insert, v_popAt, v_pop, v_join, v_toB, v_tru_b, v_aug, v_set, v_ins, ints_bind, strs_bind, lst?_eq, tup?_eq, seq?_eq, lstO_l, lstO_f, lstW_l, tupO_t, seqO_l, seqO_t, insO_i, upd_same, upd_old, Option.isSome_some, List.length_map, wipe_one, Int.zero_add, Int.toNat_natCast, true_and, *]))
theorem ne_ref_int {H : Hp} {a b : Addr} {bs : List Addr} {ns : List Int} (ha : H a = some (.lst (bs.map V.ref))) (hb : H b = some (.lst (ns.map V.int))) (hn : ns ≠ []) : a ≠ b := by
  intro e
  subst e
  rw [ha] at hb
  have e : bs.map V.ref = ns.map V.int := by injection hb with h1; injection h1
  cases ns with
  | nil => exact hn rfl
  | cons n r =>
    cases bs with
    | nil => cases e
    | cons b bs => rw [List.map_cons, List.map_cons] at e; injection e with h _; cases h
theorem LL.same {H H' : Hp} {a : Addr} {A : List (List Int)} (h : LL H a A) (s : Same H H') : LL H' a A := by
  obtain ⟨bs, h1, h2, h3⟩ := h
  exact ⟨bs, s _ _ h1, h2, fun i b S e1 e2 => s _ _ (h3 i b S e1 e2)⟩
theorem hts_ne {P : Nat} (hP : 0 < P) (f : Int → Int) : hOf f P ≠ [] := by
  intro e
  have : (hOf f P).length = P := hOf_length
  rw [e] at this
  simp at this
  omega
theorem used_ne {P : Nat} {f : Int → Int} (v : VF P f) (h : HasU P f) : usedL f P ≠ [] := (ok_used v h).1
section
variable {c : CA} {vs : List V} {H : Hp} {Q : VK} {E : XK}
theorem sem_product_heights (h : sp_product_heights c vs H Q E) : t_product_heights c E (De Q) (start ["first", "second", "rest", "sets", "_", "stands", "came"] vs) H := by
  obtain ⟨a, b, P, A, B, rfl, ha, hb, pA, pB, q⟩ := h
  show t_product_heights c E _ [some (.ref a), some (.ref b), none, none, none, none, none] H
  unfold t_product_heights
  have hP := pA.pos
  have hPi : (0 : Int) < P := by omega
  have vB := vf_page hP pB.ok
  have bB := balls_page pB.ok
  have vA := vf_page hP pA.ok
  have nB := pB.n16
  have hsum := hts_sum hP pB.ok
  have hlen : ((hts P B).length : Int) = P := by rw [hts_length]
  have p6 := pA.p6
  have P30 : (P : Int) < 1073741824 := by omega
  have hdiv : (B.length : Int) * P / P = B.length := Int.mul_ediv_cancel _ (by omega)
  have rs : rngOk (B.length : Int) := rng_small (by omega) (by omega)
  walk_at "run"
  simp only [hb, seqO_l, opt_some]
  intro R hR
  walk_at "run"
  refine ⟨Nat.zero_le _, fun D hD => ?_⟩
  have nDb : D ≠ b := fun e => by
    rw [e, upd_old' hR hb] at hD; cases hD
  have s1 : Same H (upd H R (.lst ((hts P B).map V.int))) := same_upd hR
  have hD0 : H D = none := none_back s1 hD
  have s2 : Same H (upd (upd H R (.lst ((hts P B).map V.int))) D (.lst [])) := s1.trans (same_upd hD)
  walk_at "run"
  simp only [s2 _ _ hb, seqO_l, opt_some, ints_bind, hsum, v_len, List.length_map, hlen, v_div, hdiv, hPi, P30, rs, true_and, Int.toNat_natCast]
  have nRD : R ≠ D := fun e => by rw [← e, upd_same] at hD; cases hD
  have h2R : (upd (upd H R (.lst ((hts P B).map V.int))) D (.lst [])) R = some (.lst ((hts P B).map V.int)) := by rw [upd_ne nRD, upd_same]
  refine for_rng (P := fun i σ H' => ∃ (r : Addr) (v4 v5 : Option V) (bs : List Addr), σ = [some (.ref a), some (.ref b), some (.ref r), some (.ref D), v4, v5, none] ∧ Same H H' ∧ H' D = some (.lst (bs.map V.ref)) ∧ bs.length = i ∧
      IL H' r (hOf (peN P i (pageF P B)) P) ∧ ∀ (j : Nat) (x : Addr), bs[j]? = some x → IL H' x (usedL (peN P j (pageF P B)) P))
    ⟨R, none, none, [], rfl, s2, upd_same, rfl, h2R, fun j x e => by cases e⟩
    (fun i σ H' N hi ⟨r, v4, v5, bs, e1, sH, hDl, hbl, hr, hu⟩ hN => ?_) (fun σ H' ⟨r, v4, v5, bs, e1, sH, hDl, hbl, hr, hu⟩ => ?_)
  · subst e1
    obtain ⟨vi, bi⟩ := peN_ok i (B.length - i) (pageF P B) vB (by rw [show B.length - i + i = B.length by omega]; exact bB)
    obtain ⟨m, hm⟩ : ∃ m, B.length - i = m + 1 := ⟨B.length - i - 1, by omega⟩
    rw [hm] at bi
    have hui := balls_used vi bi
    walk_at "run"
    refine ⟨r, P, _, rfl, hr, vi, hui, p6, fun H2 t r2 u s3 ht hr2 hu2 => ?_⟩
    walk_at "run"
    simp only [ht, tupO_t, opt_some]
    walk_at "run"
    have hD2 := s3 _ _ hDl
    simp only [hD2, lstO_l, lstW_l, opt_some, List.length_map, hbl]
    refine ⟨small_line (by omega), ?_⟩
    have n1 : r2 ≠ D := (ne_ref_int hD2 hr2 (hts_ne hP _)).symm
    have n2 : u ≠ D := (ne_ref_int hD2 hu2 (used_ne vi hui)).symm
    refine hN _ _ ⟨r2, _, _, bs ++ [u], rfl, fun x o e => ?_, ?_, by rw [List.length_append, hbl]; rfl, ?_, fun j x e => ?_⟩
    · rw [upd_ne (ne_of_none e hD0)]
      exact s3 _ _ (sH _ _ e)
    · rw [upd_same, List.map_append]; rfl
    · show upd _ _ _ _ = _
      rw [upd_ne n1]
      exact hr2
    · rcases Nat.lt_or_ge j i with hj | hj
      · rw [List.getElem?_append_left (by omega)] at e
        have hx := s3 _ _ (hu j x e)
        obtain ⟨vj, bj⟩ := peN_ok j (B.length - j) (pageF P B) vB (by rw [show B.length - j + j = B.length by omega]; exact bB)
        obtain ⟨mj, hmj⟩ : ∃ mj, B.length - j = mj + 1 := ⟨B.length - j - 1, by omega⟩
        rw [hmj] at bj
        have n3 : x ≠ D := (ne_ref_int hD2 hx (used_ne vj (balls_used vj bj))).symm
        show upd _ _ _ _ = _
        rw [upd_ne n3]
        exact hx
      · have hj' : j = i := by
          have := (List.getElem?_eq_some_iff.mp e).1
          rw [List.length_append, hbl] at this
          have : j < i + 1 := this
          omega
        subst hj'
        rw [List.getElem?_append_right (by omega), hbl, Nat.sub_self] at e
        obtain rfl : u = x := by simpa using e
        show upd _ _ _ _ = _
        rw [upd_ne n2]
        exact hu2
  · subst e1
    walk_at "run"
    refine ⟨a, P, pageF P A, rfl, sH _ _ ha, vA, p6, fun H2 cm s3 ncm hcm => ?_⟩
    walk_at "run"
    have hD2 := s3 _ _ hDl
    simp only [hD2, lstO_l, opt_some]
    intro W hW
    have hgr := grow_eq P B.length (pageF P B)
    -- the reversed list holds the growing page
    have ll : LL (upd H2 W (.lst ((bs.map V.ref).reverse))) W (grow P B.length (pageF P B)) := by
      refine ⟨bs.reverse, by rw [upd_same, List.map_reverse], by rw [hgr, List.length_reverse, List.length_reverse, List.length_map, List.length_range, hbl], fun i x S e1 e2 => ?_⟩
      have hi : i < bs.length := by
        have := (List.getElem?_eq_some_iff.mp e1).1
        rw [List.length_reverse] at this
        exact this
      rw [List.getElem?_reverse hi] at e1
      rw [hgr, List.getElem?_reverse (by rw [List.length_map, List.length_range]; omega), List.length_map, List.length_range, List.getElem?_map, List.getElem?_range (by omega), ← hbl] at e2
      simp only [Option.map_some, Option.some.injEq] at e2
      subst e2
      exact upd_old' hW (s3 _ _ (hu _ x e1))
    obtain ⟨gok, _⟩ := grow_ok P B.length (pageF P B) vB bB
    walk_at "run"
    obtain ⟨cs, hcs, hlc, hcl⟩ := ll
    rw [upd_same] at hcs
    have ecs : (bs.map V.ref).reverse = cs.map V.ref := by injection hcs with h1; injection h1
    try simp only [lstO_l, opt_some]
    rw [ecs]
    have sW : Same H2 (upd H2 W (.lst (cs.map V.ref))) := same_upd hW
    rw [ecs] at hcl
    refine for_lst (P := fun i σ H' => ∃ (v4 v5 : Option V) (r cm : Addr), σ = [some (.ref a), some (.ref b), some (.ref r), some (.ref D), v4, v5, some (.ref cm)] ∧ Same (upd H2 W (.lst (cs.map V.ref))) H' ∧
        IL H' cm (cl (((grow P B.length (pageF P B)).take i).foldl (fun f S => stepF f P S) (pageF P A)) P))
      ⟨_, _, r, cm, rfl, Same.refl _, upd_old' hW hcm⟩ (fun i σ H' ⟨_, _, _, _, _, s4, _⟩ => ?_) (fun i x σ H' N hx ⟨v4, v5, r, cm, e1, s4, hc⟩ hN => ?_) (fun σ H' ⟨v4, v5, r, cm, e1, s4, hc⟩ => ?_)
    · rw [lst?_eq, s4 _ _ upd_same]; rfl
    · subst e1
      rw [List.getElem?_map] at hx
      cases ex : cs[i]? with
      | none => rw [ex] at hx; cases hx
      | some y =>
        rw [ex] at hx
        obtain rfl : V.ref y = x := by simpa using hx
        have hi : i < (grow P B.length (pageF P B)).length := by
          rw [← hlc]
          exact (List.getElem?_eq_some_iff.mp ex).1
        have eS := List.getElem?_eq_getElem hi
        have hy := s4 _ _ (hcl i y _ ex eS)
        walk_at "run"
        refine ⟨cm, y, P, _, _, rfl, hc, hy, gok _ (List.getElem_mem hi), VF.foldl (pageF_per A) _, hP, p6, fun H3 z s5 nz hz => ?_⟩
        walk_at "run"
        refine hN _ _ ⟨_, _, r, z, rfl, s4.trans s5, ?_⟩
        rw [List.take_succ, eS, Option.toList_some, List.foldl_append]
        exact hz
    · subst e1
      rw [List.length_map, hlc, List.take_length, product pA.ok pB.ok hP] at hc
      walk_at "run"
      have okAB := pA.ok.app pB.ok
      refine ⟨cm, P, _, rfl, hc, vf_page hP okAB, p6, fun H3 z s5 nz hz => ?_⟩
      have sAll : Same H H' := sH.trans (s3.trans (sW.trans s4))
      exact q H3 z (sAll.trans s5) (none_back sAll nz) hz
end
end Ly

/-! Se5 -/
set_option Elab.async false
set_option linter.all false
set_option maxRecDepth 100000
set_option maxHeartbeats 4000000
namespace Ly
open PySem PySem.Spec PyProof.Rows L2 M
local macro_rules | `(tactic| walk_at "run") => `(tactic| (try simp only [r_seq, r_next, r_cont, r_break, r_asg, r_name, r_sub, r_drop, r_ret, r_retN, r_if, r_ite, r_never, r_var, r_c, r_bin, r_un, r_tB, r_T, r_chain, r_and, r_or, r_not, r_andV, r_orV, r_notV, r_nil, r_cons, r_lst, r_tup, r_cb, r_call, r_lm, r_sm, r_fld, r_prop, r_meth, r_setF, r_aug, r_slice, r_no, r_some, r_revS, r_listR, r_g2, r_yes, r_for, r_comp, r_iter, r_iter', r_iterT, r_iterS, r_rng1, r_rng2, r_rngD, r_enum, r_zip, set0, setS, List.getElem?_cons_zero, List.getElem?_cons_succ, opt_some, opt_none, v_add_i, v_add_s, v_add_l, v_sub, v_mul_i, v_mul_l, v_mod, v_div, v_shl, v_shr, v_band, v_neg, v_lt, v_lt_s, v_le, v_le_s, v_gt, v_ge, v_eq_i, v_ne_i, v_eq_s, v_ne_s, v_in_l, v_in_s, v_idx, v_idx_s, v_slice, v_len, v_len_s, v_list, v_tuple, v_int, v_abs, v_max, v_min, v_maxL, v_sum, v_append, v_insert, v_popAt, v_pop, v_join, v_toB, v_tru_b, v_aug, v_set, v_ins, ints_bind, strs_bind, lst?_eq, tup?_eq, seq?_eq, lstO_l, lstO_f, lstW_l, tupO_t, seqO_l, seqO_t, insO_i, upd_same, upd_old, Option.isSome_some, List.length_map, wipe_one, Int.zero_add, Int.toNat_natCast, true_and]))
local macro_rules | `(tactic| walk_at "runs") => `(tactic| (try simp only [r_seq, r_next, r_cont, r_break, r_asg, r_name, r_sub, r_drop, r_ret, r_retN, r_if, r_ite, r_never, r_var, r_c, r_bin, r_un, r_tB, r_T, r_chain, r_and, r_or, r_not, r_andV, r_orV, r_notV, r_nil, r_cons, r_lst, r_tup, r_cb, r_call, r_lm, r_sm, r_fld, r_prop, r_meth, r_setF, r_aug, r_slice, r_no, r_some, r_revS, r_listR, r_g2, r_yes, r_for, r_comp, r_iter, r_iter', r_iterT, r_iterS, r_rng1, r_rng2, r_rngD, r_enum, r_zip, set0, setS, List.getElem?_cons_zero, List.getElem?_cons_succ, opt_some, opt_none, v_add_i, v_add_s, v_add_l, v_sub, v_mul_i, v_mul_l, v_mod, v_div, v_shl, v_shr, v_band, v_neg, v_lt, v_lt_s, v_le, v_le_s, v_gt, v_ge, v_eq_i, v_ne_i, v_eq_s, v_ne_s, v_in_l, v_in_s, v_idx, v_idx_s, v_slice, v_len, v_len_s, v_list, v_tuple, v_int, v_abs, v_max, v_min, v_maxL, v_sum, v_append, v_insert, v_popAt, v_pop, v_join, v_toB, v_tru_b, v_aug, v_set, v_ins, ints_bind, strs_bind, lst?_eq, tup?_eq, seq?_eq, lstO_l, lstO_f, lstW_l, tupO_t, seqO_l, seqO_t, insO_i, upd_same, upd_old, Option.isSome_some, List.length_map, wipe_one, Int.zero_add, Int.toNat_natCast, true_and, *]))
theorem lk_h {v : V} : ([("_heights", v)] : List (Str × V)).lookup ("_heights" : Str) = some v := by
  show (match ("_heights" : Str) == ("_heights" : Str) with | true => some v | false => none) = some v
  rw [beq_self_eq_true]
theorem pf_h {v : V} : putF "_heights" v [] = ([(("_heights" : Str), v)] : List (Str × V)) := rfl
theorem isc_same {c : CA} {H H' : Hp} {x : Addr} {P : Nat} {F : Int → Int} (h : IsC c H x P F) (s : Same H H') : IsC c H' x P F := by
  obtain ⟨dx, t, h1, h2⟩ := h
  exact ⟨dx, t, s _ _ h1, s _ _ h2⟩
theorem mk_cast {c : CA} {H : Hp} {Q : VK} {E : XK} {h : Addr} {P n : Nat} {F : Int → Int} (hh : IL H h (hOf F P)) (g : GF P F n) (q : ∀ H' x, Same H H' → H x = none → IsC c H' x P F → Q (.ref x) H') : mkOf c.Cast (sp_Cast___init__ c) [.ref h] H Q E := by
  intro x dx hx hdx ne
  have hdx' : (upd H dx (.own x)) x = none := by rw [upd_ne ne.symm]; exact hx
  refine ⟨x, dx, h, P, n, F, rfl, upd_same, upd_old' hdx' (upd_old' hdx hh), g, fun H' t s h1 h2 => ⟨rfl, q H' x (fun b o e => ?_) hx ⟨dx, t, h1, h2⟩⟩⟩
  refine s b o (ne_of_none e hx) ?_
  rw [upd_ne (ne_of_none e hx), upd_ne (ne_of_none e hdx)]
  exact e
section
variable {c : CA} {vs : List V} {H : Hp} {Q : VK} {E : XK}
theorem sem_Cast_init (h : sp_Cast___init__ c vs H Q E) : t_Cast___init__ c E (De Q) (start ["self", "heights", "places", "place", "second", "first", "balls"] vs) H := by
  obtain ⟨x, dx, h, P, n, F, rfl, hx, hh, g, q⟩ := h
  show t_Cast___init__ c E _ [some (.ref x), some (.ref h), none, none, none, none, none] H
  unfold t_Cast___init__
  have hl : (hOf F P).length = P := hOf_length
  have hP := g.v.pos
  have p6 := g.p6
  have rs : rngOk (P : Int) := rng_small (by omega) (by omega)
  have h96 := gf_le g
  have h0 := hOf_nonneg (P := P) g.v.le
  have at_ : ∀ i : Nat, i < P → 0 ≤ (hOf F P).getD i 0 ∧ (hOf F P).getD i 0 ≤ 96 := fun i hi => by
    rw [getD_of (by omega)]
    exact ⟨h0 _ (List.getElem_mem _), h96 _ (List.getElem_mem _)⟩
  have a1 : (1 : Int) ≤ P := by omega
  have a2 : (P : Int) ≤ 6 := by omega
  walk_at "runs"
  simp only [a1, a2, decide_true, if_true, Bool.not_true, Bool.false_eq_true, if_false]
  walk_at "runs"
  refine for_rng (P := fun i σ H' => ∃ v3, σ = [some (.ref x), some (.ref h), some (.int P), v3, none, none, none] ∧ H = H') ⟨none, rfl, rfl⟩ (fun i σ H' N hi ⟨v3, e1, e2⟩ hN => ?_) (fun σ H' ⟨v3, e1, e2⟩ => ?_)
  · subst e1 e2
    have i1 := atI_map (ns := hOf F P) (i := (i : Int)) (by omega) (by rw [hl]; omega)
    rw [Int.toNat_natCast] at i1
    obtain ⟨b1, b2⟩ := at_ i hi
    walk_at "run"
    simp only [hh, seqO_l, opt_some, i1, v_le, v_toB, b1, b2, decide_true, if_true, Bool.not_true, Bool.false_eq_true, if_false]
    exact hN _ _ ⟨_, rfl, rfl⟩
  · subst e1 e2
    walk_at "runs"
    refine for_rng (P := fun i σ H' => ∃ v4 v5, σ = [some (.ref x), some (.ref h), some (.int P), v3, v4, v5, none] ∧ H = H') ⟨none, none, rfl, rfl⟩ (fun i σ H' N hi ⟨v4, v5, e1, e2⟩ hN => ?_) (fun σ H' ⟨v4, v5, e1, e2⟩ => ?_)
    · subst e1 e2
      have rsi : rngOk (i : Int) := rng_small (by omega) (by omega)
      walk_at "runs"
      refine for_rng (P := fun j σ H' => ∃ v5, σ = [some (.ref x), some (.ref h), some (.int P), v3, some (.int i), v5, none] ∧ H = H') ⟨v5, rfl, rfl⟩ (fun j σ H' N hj ⟨v5, e1, e2⟩ hN => ?_) (fun σ H' ⟨v5, e1, e2⟩ => ?_)
      · subst e1 e2
        have i1 := atI_map (ns := hOf F P) (i := (i : Int)) (by omega) (by rw [hl]; omega)
        have i2 := atI_map (ns := hOf F P) (i := (j : Int)) (by omega) (by rw [hl]; omega)
        rw [Int.toNat_natCast] at i1 i2
        have nm := no_meet g.v hi (show j < P by omega) (by omega)
        rw [lan_at i hi, lan_at j (by omega)] at nm
        have e : (i : Int) + (hOf F P).getD i 0 - j - (hOf F P).getD j 0 = i + (hOf F P).getD i 0 - (j + (hOf F P).getD j 0) := by omega
        have hPi : (0 : Int) < P := by omega
        walk_at "run"
        simp only [hh, seqO_l, opt_some, i1, i2, v_add_i, v_sub, v_mod, v_eq_i, v_toB, hPi, true_and, e, nm, decide_false, Bool.false_eq_true, if_false]
        exact hN _ _ ⟨_, rfl, rfl⟩
      · subst e1 e2
        exact hN _ _ ⟨_, _, rfl, rfl⟩
    · subst e1 e2
      have hsum := gf_sum g
      have hPi : (0 : Int) < P := by omega
      have P30 : (P : Int) < 1073741824 := by omega
      have hdiv : (n : Int) * P / P = n := Int.mul_ediv_cancel _ (by omega)
      have n16 : ¬ (16 : Int) < n := by have := g.n16; omega
      walk_at "run"
      simp only [hh, seqO_l, opt_some, ints_bind, hsum, v_div, hdiv, hPi, P30, true_and, n16, decide_false, v_gt, v_toB, Bool.false_eq_true, if_false]
      walk_at "run"
      intro t ht
      have nxt : x ≠ t := ne_of_none hx ht
      walk_at "run"
      simp only [upd_old' ht hx, insO_i, opt_some, pf_h]
      refine ⟨by decide, q _ t (fun b o nb e => ?_) upd_same ?_⟩
      · rw [upd_ne nb]; exact upd_old' ht e
      · rw [upd_ne nxt.symm]; exact upd_same
theorem sem_Cast_none (h : sp_Cast_none c vs H Q E) : t_Cast_none c E (De Q) (start ["places", "_"] vs) H := by
  obtain ⟨P, rfl, hP, p6, q⟩ := h
  show t_Cast_none c E _ [some (.int P), none] H
  unfold t_Cast_none
  have rs : rngOk (P : Int) := rng_small (by omega) (by omega)
  walk_at "run"
  refine ⟨P, rfl, by omega, by omega, ?_⟩
  walk_at "runs"
  intro D hD
  refine lc_pure P rfl (fun _ => .int 0) (fun acc => trivial) (fun i acc R hi r => ?_) (small_line (by omega)) ?_
  · simp only [fiR]
    walk_at "run"
    exact r
  rw [repl_map]
  have pg : PG P [] := ⟨hP, p6, fun S hS => (by cases hS), by simp⟩
  have e0 : List.replicate P (0 : Int) = hOf (pageF P []) P := by
    refine List.ext_getElem (by rw [List.length_replicate, hOf_length]) fun k h1 h2 => ?_
    have hk : k < P := by rw [List.length_replicate] at h1; exact h1
    have a := hOf_at hP (pageF_nod hP pg.ok) hk
    have e : (pageF P [] (k : Int)) = k := rfl
    rw [e, Int.emod_eq_of_lt (by omega) (by omega), Int.toNat_natCast, getD_of h2] at a
    rw [List.getElem_replicate, a]
    omega
  rw [e0]
  walk_at "run"
  exact mk_cast upd_same pg.gf fun H' x s nx hx => q H' x ((same_upd hD).trans s) (none_back (same_upd hD) nx) hx
theorem sem_Cast_places (h : sp_Cast_places c vs H Q E) : t_Cast_places c E (De Q) (start ["self"] vs) H := by
  obtain ⟨x, P, F, rfl, ⟨dx, t, hx, ht⟩, q⟩ := h
  show t_Cast_places c E _ [some (.ref x)] H
  unfold t_Cast_places
  have hl : (hOf F P).length = P := hOf_length
  walk_at "run"
  simp only [hx, insO_i, opt_some, lk_h, v_len, ht, seqO_t, List.length_map, hl]
  exact q
theorem sem_Cast_balls (h : sp_Cast_balls c vs H Q E) : t_Cast_balls c E (De Q) (start ["self"] vs) H := by
  obtain ⟨x, P, n, F, rfl, ⟨dx, t, hx, ht⟩, g, q⟩ := h
  show t_Cast_balls c E _ [some (.ref x)] H
  unfold t_Cast_balls
  have hl : (hOf F P).length = P := hOf_length
  have hsum := gf_sum g
  have hP := g.v.pos
  have p6 := g.p6
  have hPi : (0 : Int) < P := by omega
  have P30 : (P : Int) < 1073741824 := by omega
  have hdiv : (n : Int) * P / P = n := Int.mul_ediv_cancel _ (by omega)
  walk_at "run"
  simp only [hx, insO_i, opt_some, lk_h, v_len, v_sum, ht, seqO_t, List.length_map, hl, ints_bind, hsum, v_div, hdiv, hPi, P30, true_and]
  exact q
theorem sem_Cast_heights (h : sp_Cast_heights c vs H Q E) : t_Cast_heights c E (De Q) (start ["self"] vs) H := by
  obtain ⟨x, P, F, rfl, ⟨dx, t, hx, ht⟩, q⟩ := h
  show t_Cast_heights c E _ [some (.ref x)] H
  unfold t_Cast_heights
  walk_at "run"
  simp only [hx, insO_i, opt_some, lk_h, v_list, ht, seqO_t]
  exact fun l hl => q _ l (same_upd hl) hl upd_same
theorem sem_Cast_count (h : sp_Cast_count c vs H Q E) : t_Cast_count c E (De Q) (start ["self", "begin", "end"] vs) H := by
  obtain ⟨x, b, e, P, n, F, rfl, hc, g, hbe, sb, se, q⟩ := h
  show t_Cast_count c E _ [some (.ref x), some (.int b), some (.int e)] H
  unfold t_Cast_count
  obtain ⟨dx, t, hx, ht⟩ := id hc
  walk_at "run"
  simp only [hx, insO_i, opt_some]
  refine ⟨x, P, F, rfl, hc, fun H1 p s1 np hp => ?_⟩
  walk_at "run"
  exact ⟨p, b, e, P, n, F, rfl, hp, g, hbe, sb, se, fun H2 s2 => q H2 (s1.trans s2)⟩
theorem sem_check_like (h : sp_check_like c vs H Q E) : t_check_like c E (De Q) (start ["first", "second"] vs) H := by
  obtain ⟨x, y, P, F, G, rfl, hx, hy, q⟩ := h
  show t_check_like c E _ [some (.ref x), some (.ref y)] H
  unfold t_check_like
  obtain ⟨dx, t, hx1, ht⟩ := id hx
  obtain ⟨dy, u, hy1, hu⟩ := id hy
  walk_at "run"
  simp only [hx1, insO_i, opt_some]
  refine ⟨x, P, F, rfl, hx, ?_⟩
  walk_at "run"
  simp only [hy1, insO_i, opt_some]
  refine ⟨y, P, G, rfl, hy, ?_⟩
  walk_at "run"
  simp only [decide_true, Bool.not_true, Bool.false_eq_true, if_false]
  exact q
theorem sem_Cast_mul (h : sp_Cast___mul__ c vs H Q E) : t_Cast___mul__ c E (De Q) (start ["self", "other", "amount"] vs) H := by
  obtain ⟨x, y, P, A, B, rfl, hx, hy, pA, pB, hAB, q⟩ := h
  show t_Cast___mul__ c E _ [some (.ref x), some (.ref y), none] H
  unfold t_Cast___mul__
  obtain ⟨dx, t, hx1, ht⟩ := id hx
  obtain ⟨dy, u, hy1, hu⟩ := id hy
  walk_at "run"
  refine ⟨x, y, P, _, _, rfl, hx, hy, ?_⟩
  walk_at "run"
  simp only [hx1, insO_i, opt_some]
  refine ⟨x, P, _, _, rfl, hx, pA.gf, ?_⟩
  walk_at "run"
  simp only [hy1, insO_i, opt_some]
  refine ⟨y, P, _, _, rfl, hy, pB.gf, ?_⟩
  walk_at "run"
  have n16 : ¬ (16 : Int) < (A.length : Int) + B.length := by omega
  simp only [n16, decide_false, Bool.false_eq_true, if_false]
  walk_at "run"
  simp only [hx1, insO_i, opt_some]
  refine ⟨x, P, _, rfl, hx, fun H1 p s1 np hp => ?_⟩
  walk_at "run"
  simp only [s1 _ _ hy1, insO_i, opt_some]
  refine ⟨y, P, _, rfl, isc_same hy s1, fun H2 r s2 nr hr => ?_⟩
  walk_at "run"
  refine ⟨p, r, P, A, B, rfl, s2 _ _ hp, hr, pA, pB, fun H3 w s3 nw hw => ?_⟩
  walk_at "run"
  have pAB : PG P (A ++ B) := ⟨pA.pos, pA.p6, pA.ok.app pB.ok, by rw [List.length_append]; exact hAB⟩
  have sAll := s1.trans (s2.trans s3)
  exact mk_cast hw pAB.gf fun H' z s nz hz => q H' z (sAll.trans s) (none_back sAll nz) hz
end
end Ly

/-! Se6 -/
set_option Elab.async false
set_option linter.all false
set_option maxRecDepth 100000
set_option maxHeartbeats 4000000
namespace Ly
open PySem PySem.Spec PyProof.Rows L2 M
local macro_rules | `(tactic| walk_at "run") => `(tactic| (try simp only [r_seq, r_next, r_cont, r_break, r_asg, r_name, r_sub, r_drop, r_ret, r_retN, r_if, r_ite, r_never, r_var, r_c, r_bin, r_un, r_tB, r_T, r_chain, r_and, r_or, r_not, r_andV, r_orV, r_notV, r_nil, r_cons, r_lst, r_tup, r_cb, r_call, r_lm, r_sm, r_fld, r_prop, r_meth, r_setF, r_aug, r_slice, r_no, r_some, r_revS, r_listR, r_g2, r_yes, r_for, r_comp, r_iter, r_iter', r_iterT, r_iterS, r_rng1, r_rng2, r_rngD, r_enum, r_zip, set0, setS, List.getElem?_cons_zero, List.getElem?_cons_succ, opt_some, opt_none, v_add_i, v_add_s, v_add_l, v_sub, v_mul_i, v_mul_l, v_mod, v_div, v_shl, v_shr, v_band, v_neg, v_lt, v_lt_s, v_le, v_le_s, v_gt, v_ge, v_eq_i, v_ne_i, v_eq_s, v_ne_s, v_in_l, v_in_s, v_idx, v_idx_s, v_slice, v_len, v_len_s, v_list, v_tuple, v_int, v_abs, v_max, v_min, v_maxL, v_sum, v_append, v_insert, v_popAt, v_pop, v_join, v_toB, v_tru_b, v_aug, v_set, v_ins, ints_bind, strs_bind, lst?_eq, tup?_eq, seq?_eq, lstO_l, lstO_f, lstW_l, tupO_t, seqO_l, seqO_t, insO_i, upd_same, upd_old, Option.isSome_some, List.length_map, wipe_one, Int.zero_add, Int.toNat_natCast, true_and]))
local macro_rules | `(tactic| walk_at "runs") => `(tactic| (try simp only [r_seq, r_next, r_cont, r_break, r_asg, r_name, r_sub, r_drop, r_ret, r_retN, r_if, r_ite, r_never, r_var, r_c, r_bin, r_un, r_tB, r_T, r_chain, r_and, r_or, r_not, r_andV, r_orV, r_notV, r_nil, r_cons, r_lst, r_tup, r_cb, r_call, r_lm, r_sm, r_fld, r_prop, r_meth, r_setF, r_aug, r_slice, r_no, r_some, r_revS, r_listR, r_g2, r_yes, r_for, r_comp, r_iter, r_iter', r_iterT, r_iterS, r_rng1, r_rng2, r_rngD, r_enum, r_zip, set0, setS, List.getElem?_cons_zero, List.getElem?_cons_succ, opt_some, opt_none, v_add_i, v_add_s, v_add_l, v_sub, v_mul_i, v_mul_l, v_mod, v_div, v_shl, v_shr, v_band, v_neg, v_lt, v_lt_s, v_le, v_le_s, v_gt, v_ge, v_eq_i, v_ne_i, v_eq_s, v_ne_s, v_in_l, v_in_s, v_idx, v_idx_s, v_slice, v_len, v_len_s, v_list, v_tuple, v_int, v_abs, v_max, v_min, v_maxL, v_sum, v_append, v_insert, v_popAt, v_pop, v_join, v_toB, v_tru_b, v_aug, v_set, v_ins, ints_bind, strs_bind, lst?_eq, tup?_eq, seq?_eq, lstO_l, lstO_f, lstW_l, tupO_t, seqO_l, seqO_t, insO_i, upd_same, upd_old, Option.isSome_some, List.length_map, wipe_one, Int.zero_add, Int.toNat_natCast, true_and, *]))
theorem emp_str : (("" : String) : Str) = ⟨#[]⟩ := by decide +kernel
theorem abc_str : (("abcdefghijklmnopqrstuvwxyz" : String) : Str) = ⟨((List.range 26).map (97 + ·)).toArray⟩ := by decide +kernel
theorem join_cps (ys : List Str) : (Txt.join ⟨#[]⟩ ys).cps.toList = (ys.map fun y => y.cps.toList).flatten := by
  show (Builtin.Str.glued ⟨#[]⟩ ys).cps.toList = _
  rw [StrLaws.glued_eq_join]
  induction ys with
  | nil => rfl
  | cons x r ih =>
    cases r with
    | nil => show x.cps.toList = _; simp
    | cons y t =>
      show ((x.cps ++ #[]) ++ (Str.join ⟨#[]⟩ (y :: t)).cps).toList = _
      rw [Array.toList_append, ih]
      simp
theorem join_has (ys : List Str) (k : Nat) : k ∈ (Txt.join ⟨#[]⟩ ys).cps.toList ↔ ∃ w ∈ ys, has w k = true := by
  rw [join_cps, List.mem_flatten]
  unfold has
  constructor
  · rintro ⟨l, hl, hk⟩
    obtain ⟨w, hw, rfl⟩ := List.mem_map.mp hl
    exact ⟨w, hw, decide_eq_true hk⟩
  · rintro ⟨w, hw, hk⟩
    exact ⟨_, List.mem_map.mpr ⟨w, hw, rfl⟩, of_decide_eq_true hk⟩
theorem join_ones' (l : List Nat) : Txt.join ⟨#[]⟩ (l.map one) = ⟨l.toArray⟩ := by
  have h := join_cps (l.map one)
  have e : ((l.map one).map fun y => y.cps.toList).flatten = l := by
    induction l with
    | nil => rfl
    | cons a r ih => rw [List.map_cons, List.map_cons, List.flatten_cons, ih (join_cps _)]; rfl
  rw [e] at h
  cases hz : Txt.join ⟨#[]⟩ (l.map one) with
  | mk a =>
    rw [hz] at h
    congr 1
    exact Array.toList_inj.mp (by rw [List.toList_toArray]; exact h)
theorem sum_len : ∀ (l : List Str) (n : Nat), (∀ w ∈ l, w.length ≤ n) → (l.map (·.length)).sum ≤ l.length * n
  | [], n, _ => by simp
  | a :: r, n, h => by
    have i := sum_len r n fun w hw => h w (List.mem_cons_of_mem _ hw)
    have j := h a (List.mem_cons_self ..)
    rw [List.map_cons, List.sum_cons, List.length_cons, Nat.add_mul]
    omega
theorem lk_w {v : V} : ([("_words", v)] : List (Str × V)).lookup ("_words" : Str) = some v := by
  show (match ("_words" : Str) == ("_words" : Str) with | true => some v | false => none) = some v
  rw [beq_self_eq_true]
theorem pf_w {v : V} : putF "_words" v [] = ([(("_words" : Str), v)] : List (Str × V)) := rfl
theorem iscal_same {c : CA} {H H' : Hp} {x : Addr} {ws : List Str} (h : IsCal c H x ws) (s : Same H H') : IsCal c H' x ws := by
  obtain ⟨dx, t, h1, h2⟩ := h
  exact ⟨dx, t, s _ _ h1, s _ _ h2⟩
theorem mk_cal {c : CA} {H : Hp} {Q : VK} {E : XK} {l : Addr} {ws : List Str} (hl : H l = some (.lst (ws.map V.str))) (ok : OkW ws) (hr : ∀ w ∈ ws, rising [] w.cps.toList = true) (q : ∀ H' x, Same H H' → H x = none → IsCal c H' x ws → Q (.ref x) H') : mkOf c.Calendar (sp_Calendar___init__ c) [.ref l] H Q E := by
  intro x dx hx hdx ne
  have hdx' : (upd H dx (.own x)) x = none := by rw [upd_ne ne.symm]; exact hx
  refine ⟨x, dx, l, ws, rfl, upd_same, upd_old' hdx' (upd_old' hdx hl), ok, hr, fun H' t s h1 h2 => ⟨rfl, q H' x (fun b o e => ?_) hx ⟨dx, t, h1, h2⟩⟩⟩
  refine s b o (ne_of_none e hx) ?_
  rw [upd_ne (ne_of_none e hx), upd_ne (ne_of_none e hdx)]
  exact e
section
variable {c : CA} {vs : List V} {H : Hp} {Q : VK} {E : XK}
theorem sem_is_rising (h : sp_is_rising c vs H Q E) : t_is_rising c E (De Q) (start ["word", "before", "letter"] vs) H := by
  obtain ⟨z, rfl, hz, q⟩ := h
  show t_is_rising c E _ [some (.str z), none, none] H
  unfold t_is_rising
  rw [emp_str, abc_str]
  walk_at "run"
  refine for_str (P := fun i σ H' => ∃ b v2, σ = [some (.str z), some (.str b), v2] ∧ H = H' ∧ rising b.cps.toList (z.cps.toList.drop i) = true) ⟨_, none, rfl, rfl, by simpa using hz⟩ (fun i k σ H' N hk ⟨b, v2, e1, e2, hr⟩ hN => ?_) (fun σ H' ⟨b, v2, e1, e2, hr⟩ => ?_)
  · subst e1 e2
    have hi : i < z.cps.toList.length := (List.getElem?_eq_some_iff.mp hk).1
    rw [List.drop_eq_getElem_cons hi] at hr
    have ek : z.cps.toList[i] = k := (List.getElem?_eq_some_iff.mp hk).2
    rw [ek] at hr
    unfold rising at hr
    simp only [Bool.and_eq_true, decide_eq_true_eq] at hr
    obtain ⟨⟨⟨h1, h2⟩, h3⟩, h4⟩ := hr
    have hin : k ∈ (List.range 26).map (97 + ·) := List.mem_map.mpr ⟨k - 97, List.mem_range.mpr (by omega), by omega⟩
    walk_at "run"
    simp only [hin, decide_true, Bool.not_true, Bool.false_eq_true, if_false, if_true]
    walk_at "run"
    simp only [List.toList_toArray, h3, decide_true, Bool.not_true, Bool.false_eq_true, if_false]
    try (walk_at "run")
    exact hN _ _ ⟨_, _, rfl, rfl, h4⟩
  · subst e1 e2
    walk_at "run"
    exact q
theorem sem_Calendar_init (h : sp_Calendar___init__ c vs H Q E) : t_Calendar___init__ c E (De Q) (start ["self", "words", "place", "word"] vs) H := by
  obtain ⟨x, dx, l, ws, rfl, hx, hl, ok, hr, q⟩ := h
  show t_Calendar___init__ c E _ [some (.ref x), some (.ref l), none, none] H
  unfold t_Calendar___init__
  have a0 := ok.pos
  have a6 := ok.p6
  have a1 : (1 : Int) ≤ ws.length := by omega
  have a2 : (ws.length : Int) ≤ 6 := by omega
  have nlx : l ≠ x := fun e => by rw [e, hx] at hl; cases hl
  walk_at "runs"
  simp only [a1, a2, decide_true, if_true, Bool.not_true, Bool.false_eq_true, if_false]
  walk_at "runs"
  refine for_enm (P := fun i σ H' => ∃ v2 v3, σ = [some (.ref x), some (.ref l), v2, v3] ∧ Same H H') ⟨none, none, rfl, fun _ _ e => e⟩ (fun i σ H' ⟨_, _, _, s⟩ => lst?_of (s _ _ hl)) (fun i y T σ H' N hy ⟨v2, v3, e1, s⟩ hT hN => ?_) (fun σ H' ⟨v2, v3, e1, s⟩ => ?_)
  · subst e1
    rw [List.getElem?_map] at hy
    cases hw : ws[i]? with
    | none => rw [hw] at hy; cases hy
    | some w =>
      rw [hw] at hy
      cases hy
      walk_at "run"
      refine ⟨w, rfl, hr w (List.mem_of_getElem? hw), ?_⟩
      walk_at "run"
      simp only [Bool.not_true, Bool.false_eq_true, if_false]
      exact hN _ _ ⟨_, _, rfl, s.trans (same_upd hT)⟩
  · subst e1
    have hl' := s _ _ hl
    have hx' := s _ _ hx
    walk_at "run"
    simp only [hl', seqO_l, opt_some]
    intro t ht
    have nxt : x ≠ t := ne_of_none hx' ht
    walk_at "run"
    simp only [upd_old' ht hx', insO_i, opt_some, pf_w]
    refine ⟨by decide, q _ t (fun b o nb e => ?_) upd_same ?_⟩
    · rw [upd_ne nb]; exact upd_old' ht (s _ _ e)
    · rw [upd_ne nxt.symm]; exact upd_same
theorem bitAnd_one (n : Nat) : Builtin.bitAnd (n : Int) 1 = ((n % 2 : Nat) : Int) := by
  have : (1 : Int) = ((1 : Nat) : Int) := rfl
  unfold Builtin.bitAnd
  have h : decide (0 ≤ (n : Int)) = true := decide_eq_true (by omega)
  have h2 : decide ((0 : Int) ≤ 1) = true := by decide
  rw [h, h2]
  show (((n : Int).toNat &&& (1 : Int).toNat : Nat) : Int) = _
  rw [Int.toNat_natCast]
  show ((n &&& 1 : Nat) : Int) = _
  rw [Nat.and_one_is_mod]
theorem every_ok {P : Nat} (h0 : 0 < P) (h4 : P ≤ 4) : (everyW P).length = P ∧ (∀ w ∈ everyW P, w.length ≤ 26) ∧ ∀ w ∈ everyW P, rising [] w.cps.toList = true := by
  have : P = 1 ∨ P = 2 ∨ P = 3 ∨ P = 4 := by omega
  rcases this with rfl | rfl | rfl | rfl <;> decide +kernel
theorem okW_every {P : Nat} (h0 : 0 < P) (h4 : P ≤ 4) : OkW (everyW P) := by
  obtain ⟨h1, h2, _⟩ := every_ok h0 h4
  exact ⟨by omega, by omega, h2⟩
theorem sem_Calendar_every (h : sp_Calendar_every c vs H Q E) : t_Calendar_every c E (De Q) (start ["places", "words", "place", "code", "signs"] vs) H := by
  obtain ⟨P, rfl, hP, p4, q⟩ := h
  show t_Calendar_every c E _ [some (.int P), none, none, none, none] H
  unfold t_Calendar_every
  rw [emp_str, abc_str]
  have a1 : (1 : Int) ≤ P := by omega
  have a2 : (P : Int) ≤ 4 := by omega
  have rs : rngOk (P : Int) := rng_small (by omega) (by omega)
  walk_at "run"
  simp only [a1, a2, decide_true, if_true, Bool.not_true, Bool.false_eq_true, if_false]
  walk_at "run"
  refine ⟨by decide, fun D hD => ?_⟩
  walk_at "run"
  refine ⟨rs, ?_⟩
  refine for_rng (P := fun i σ H' => ∃ v2 v4, σ = [some (.int P), some (.ref D), v2, none, v4] ∧ H' D = some (.lst (((everyW P).take i).map V.str)) ∧ ∀ b o, b ≠ D → H b = some o → H' b = some o) ⟨none, none, rfl, upd_same, fun b o nb e => by rw [upd_ne nb]; exact e⟩ (fun i σ H' N hi ⟨v2, v4, e1, hD', s⟩ hN => ?_) (fun σ H' ⟨v2, v4, e1, hD', s⟩ => ?_)
  · subst e1
    have cp : CPow 1 (P : Int) := ⟨by omega, by omega, by decide⟩
    have e2 : (1 : Int) * 2 ^ P - 1 = ((2 ^ P - 1 : Nat) : Int) := by
      have : P = 1 ∨ P = 2 ∨ P = 3 ∨ P = 4 := by omega
      rcases this with rfl | rfl | rfl | rfl <;> decide
    have r16 : (2 : Nat) ^ P ≤ 16 := by
      have : P = 1 ∨ P = 2 ∨ P = 3 ∨ P = 4 := by omega
      rcases this with rfl | rfl | rfl | rfl <;> decide
    have e3 : (1 : Int) * 2 ^ P = ((2 ^ P : Nat) : Int) := by simp
    have rs2 : rngOk ((1 : Int) * 2 ^ P) := by rw [e3]; exact rng_small (by omega) (by omega)
    have rs1 : rngOk (1 : Int) := rng_small (by decide) (by decide)
    walk_at "run"
    refine ⟨cp, ⟨rs1, rs2⟩, fun B hB => ?_⟩
    have nDB : D ≠ B := ne_of_none hD' hB
    refine lc_filt (2 ^ P - 1) (by show (((1 : Int) * 2 ^ P) - 1).toNat = _; rw [e2]; rfl) (fun j => (j + 1) / 2 ^ i % 2 == 1) (fun j => .str (one (97 + j))) (fun acc => trivial) (fun j acc KK R hj hn hy => ?_) (small_line (by omega)) ?_
    · simp only [fiR]
      have ej : (1 : Int) + (j : Int) = ((j + 1 : Nat) : Int) := by omega
      have ediv : ((j + 1 : Nat) : Int) / 2 ^ i = (((j + 1) / 2 ^ i : Nat) : Int) := by
        rw [Int.natCast_ediv]; simp
      have nn : (0 : Int) ≤ (i : Int) := by omega
      walk_at "run"
      simp only [nn, true_and, ej, ediv, bitAnd_one]
      walk_at "run"
      have idx : atI ((List.range 26).map (97 + ·)) (((j + 1 : Nat) : Int) - 1) = some (97 + j) := by
        have : (((j + 1 : Nat) : Int) - 1) = (j : Int) := by omega
        rw [this]
        unfold atI
        rw [ixN_of (by omega) (by rw [List.length_map, List.length_range]; omega), Option.bind_some, Int.toNat_natCast, List.getElem?_map, List.getElem?_range (by omega)]
        rfl
      by_cases hb : (j + 1) / 2 ^ i % 2 = 1
      · have hb' : (((j + 1) / 2 ^ i % 2 : Nat) : Int) = 1 := by omega
        simp only [hb', decide_true, if_true, List.toList_toArray, idx, opt_some]
        refine ⟨by decide +kernel, hy ?_⟩
        simp [hb]
      · have hb' : ¬ (((j + 1) / 2 ^ i % 2 : Nat) : Int) = 1 := by omega
        simp only [hb', decide_false, Bool.false_eq_true, if_false]
        exact hn (by simp [hb])
    · have em : (((List.range (2 ^ P - 1)).filter fun j => (j + 1) / 2 ^ i % 2 == 1).map fun j => V.str (one (97 + j))) = ((((List.range (2 ^ P - 1)).filter fun j => (j + 1) / 2 ^ i % 2 == 1).map (97 + ·)).map one).map V.str := by
        rw [List.map_map, List.map_map]; rfl
      rw [em]
      have hD2 : ∀ o, upd H' B o D = some (.lst (((everyW P).take i).map V.str)) := fun o => upd_old' hB hD'
      have le := (every_ok hP p4).1
      have nxt : (everyW P).take (i + 1) = (everyW P).take i ++ [⟨(((List.range (2 ^ P - 1)).filter fun j => (j + 1) / 2 ^ i % 2 == 1).map (97 + ·)).toArray⟩] := by
        rw [List.take_add_one]
        congr 1
        unfold everyW
        rw [List.getElem?_map, List.getElem?_range hi]; rfl
      generalize hl : ((List.range (2 ^ P - 1)).filter fun j => (j + 1) / 2 ^ i % 2 == 1).map (97 + ·) = L at *
      have hL : L.length ≤ 16 := by
        rw [← hl, List.length_map]
        have := List.length_filter_le (fun j => (j + 1) / 2 ^ i % 2 == 1) (List.range (2 ^ P - 1))
        rw [List.length_range] at this
        omega
      walk_at "run"
      simp only [hD2, lstO_l, opt_some, strs_bind, join_ones']
      have hs : ((L.map one).map (·.length)).sum + (L.map one).length * (⟨#[]⟩ : Str).length ≤ 16777216 := by
        have a := sum_len (L.map one) 1 (fun w hw => by obtain ⟨k, _, rfl⟩ := List.mem_map.mp hw; exact Nat.le_refl _)
        rw [List.length_map] at a ⊢
        show _ + L.length * 0 ≤ _
        omega
      refine ⟨hs, ?_⟩
      walk_at "run"
      try simp only [hD2, lstW_l, opt_some]
      refine ⟨?_, hN _ _ ⟨_, _, rfl, ?_, fun b o nb e => ?_⟩⟩
      · rw [List.length_take]
        exact small_line (by omega)
      · rw [upd_same, nxt, List.map_append]; rfl
      · rw [upd_ne nb]
        exact upd_old' hB (s b o nb e)
  · subst e1
    have le := every_ok hP p4
    have et : (everyW P).take P = everyW P := by
      rw [List.take_of_length_le (by omega)]
    rw [et] at hD'
    walk_at "run"
    have sa : Same H H' := fun b o e => s b o (ne_of_none e hD) e
    refine mk_cal hD' (okW_every hP p4) le.2.2 fun H2 x s2 nx hx => q H2 x (sa.trans s2) (none_back sa nx) hx
theorem sem_Calendar_places (h : sp_Calendar_places c vs H Q E) : t_Calendar_places c E (De Q) (start ["self"] vs) H := by
  obtain ⟨x, ws, rfl, ⟨dx, t, hx, ht⟩, q⟩ := h
  show t_Calendar_places c E _ [some (.ref x)] H
  unfold t_Calendar_places
  walk_at "run"
  simp only [hx, insO_i, opt_some, lk_w, v_len, ht, seqO_l, List.length_map]
  exact q
theorem sem_Calendar_signs (h : sp_Calendar_signs c vs H Q E) : t_Calendar_signs c E (De Q) (start ["self", "standing", "letter"] vs) H := by
  obtain ⟨x, ws, rfl, ⟨dx, t, hx, ht⟩, ok, q⟩ := h
  show t_Calendar_signs c E _ [some (.ref x), none, none] H
  unfold t_Calendar_signs
  rw [emp_str, abc_str]
  have hs : (ws.map (·.length)).sum + ws.length * (⟨#[]⟩ : Str).length ≤ 16777216 := by
    have a := sum_len ws 26 ok.short
    have b := ok.p6
    show _ + ws.length * 0 ≤ _
    omega
  walk_at "run"
  simp only [hx, insO_i, opt_some, lk_w, v_join, ht, seqO_l, strs_bind]
  refine ⟨hs, ?_⟩
  walk_at "run"
  intro D hD
  refine lc_filt 26 rfl (fun i => ws.any fun w => has w (97 + i)) (fun i => .str (one (97 + i))) (fun acc => trivial) (fun i acc KK R hi hn hy => ?_) (small_line (by decide)) ?_
  · simp only [fiS]
    have e1 : (((List.range 26).map (97 + ·)).toArray)[i]? = some (97 + i) := by
      rw [List.getElem?_toArray, List.getElem?_map, List.getElem?_range hi]; rfl
    rw [e1]
    walk_at "run"
    have hj : (97 + i ∈ (Txt.join ⟨#[]⟩ ws).cps.toList) ↔ (ws.any fun w => has w (97 + i)) = true := by
      rw [join_has, List.any_eq_true]
    by_cases hb : 97 + i ∈ (Txt.join ⟨#[]⟩ ws).cps.toList
    · simp only [hb, decide_true, if_true, Bool.false_eq_true, if_false]
      exact hy (hj.mp hb)
    · simp only [hb, decide_false, if_true, Bool.false_eq_true, if_false]
      exact hn (by
        cases e : (ws.any fun w => has w (97 + i)) with
        | false => rfl
        | true => exact (hb (hj.mpr e)).elim)
  · have em : (((List.range 26).filter fun i => ws.any fun w => has w (97 + i)).map fun i => V.str (one (97 + i))) = (((((List.range 26).map (97 + ·)).filter fun k => ws.any fun w => has w k)).map one).map V.str := by
      rw [List.filter_map, List.map_map, List.map_map]; rfl
    rw [em]
    generalize hL : (((List.range 26).map (97 + ·)).filter fun k => ws.any fun w => has w k) = L
    have hLl : L.length ≤ 26 := by
      rw [← hL]
      have := List.length_filter_le (fun k => ws.any fun w => has w k) ((List.range 26).map (97 + ·))
      rw [List.length_map, List.length_range] at this
      exact this
    walk_at "run"
    simp only [strs_bind, join_ones', opt_some]
    have hs2 : ((L.map one).map (·.length)).sum + (L.map one).length * (⟨#[]⟩ : Str).length ≤ 16777216 := by
      have a := sum_len (L.map one) 1 (fun w hw => by obtain ⟨k, _, rfl⟩ := List.mem_map.mp hw; exact Nat.le_refl _)
      rw [List.length_map] at a ⊢
      show _ + L.length * 0 ≤ _
      omega
    refine ⟨hs2, ?_⟩
    have : (⟨L.toArray⟩ : Str) = signsOf ws := by unfold signsOf; rw [hL]
    rw [this]
    exact q _ (same_upd hD)
end
end Ly

/-! Se7 -/
set_option Elab.async false
set_option linter.all false
set_option maxRecDepth 100000
set_option maxHeartbeats 4000000
namespace Ly
open PySem PySem.Spec PyProof.Rows L2 M
local macro_rules | `(tactic| walk_at "run") => `(tactic| (try simp only [r_seq, r_next, r_cont, r_break, r_asg, r_name, r_sub, r_drop, r_ret, r_retN, r_if, r_ite, r_never, r_var, r_c, r_bin, r_un, r_tB, r_T, r_chain, r_and, r_or, r_not, r_andV, r_orV, r_notV, r_nil, r_cons, r_lst, r_tup, r_cb, r_call, r_lm, r_sm, r_fld, r_prop, r_meth, r_setF, r_aug, r_slice, r_no, r_some, r_revS, r_listR, r_g2, r_yes, r_for, r_comp, r_iter, r_iter', r_iterT, r_iterS, r_rng1, r_rng2, r_rngD, r_enum, r_zip, set0, setS, List.getElem?_cons_zero, List.getElem?_cons_succ, opt_some, opt_none, v_add_i, v_add_s, v_add_l, v_sub, v_mul_i, v_mul_l, v_mod, v_div, v_shl, v_shr, v_band, v_neg, v_lt, v_lt_s, v_le, v_le_s, v_gt, v_ge, v_eq_i, v_ne_i, v_eq_s, v_ne_s, v_in_l, v_in_s, v_idx, v_idx_s, v_slice, v_len, v_len_s, v_list, v_tuple, v_int, v_abs, v_max, v_min, v_maxL, v_sum, v_append, v_insert, v_popAt, v_pop, v_join, v_toB, v_tru_b, v_aug, v_set, v_ins, ints_bind, strs_bind, lst?_eq, tup?_eq, seq?_eq, lstO_l, lstO_f, lstW_l, tupO_t, seqO_l, seqO_t, insO_i, upd_same, upd_old, Option.isSome_some, List.length_map, wipe_one, Int.zero_add, Int.toNat_natCast, true_and]))
local macro_rules | `(tactic| walk_at "runs") => `(tactic| (try simp only [r_seq, r_next, r_cont, r_break, r_asg, r_name, r_sub, r_drop, r_ret, r_retN, r_if, r_ite, r_never, r_var, r_c, r_bin, r_un, r_tB, r_T, r_chain, r_and, r_or, r_not, r_andV, r_orV, r_notV, r_nil, r_cons, r_lst, r_tup, r_cb, r_call, r_lm, r_sm, r_fld, r_prop, r_meth, r_setF, r_aug, r_slice, r_no, r_some, r_revS, r_listR, r_g2, r_yes, r_for, r_comp, r_iter, r_iter', r_iterT, r_iterS, r_rng1, r_rng2, r_rngD, r_enum, r_zip, set0, setS, List.getElem?_cons_zero, List.getElem?_cons_succ, opt_some, opt_none, v_add_i, v_add_s, v_add_l, v_sub, v_mul_i, v_mul_l, v_mod, v_div, v_shl, v_shr, v_band, v_neg, v_lt, v_lt_s, v_le, v_le_s, v_gt, v_ge, v_eq_i, v_ne_i, v_eq_s, v_ne_s, v_in_l, v_in_s, v_idx, v_idx_s, v_slice, v_len, v_len_s, v_list, v_tuple, v_int, v_abs, v_max, v_min, v_maxL, v_sum, v_append, v_insert, v_popAt, v_pop, v_join, v_toB, v_tru_b, v_aug, v_set, v_ins, ints_bind, strs_bind, lst?_eq, tup?_eq, seq?_eq, lstO_l, lstO_f, lstW_l, tupO_t, seqO_l, seqO_t, insO_i, upd_same, upd_old, Option.isSome_some, List.length_map, wipe_one, Int.zero_add, Int.toNat_natCast, true_and, *]))
theorem sign_in {ws : List Str} {k : Nat} (h : sign ws k) : k ∈ (signsOf ws).cps.toList := by
  obtain ⟨h1, h2, w, hw, hk⟩ := h
  show k ∈ ((((List.range 26).map (97 + ·)).filter fun k => ws.any fun w => has w k).toArray).toList
  rw [List.toList_toArray, List.mem_filter]
  exact ⟨List.mem_map.mpr ⟨k - 97, List.mem_range.mpr (by omega), by omega⟩, List.any_eq_true.mpr ⟨w, hw, hk⟩⟩
theorem standsL_ok {ws : List Str} {k : Nat} (h : ∃ w ∈ ws, has w k = true) : OkS ws.length (standsL ws k) := by
  obtain ⟨w, hw, hk⟩ := h
  obtain ⟨i, hi, e⟩ := List.getElem_of_mem hw
  constructor
  · intro z
    have : (i : Int) ∈ standsL ws k := List.mem_map.mpr ⟨i, List.mem_filter.mpr ⟨List.mem_range.mpr hi, by
      rw [List.getD_eq_getElem?_getD, List.getElem?_eq_getElem hi, Option.getD_some, e]; exact hk⟩, rfl⟩
    rw [z] at this
    cases this
  · intro s hs
    obtain ⟨j, hj, rfl⟩ := List.mem_map.mp hs
    have := List.mem_range.mp (List.mem_filter.mp hj).1
    exact ⟨by omega, by omega⟩
theorem pageA_ok {ws : List Str} {z : Str} (h : OkZ ws z) : PG ws.length (pageA ws z) := by
  refine ⟨h.w.pos, h.w.p6, fun S hS => ?_, ?_⟩
  · obtain ⟨k, hk, rfl⟩ := List.mem_map.mp hS
    exact standsL_ok (h.sg k hk).2.2
  · show (z.cps.toList.map _).length ≤ 16
    rw [List.length_map, Array.length_toList]
    exact h.l16
theorem atI_cps {z : Str} {i : Nat} (h : i < z.length) : atI z.cps.toList (i : Int) = some (z.cps.toList[i]'(by rw [Array.length_toList]; exact h)) := by
  have h' : i < z.cps.toList.length := by rw [Array.length_toList]; exact h
  unfold atI
  rw [ixN_of (by omega) (by omega), Option.bind_some, Int.toNat_natCast, List.getElem?_eq_getElem h']
section
variable {c : CA} {vs : List V} {H : Hp} {Q : VK} {E : XK}
theorem sem_Calendar_stands (h : sp_Calendar_stands c vs H Q E) : t_Calendar_stands c E (De Q) (start ["self", "sign", "places", "place", "word"] vs) H := by
  obtain ⟨x, ws, k, rfl, ⟨dx, t, hx, ht⟩, ok, hk, q⟩ := h
  show t_Calendar_stands c E _ [some (.ref x), some (.str (one k)), none, none, none] H
  unfold t_Calendar_stands
  have l1 : (one k).length = 1 := rfl
  have p6 := ok.p6
  walk_at "run"
  refine ⟨by decide, fun D hD => ?_⟩
  have hx' := upd_old' (o := .lst []) hD hx
  have ht' := upd_old' (o := .lst []) hD ht
  walk_at "run"
  simp only [hx', insO_i, opt_some, lk_w, lst?_eq, ht', lstO_l]
  refine for_enm (P := fun i σ H' => ∃ v3 v4, σ = [some (.ref x), some (.str (one k)), some (.ref D), v3, v4] ∧ H' D = some (.lst ((((List.range i).filter fun p => has (ws.getD p ⟨#[]⟩) k).map fun p : Nat => (p : Int)).map V.int)) ∧ ∀ b o, b ≠ D → H b = some o → H' b = some o)
    ⟨none, none, rfl, upd_same, fun b o nb e => by rw [upd_ne nb]; exact e⟩ (fun i σ H' ⟨_, _, _, _, s⟩ => lst?_of (s _ _ (ne_of_none ht hD) ht)) (fun i y T σ H' N hy ⟨v3, v4, e1, hD', s⟩ hT hN => ?_) (fun σ H' ⟨v3, v4, e1, hD', s⟩ => ?_)
  · subst e1
    rw [List.getElem?_map] at hy
    cases hw : ws[i]? with
    | none => rw [hw] at hy; cases hy
    | some w =>
      rw [hw] at hy
      cases hy
      have hi : i < ws.length := (List.getElem?_eq_some_iff.mp hw).1
      have eg : ws.getD i ⟨#[]⟩ = w := by rw [List.getD_eq_getElem?_getD, hw]; rfl
      have nDT : D ≠ T := ne_of_none hD' hT
      have hD2 : ∀ o, upd H' T o D = H' D := fun o => upd_ne nDT
      have len : ((List.range i).filter fun p => has (ws.getD p ⟨#[]⟩) k).length ≤ i := by
        have := List.length_filter_le (fun p => has (ws.getD p ⟨#[]⟩) k) (List.range i)
        rw [List.length_range] at this
        exact this
      walk_at "run"
      simp only [l1]
      refine ⟨by decide +kernel, ?_⟩
      have e11 : (((1 : Nat) : Int) = 1) = True := by simp
      simp only [e11, decide_true, if_true]
      walk_at "run"
      by_cases hb : k ∈ w.cps.toList
      · simp only [hb, decide_true, if_true, Bool.false_eq_true, if_false]
        walk_at "run"
        simp only [hD2, hD', lstO_l, lstW_l, opt_some, List.length_map]
        refine ⟨small_line (by omega), hN _ _ ⟨_, _, rfl, ?_, fun b o nb e => ?_⟩⟩
        · have pe : (fun p => has (ws.getD p ⟨#[]⟩) k) i = true := by show has (ws.getD i _) k = true; rw [eg]; exact decide_eq_true hb
          rw [upd_same, List.range_succ, List.filter_append, List.filter_cons_of_pos (p := fun p => has (ws.getD p ⟨#[]⟩) k) (a := i) (l := []) pe, List.filter_nil, List.map_append, List.map_append]
          rfl
        · rw [upd_ne nb]
          exact upd_old' hT (s b o nb e)
      · simp only [hb, decide_false, Bool.false_eq_true, if_false]
        try (walk_at "run")
        refine hN _ _ ⟨_, _, rfl, ?_, fun b o nb e => upd_old' hT (s b o nb e)⟩
        have pe : ¬ (fun p => has (ws.getD p ⟨#[]⟩) k) i = true := by
          show ¬ has (ws.getD i _) k = true
          rw [eg]
          exact fun h => hb (of_decide_eq_true h)
        rw [hD2, hD', List.range_succ, List.filter_append, List.filter_cons_of_neg (p := fun p => has (ws.getD p ⟨#[]⟩) k) (a := i) (l := []) pe, List.filter_nil, List.append_nil]
  · subst e1
    rw [List.length_map] at hD'
    have hD2 : H' D = some (.lst ((standsL ws k).map V.int)) := hD'
    have nz : 0 < (standsL ws k).length := List.length_pos_iff.mpr (standsL_ok hk).1
    have nz' : ¬ ((standsL ws k).length : Int) = 0 := by omega
    walk_at "run"
    simp only [hD2, seqO_l, opt_some, List.length_map, v_eq_i, v_toB, nz', decide_false, Bool.false_eq_true, if_false]
    walk_at "run"
    exact q H' D (fun b o e => s b o (ne_of_none e hD) e) hD hD2
theorem sem_check_page (h : sp_check_page c vs H Q E) : t_check_page c E (De Q) (start ["calendar", "page", "known", "index"] vs) H := by
  obtain ⟨x, ws, z, rfl, hc, ok, q⟩ := h
  show t_check_page c E _ [some (.ref x), some (.str z), none, none] H
  unfold t_check_page
  obtain ⟨dx, t, hx, ht⟩ := id hc
  have l16 := ok.l16
  walk_at "run"
  simp only [hx, insO_i, opt_some]
  refine ⟨x, ws, rfl, hc, ok.w, fun H1 s1 => ?_⟩
  have zl : z.length ≤ sizeLine := Nat.le_of_lt (small_line (by omega))
  have rs : rngOk (z.length : Int) := rng_small (by omega) (by omega)
  walk_at "run"
  refine ⟨zl, rs, ?_⟩
  refine for_rng (P := fun i σ H' => ∃ v3, σ = [some (.ref x), some (.str z), some (.str (signsOf ws)), v3] ∧ H1 = H') ⟨none, rfl, rfl⟩ (fun i σ H' N hi ⟨v3, e1, e2⟩ hN => ?_) (fun σ H' ⟨v3, e1, e2⟩ => ?_)
  · subst e1 e2
    have hin := sign_in (ok.sg _ (List.getElem_mem (show i < z.cps.toList.length by rw [Array.length_toList]; exact hi)))
    walk_at "run"
    simp only [atI_cps hi, opt_some]
    refine ⟨zl, ?_⟩
    walk_at "run"
    simp only [hin, decide_true, if_true, Bool.not_true, Bool.false_eq_true, if_false]
    exact hN _ _ ⟨_, rfl, rfl⟩
  · subst e1 e2
    have n16 : ¬ (16 : Int) < (z.length : Int) := by omega
    walk_at "run"
    refine ⟨zl, ?_⟩
    simp only [n16, decide_false, Bool.false_eq_true, if_false]
    exact q H1 s1
theorem sem_sets_of (h : sp_sets_of c vs H Q E) : t_sets_of c E (De Q) (start ["calendar", "page", "sign"] vs) H := by
  obtain ⟨x, ws, z, rfl, hc, ok, q⟩ := h
  show t_sets_of c E _ [some (.ref x), some (.str z), none] H
  unfold t_sets_of
  have l16 := ok.l16
  walk_at "run"
  refine ⟨x, ws, z, rfl, hc, ok, fun H1 s1 => ?_⟩
  have hc1 := iscal_same hc s1
  walk_at "run"
  intro D hD
  have zlen : z.cps.toList.length = z.length := Array.length_toList
  refine lc_inv (P := fun i H' => (∀ b o, b ≠ D → H1 b = some o → H' b = some o) ∧ ∃ bs : List Addr, H' D = some (.lst (bs.map V.ref)) ∧ bs.length = i ∧ ∀ (j : Nat) (b : Addr) (S : List Int), bs[j]? = some b → (pageA ws z)[j]? = some S → IL H' b S ∧ b ≠ D)
    ⟨fun b o nb e => by rw [upd_ne nb]; exact e, [], upd_same, rfl, fun j b S hb _ => by cases hb⟩ (fun i H' N hi ⟨s, bs, hD', lb, hbs⟩ hN => ⟨trivial, ?_⟩) (fun H' ⟨s, bs, hD', lb, hbs⟩ => ⟨trivial, ?_⟩)
  · have hi' : i < z.cps.size := hi
    have e : z.cps[i]? = some z.cps[i] := by simp [hi']
    have hm : z.cps[i] ∈ z.cps.toList := by simp
    simp only [fiS]
    rw [e]
    walk_at "run"
    have s' : Same H1 H' := fun b o e => s b o (ne_of_none e hD) e
    have hc' := iscal_same hc1 s'
    obtain ⟨dx, t, hx, ht⟩ := id hc'
    simp only [hx, insO_i, opt_some]
    have lk : ([("_words", V.ref t)] : List (Str × V)).lookup ("stands" : Str) = none := by
      show (match ("stands" : Str) == ("_words" : Str) with | true => some (V.ref t) | false => none) = none
      rw [show (("stands" : Str) == ("_words" : Str)) = false by decide +kernel]
    refine ⟨lk, x, ws, z.cps[i], rfl, hc', ok.w, (ok.sg _ hm).2.2, fun H4 p s4 np hp => ?_⟩
    have nDp : D ≠ p := ne_of_none hD' np
    have hD4 := s4 _ _ hD'
    refine ⟨bs.map V.ref, hD4, ?_, hN _ ⟨fun b o nb e => ?_, bs ++ [p], ?_, by simp [lb], ?_⟩⟩
    · rw [List.length_map, lb]
      exact small_line (by have : z.length = z.cps.size := rfl; omega)
    · rw [upd_ne nb]
      exact s4 _ _ (s b o nb e)
    · rw [upd_same, List.map_append]; rfl
    · intro j b S hb hS
      rw [List.getElem?_append] at hb
      by_cases hj : j < bs.length
      · rw [if_pos hj] at hb
        obtain ⟨r1, r2⟩ := hbs j b S hb hS
        refine ⟨?_, r2⟩
        show upd _ _ _ _ = _
        rw [upd_ne r2]
        exact s4 _ _ r1
      · rw [if_neg hj] at hb
        have e0 : j = i := by
          have := (List.getElem?_eq_some_iff.mp hb).1
          simp at this
          omega
        subst e0
        rw [lb, Nat.sub_self] at hb
        cases hb
        refine ⟨?_, nDp.symm⟩
        show upd _ _ _ _ = _
        rw [upd_ne nDp.symm]
        have eS : S = standsL ws z.cps[j] := by
          unfold pageA at hS
          rw [List.getElem?_map, List.getElem?_eq_getElem (by rw [zlen]; exact hi')] at hS
          cases hS
          rw [Array.getElem_toList]
        rw [eS]
        exact hp
  · refine q H' D (s1.trans fun b o e => s b o (ne_of_none e hD) e) (none_back s1 hD) ⟨bs, hD', ?_, fun j b S hb hS => (hbs j b S hb hS).1⟩
    rw [lb]
    unfold pageA
    rw [List.length_map, zlen]
    rfl
theorem sem_came_of (h : sp_came_of c vs H Q E) : t_came_of c E (De Q) (start ["calendar", "page", "came", "stands"] vs) H := by
  obtain ⟨x, ws, z, rfl, hc, ok, q⟩ := h
  show t_came_of c E _ [some (.ref x), some (.str z), none, none] H
  unfold t_came_of
  obtain ⟨dx, t, hx, ht⟩ := id hc
  have pg := pageA_ok ok
  have p6 := pg.p6
  have hP := pg.pos
  walk_at "run"
  simp only [hx, insO_i, opt_some]
  refine ⟨x, ws, rfl, hc, ?_⟩
  refine ⟨⟨by omega, by omega, by omega, by omega⟩, fun a ha => ?_⟩
  have ec : rgV 0 (ws.length : Int) = (cl (pageF ws.length []) ws.length).map V.int := by
    unfold rgV cl
    rw [List.map_map, Int.sub_zero, Int.toNat_natCast]
    refine List.map_congr_left fun i _ => ?_
    show V.int (0 + (i : Int)) = V.int (i : Int)
    rw [Int.zero_add]
  rw [ec]
  have hc1 := iscal_same hc (same_upd (o := .lst ((cl (pageF ws.length []) ws.length).map V.int)) ha)
  walk_at "run"
  refine ⟨x, ws, z, rfl, hc1, ok, fun H2 p s2 np ⟨bs, hp, hlen, hbs⟩ => ?_⟩
  walk_at "run"
  simp only [hp, lstO_l, opt_some]
  have ha2 := s2 _ _ (upd_same (H := H) (a := a) (o := .lst ((cl (pageF ws.length []) ws.length).map V.int)))
  generalize hA : pageA ws z = A at *
  have okA := pg.ok
  refine for_lst (P := fun i σ H' => ∃ r v3, σ = [some (.ref x), some (.str z), some (.ref r), v3] ∧ Same H2 H' ∧ IL H' r (cl (pageF ws.length (A.take i)) ws.length)) ⟨a, none, rfl, fun _ _ e => e, by rw [List.take_zero]; exact ha2⟩ (fun i σ H' ⟨_, _, _, s, _⟩ => lst?_of (s _ _ hp)) (fun i y σ H' N hy ⟨r, v3, e1, s, hr⟩ hN => ?_) (fun σ H' ⟨r, v3, e1, s, hr⟩ => ?_)
  · subst e1
    rw [List.getElem?_map] at hy
    cases hb : bs[i]? with
    | none => rw [hb] at hy; cases hy
    | some b =>
      rw [hb] at hy
      cases hy
      have hi : i < A.length := by rw [← hlen]; exact (List.getElem?_eq_some_iff.mp hb).1
      have hS := hbs i b A[i] hb (List.getElem?_eq_getElem hi)
      have oS := okA A[i] (List.getElem_mem hi)
      walk_at "run"
      refine ⟨r, b, ws.length, _, A[i], rfl, hr, s _ _ hS, oS, pageF_per _, hP, p6, fun H3 r' s3 nr' hr' => ?_⟩
      walk_at "run"
      refine hN _ _ ⟨_, _, rfl, s.trans s3, ?_⟩
      rw [List.take_add_one, List.getElem?_eq_getElem hi]
      show IL H3 r' (cl (pageF ws.length (A.take i ++ [A[i]])) ws.length)
      rw [pageF_snoc]
      exact hr'
  · subst e1
    rw [List.length_map, hlen, List.take_length] at hr
    walk_at "run"
    exact q H' r ((same_upd ha).trans (s2.trans s)) hr
theorem sem_cast_of (h : sp_cast_of c vs H Q E) : t_cast_of c E (De Q) (start ["calendar", "page"] vs) H := by
  obtain ⟨x, ws, z, rfl, hc, ok, q⟩ := h
  show t_cast_of c E _ [some (.ref x), some (.str z)] H
  unfold t_cast_of
  have pg := pageA_ok ok
  walk_at "run"
  refine ⟨x, ws, z, rfl, hc, ok, fun H1 p s1 hp => ?_⟩
  walk_at "run"
  refine ⟨p, _, _, rfl, hp, vf_page pg.pos pg.ok, pg.p6, fun H2 r s2 nr hr => ?_⟩
  walk_at "run"
  exact mk_cast hr pg.gf fun H' y s ny hy => q H' y (s1.trans (s2.trans s)) (none_back s1 (none_back s2 ny)) hy
end
end Ly

/-! Bd -/
set_option Elab.async false
set_option linter.all false
set_option maxRecDepth 100000
set_option maxHeartbeats 4000000
namespace M
/-- the entries of the pages s .. s + m - 1 -/
def seg (As : List (List (List Int))) (s m : Nat) : List (List Int) := ((As.drop s).take m).flatten
theorem seg_add (As : List (List (List Int))) (s m n : Nat) : seg As s (m + n) = seg As s m ++ seg As (s + m) n := by
  unfold seg
  rw [List.take_add, List.flatten_append, List.drop_drop]
theorem seg_zero (As : List (List (List Int))) (s : Nat) : seg As s 0 = [] := by
  unfold seg
  rw [List.take_zero]; rfl
theorem seg_split (As : List (List (List Int))) (s m : Nat) : As.flatten = (As.take s).flatten ++ (seg As s m ++ (As.drop (s + m)).flatten) := by
  unfold seg
  rw [← List.drop_drop, ← List.flatten_append, List.take_append_drop, ← List.flatten_append, List.take_append_drop]
theorem seg_len (As : List (List (List Int))) (s m : Nat) : (seg As s m).length ≤ As.flatten.length := by
  rw [seg_split As s m, List.length_append, List.length_append]
  omega
theorem seg_ok {P : Nat} {As : List (List (List Int))} (h : OkP P As.flatten) (s m : Nat) : OkP P (seg As s m) := by
  rw [seg_split As s m] at h
  exact h.right.left
theorem seg_one {As : List (List (List Int))} {i : Nat} (h : i < As.length) : seg As i 1 = As[i] := by
  unfold seg
  rw [List.drop_eq_getElem_cons h, List.take_succ_cons, List.take_zero]
  simp
theorem seg_pair (As : List (List (List Int))) (i j : Nat) : seg As (i * 2 ^ (j + 1)) (2 ^ (j + 1)) = seg As (2 * i * 2 ^ j) (2 ^ j) ++ seg As ((2 * i + 1) * 2 ^ j) (2 ^ j) := by
  have e : 2 ^ (j + 1) = 2 ^ j + 2 ^ j := by rw [Nat.pow_succ]; omega
  have e2 : i * 2 ^ (j + 1) = 2 * i * 2 ^ j := by rw [Nat.pow_succ, Nat.mul_comm (2 ^ j) 2, ← Nat.mul_assoc, Nat.mul_comm i 2]
  rw [e2, e, seg_add, Nat.add_mul, Nat.one_mul]
theorem seg_set {As : List (List (List Int))} {n : Nat} {A : List (List Int)} {s m : Nat} (h : n < s ∨ s + m ≤ n) : seg (As.set n A) s m = seg As s m := by
  unfold seg
  congr 1
  refine List.ext_getElem? fun k => ?_
  by_cases hk : k < m
  · rw [List.getElem?_take_of_lt hk, List.getElem?_take_of_lt hk, List.getElem?_drop, List.getElem?_drop, List.getElem?_set_ne (by omega)]
  · rw [List.getElem?_eq_none (by rw [List.length_take]; omega), List.getElem?_eq_none (by rw [List.length_take]; omega)]
theorem seg_all (As : List (List (List Int))) : seg As 0 As.length = As.flatten := by
  unfold seg
  rw [List.drop_zero, List.take_length]
end M
namespace Ly
open PySem PySem.Spec PyProof.Rows L2 M
theorem seg_pg {P : Nat} {As : List (List (List Int))} (h : PG P As.flatten) (s m : Nat) : PG P (seg As s m) := ⟨h.pos, h.p6, seg_ok h.ok s m, Nat.le_trans (seg_len As s m) h.n16⟩
/-- level j of the products of neighbours -/
def LvOk (c : CA) (H : Hp) (P : Nat) (As : List (List (List Int))) (j : Nat) (a : Addr) : Prop := ∃ cs : List Addr, H a = some (.lst (cs.map V.ref)) ∧ cs.length = As.length / 2 ^ j ∧ ∀ (i : Nat) (b : Addr), cs[i]? = some b → IsC c H b P (pageF P (seg As (i * 2 ^ j) (2 ^ j)))
structure Lev (c : CA) (H : Hp) (P : Nat) (As : List (List (List Int))) (Ls : List Addr) : Prop where
  pos : 0 < Ls.length
  top : As.length / 2 ^ Ls.length = 0
  few : Ls.length ≤ 20
  ok : ∀ (j : Nat) (a : Addr), Ls[j]? = some a → LvOk c H P As j a
structure BD where
  x : Addr
  dx : Addr
  k : Addr
  kx : Addr
  l : Addr
  pl : Addr
  lv : Addr
  Ls : List Addr
abbrev BD.fs (B : BD) : List (Str × V) := [("calendar", .ref B.k), ("_page_list", .ref B.pl), ("_levels", .ref B.lv)]
abbrev As (ws zs : List Str) : List (List (List Int)) := zs.map (pageA ws)
structure IsB (c : CA) (H : Hp) (B : BD) (ws zs : List Str) : Prop where
  hx : H B.x = some (.ins c.Binder B.dx B.fs)
  hk : H B.k = some (.ins c.Calendar B.kx [("_words", .ref B.l)])
  hl : H B.l = some (.lst (ws.map V.str))
  hp : H B.pl = some (.lst (zs.map V.str))
  hv : H B.lv = some (.lst (B.Ls.map V.ref))
  lev : Lev c H ws.length (As ws zs) B.Ls
  okz : ∀ z ∈ zs, OkZ ws z
  okw : OkW ws
  len : (As ws zs).flatten.length ≤ 16
  n12 : zs.length ≤ 12
  nd : (B.lv :: B.l :: B.pl :: B.Ls).Nodup
/-- what a binder may change -/
def BD.fp (B : BD) : List Addr := B.x :: B.pl :: B.Ls
/-- what it must find as it left it -/
def BD.need (B : BD) : List Addr := B.x :: B.lv :: B.l :: B.pl :: B.Ls
def Frame (F : List Addr) (H H' : Hp) : Prop := ∀ b o, b ∉ F → H b = some o → H' b = some o
structure Mut (H H' : Hp) (B B' : BD) : Prop where
  x : B'.x = B.x
  k : B'.k = B.k
  l : B'.l = B.l
  kx : B'.kx = B.kx
  lv : B'.lv = B.lv ∨ H B'.lv = none
  pl : B'.pl = B.pl
  ls : ∀ b ∈ B'.Ls, b ∈ B.Ls ∨ H b = none
  fr : Frame B.fp H H'
  dom : ∀ b, H b ≠ none → H' b ≠ none
theorem IsB.pg {c : CA} {H : Hp} {B : BD} {ws zs : List Str} (h : IsB c H B ws zs) : PG ws.length (As ws zs).flatten := by
  refine ⟨h.okw.pos, h.okw.p6, fun S hS => ?_, h.len⟩
  obtain ⟨A, hA, hSA⟩ := List.mem_flatten.mp hS
  obtain ⟨z, hz, rfl⟩ := List.mem_map.mp hA
  obtain ⟨k, hk, rfl⟩ := List.mem_map.mp hSA
  obtain ⟨_, _, w, hw, hwk⟩ := (h.okz z hz).sg k hk
  obtain ⟨i, hi, e⟩ := List.getElem_of_mem hw
  constructor
  · intro z
    have : (i : Int) ∈ standsL ws k := List.mem_map.mpr ⟨i, List.mem_filter.mpr ⟨List.mem_range.mpr hi, by
      rw [List.getD_eq_getElem?_getD, List.getElem?_eq_getElem hi, Option.getD_some, e]; exact hwk⟩, rfl⟩
    rw [z] at this
    cases this
  · intro s hs
    obtain ⟨j, hj, rfl⟩ := List.mem_map.mp hs
    have := List.mem_range.mp (List.mem_filter.mp hj).1
    exact ⟨by omega, by omega⟩
theorem IsB.cal {c : CA} {H : Hp} {B : BD} {ws zs : List Str} (h : IsB c H B ws zs) : IsCal c H B.k ws := ⟨_, _, h.hk, h.hl⟩
theorem LvOk.lst {c : CA} {H : Hp} {P j : Nat} {A : List (List (List Int))} {a : Addr} (h : LvOk c H P A j a) : ∃ xs, H a = some (.lst xs) := by
  obtain ⟨cs, h1, _⟩ := h
  exact ⟨_, h1⟩
theorem IsB.lsl {c : CA} {H : Hp} {B : BD} {ws zs : List Str} (h : IsB c H B ws zs) {b : Addr} (hb : b ∈ B.Ls) : ∃ xs, H b = some (.lst xs) := by
  obtain ⟨j, hj, e⟩ := List.getElem_of_mem hb
  exact (h.lev.ok j b (by rw [List.getElem?_eq_getElem hj, e])).lst
/-- what stands at an address of a footprint -/
theorem IsB.fpk {c : CA} {H : Hp} {B : BD} {ws zs : List Str} (h : IsB c H B ws zs) {b : Addr} (hb : b ∈ B.fp) : (∃ xs, H b = some (.lst xs)) ∨ H b = some (.ins c.Binder B.dx B.fs) := by
  rcases List.mem_cons.mp hb with e | hb
  · subst e; exact .inr h.hx
  · rcases List.mem_cons.mp hb with e | hb
    · subst e; exact .inl ⟨_, h.hp⟩
    · exact .inl (h.lsl hb)
/-- a list, or an instance of two fields or more -/
def Fk (H : Hp) (b : Addr) : Prop := (∃ xs, H b = some (.lst xs)) ∨ ∃ C dx a b' r, H b = some (.ins C dx (a :: b' :: r))
theorem isc_frame {c : CA} {H H' : Hp} {F : List Addr} {x : Addr} {P : Nat} {G : Int → Int} (h : IsC c H x P G) (s : Frame F H H') (hF : ∀ b ∈ F, Fk H b) : IsC c H' x P G := by
  obtain ⟨dx, t, h1, h2⟩ := h
  refine ⟨dx, t, s _ _ (fun hm => ?_) h1, s _ _ (fun hm => ?_) h2⟩
  · rcases hF _ hm with ⟨xs, e⟩ | ⟨C, dy, a, b', r, e⟩
    · rw [h1] at e; cases e
    · rw [h1] at e; cases e
  · rcases hF _ hm with ⟨xs, e⟩ | ⟨C, dy, a, b', r, e⟩
    · rw [h2] at e; cases e
    · rw [h2] at e; cases e
theorem IsB.fpk' {c : CA} {H : Hp} {B : BD} {ws zs : List Str} (h : IsB c H B ws zs) : ∀ b ∈ B.fp, Fk H b := fun b hb => by
  rcases h.fpk hb with e | e
  · exact .inl e
  · exact .inr ⟨_, _, _, _, _, e⟩
theorem LvOk.frame {c : CA} {H H' : Hp} {P j : Nat} {A : List (List (List Int))} {a : Addr} {F : List Addr} (h : LvOk c H P A j a) (s : Frame F H H') (ha : a ∉ F) (hF : ∀ b ∈ F, Fk H b) : LvOk c H' P A j a := by
  obtain ⟨cs, h1, h2, h3⟩ := h
  exact ⟨cs, s _ _ ha h1, h2, fun i b e => isc_frame (h3 i b e) s hF⟩
/-- another binder stands -/
theorem IsB.frame {c : CA} {H H' : Hp} {B B2 : BD} {ws zs ws2 zs2 : List Str} (h : IsB c H B ws zs) (h2 : IsB c H B2 ws2 zs2) (ap : ∀ b ∈ B2.fp, b ∉ B.need) (s : Frame B2.fp H H') : IsB c H' B ws zs := by
  have hF := h2.fpk'
  have no : ∀ b ∈ B.need, b ∉ B2.fp := fun b hb h => ap b h hb
  have m1 : B.x ∈ B.need := List.mem_cons_self ..
  have m2 : B.lv ∈ B.need := by simp [BD.need]
  have m3 : B.l ∈ B.need := by simp [BD.need]
  have m4 : B.pl ∈ B.need := by simp [BD.need]
  have m5 : ∀ b ∈ B.Ls, b ∈ B.need := fun b hb => by simp [BD.need, hb]
  refine ⟨s _ _ (no _ m1) h.hx, s _ _ (fun hm => ?_) h.hk, s _ _ (no _ m3) h.hl, s _ _ (no _ m4) h.hp, s _ _ (no _ m2) h.hv, ⟨h.lev.pos, h.lev.top, h.lev.few, fun j a e => (h.lev.ok j a e).frame s (no _ (m5 _ (List.mem_of_getElem? e))) hF⟩, h.okz, h.okw, h.len, h.n12, h.nd⟩
  rcases hF _ hm with ⟨xs, e⟩ | ⟨C, dy, a, b', r, e⟩
  · rw [h.hk] at e; cases e
  · rw [h.hk] at e; cases e
theorem IsB.same {c : CA} {H H' : Hp} {B : BD} {ws zs : List Str} (h : IsB c H B ws zs) (s : Same H H') : IsB c H' B ws zs :=
  ⟨s _ _ h.hx, s _ _ h.hk, s _ _ h.hl, s _ _ h.hp, s _ _ h.hv, ⟨h.lev.pos, h.lev.top, h.lev.few, fun j a e => (h.lev.ok j a e).frame (F := []) (fun b o _ e => s b o e) (by simp) (by simp)⟩, h.okz, h.okw, h.len, h.n12, h.nd⟩
theorem pageA_len {ws : List Str} {z : Str} : (pageA ws z).length = z.length := by
  unfold pageA
  rw [List.length_map]
  exact Array.length_toList
/-! ### promises -/
def sp_check_number (c : CA) : Sp := fun vs H Q _ => ∃ n a : Int, vs = [.int n, .int a] ∧ 0 ≤ n ∧ n < a ∧ Q .non H
def sp_check_entries (c : CA) : Sp := fun vs H Q _ => ∃ (a : Addr) (zs : List Str), vs = [.ref a] ∧ (H a = some (.lst (zs.map V.str)) ∨ H a = some (.tup (zs.map V.str))) ∧ (zs.map (·.length)).sum ≤ 16 ∧ zs.length ≤ 13 ∧ ∀ H', Same H H' → Q .non H'
def sp_pair_product (c : CA) : Sp := fun vs H Q _ => ∃ (a x y : Addr) (i P : Nat) (A B : List (List Int)) (cs : List Addr), vs = [.ref a, .int i] ∧ H a = some (.lst (cs.map V.ref)) ∧ i < 1000 ∧ cs[2 * i]? = some x ∧ cs[2 * i + 1]? = some y ∧ IsC c H x P (pageF P A) ∧ IsC c H y P (pageF P B) ∧ PG P A ∧ PG P B ∧ A.length + B.length ≤ 16 ∧
  ∀ H' z, Same H H' → H z = none → IsC c H' z P (pageF P (A ++ B)) → Q (.ref z) H'
def sp_product_levels (c : CA) : Sp := fun vs H Q _ => ∃ (a : Addr) (P : Nat) (A : List (List (List Int))), vs = [.ref a] ∧ LvOk c H P A 0 a ∧ PG P A.flatten ∧ A.length ≤ 13 ∧
  ∀ H' lv Ls, Same H H' → H lv = none → (∀ b ∈ Ls, H b = none) → (lv :: Ls).Nodup → H' lv = some (.lst (Ls.map V.ref)) → Lev c H' P A Ls → Q (.ref lv) H'
def sp_Binder___init__ (c : CA) : Sp := fun vs H Q _ => ∃ (x dx k : Addr) (ws : List Str), vs = [.ref x, .ref k] ∧ H x = some (.ins c.Binder dx []) ∧ IsCal c H k ws ∧ OkW ws ∧
  ∀ H' (B : BD), Frame [x] H H' → B.x = x → B.k = k → H B.lv = none → H B.pl = none → (∀ b ∈ B.Ls, H b = none) → (∀ kx l, H k = some (.ins c.Calendar kx [("_words", .ref l)]) → B.l = l) → IsB c H' B ws [] → Q .non H'
def sp_Binder___setitem__ (c : CA) : Sp := fun vs H Q _ => ∃ (B : BD) (ws zs : List Str) (i : Nat) (z : Str), vs = [.ref B.x, .int i, .str z] ∧ IsB c H B ws zs ∧ i < zs.length ∧ OkZ ws z ∧ ((zs.set i z).map (·.length)).sum ≤ 16 ∧ ∀ H' B', Mut H H' B B' → IsB c H' B' ws (zs.set i z) → Q .non H'
def sp_Binder_insert (c : CA) : Sp := fun vs H Q _ => ∃ (B : BD) (ws zs : List Str) (i : Nat) (z : Str), vs = [.ref B.x, .int i, .str z] ∧ IsB c H B ws zs ∧ i ≤ zs.length ∧ zs.length < 12 ∧ OkZ ws z ∧ (zs.map (·.length)).sum + z.length ≤ 16 ∧ ∀ H' B', Mut H H' B B' → IsB c H' B' ws (zs.take i ++ [z] ++ zs.drop i) → Q .non H'
def sp_Binder_remove (c : CA) : Sp := fun vs H Q _ => ∃ (B : BD) (ws zs : List Str) (i : Nat) (z : Str), vs = [.ref B.x, .int i] ∧ IsB c H B ws zs ∧ zs[i]? = some z ∧ ∀ H' B', Mut H H' B B' → IsB c H' B' ws (zs.take i ++ zs.drop (i + 1)) → Q (.str z) H'
def sp_Binder_part (c : CA) : Sp := fun vs H Q _ => ∃ (B : BD) (ws zs : List Str) (f l : Nat), vs = [.ref B.x, .int f, .int l] ∧ IsB c H B ws zs ∧ f ≤ l ∧ l ≤ zs.length ∧ ∀ H' y, Same H H' → H y = none → IsC c H' y ws.length (pageF ws.length (seg (As ws zs) f (l - f))) → Q (.ref y) H'
def sp_Binder_part_count (c : CA) : Sp := fun vs H Q _ => ∃ (B : BD) (ws zs : List Str) (f l : Nat) (b e : Int), vs = [.ref B.x, .int f, .int l, .int b, .int e] ∧ IsB c H B ws zs ∧ f ≤ l ∧ l ≤ zs.length ∧ b ≤ e ∧ sm b ∧ sm e ∧ ∀ H', Same H H' → Q (.int (cou ws.length (seg (As ws zs) f (l - f)) b (e - b).toNat)) H'
def sp_Binder___len__ (c : CA) : Sp := fun vs H Q _ => ∃ (B : BD) (ws zs : List Str), vs = [.ref B.x] ∧ IsB c H B ws zs ∧ Q (.int zs.length) H
def sp_Binder___iter__ (c : CA) : Sp := fun vs H Q _ => ∃ (B : BD) (ws zs : List Str), vs = [.ref B.x] ∧ IsB c H B ws zs ∧ ∀ it, H it = none → Q (.ref it) (upd H it (ItO B.pl it 0))
end Ly

/-! Lay9 -/
set_option Elab.async false
set_option linter.all false
set_option maxRecDepth 100000
set_option maxHeartbeats 4000000
namespace Ly
open PySem PySem.Spec PyProof.Rows L2

/-! ### iter(a list) -/
def iterV (vs : List V) (H : Hp) (Q : VK) : Prop := match vs with
  | [.ref l] => opt (lst? H l) fun _ => ∀ it, H it = none → Q (.ref it) (upd H it (ItO l it 0))
  | _ => False
theorem c_iter {X : Cx} : CallR X (.builtin "iter") iterV := CallR.imp call_iterL fun vs H Q q => by
  unfold iterV at q
  split at q
  · obtain ⟨xs, e, q⟩ := opt_ex q
    exact ⟨_, xs, rfl, lst?_sq e, q⟩
  · exact q.elim
theorem v_iter {l : Addr} {H : Hp} {Q : VK} : iterV [.ref l] H Q = opt (lst? H l) fun _ => ∀ it, H it = none → Q (.ref it) (upd H it (ItO l it 0)) := rfl

/-! ### list(o), o's own __iter__ gives a list's iterator, o has its own __len__ -/
section
variable {prog : Program} {w : World} {A : Around} {E : Value → Shared → Prop} {s : Shared} {it l : Addr} {i : Nat} {items : Array Value}
theorem pyNext_end {Q : Option Value → Shared → Prop} (hh : A.handled = none) (ho : s.heap.get? it = some (GNX.itObj l i)) (hl : s.heap.IsList l items) (hx : items[i]? = none)
    (hQ : ∀ h', h'.get? it = some (GNX.itEnd i) → (∀ b o, b ≠ it → s.heap.get? b = some o → h'.get? b = some o) → Q none { s with heap := h' }) : wpAny (model prog w) A (pyNext (.ref it)) Q E s := by
  have hT : s.TypeIs (.ref it) "list_iterator" := ⟨_, ho, rfl⟩
  unfold pyNext
  refine wpAny_bind (wpAny_attempt (wpAny_callSpecial?_slot (name := Str.ofString "__next__") hT slot_listiter_next
    (wpAny_call_entry slot_listiter_next hT entry_listiter_next ?_ (args_listiter_next _))))
  refine GNX.next_end (A := A) hh ho hl hx fun h1 h' e vs e1 sb k ne he hv => ?_
  refine wpAny_bind (wpAny_isInstance (T := "StopIteration") (b := true) ⟨_, he, rfl⟩ PySem.isSubtype_stop ?_)
  exact wpAny_pure (hQ _ (k _ _ e1) fun b o nb z => k _ _ ((sb.2 b nb).trans z))
theorem pyNext_item {x : Value} {Q : Option Value → Shared → Prop} (ho : s.heap.get? it = some (GNX.itObj l i)) (hl : s.heap.IsList l items) (hx : items[i]? = some x)
    (hQ : ∀ h', h'.get? it = some (GNX.itObj l (i + 1)) → Heap.SameBut it s.heap h' → Q (some x) { s with heap := h' }) : wpAny (model prog w) A (pyNext (.ref it)) Q E s := by
  have hT : s.TypeIs (.ref it) "list_iterator" := ⟨_, ho, rfl⟩
  unfold pyNext
  refine wpAny_bind (wpAny_attempt (wpAny_callSpecial?_slot (name := Str.ofString "__next__") hT slot_listiter_next
    (wpAny_call_entry slot_listiter_next hT entry_listiter_next ?_ (args_listiter_next _))))
  exact GNX.next_item ho hl hx fun h' e' sb => wpAny_pure (hQ h' e' sb)
end
/-- a class with an own __iter__ and an own __len__ -/
structure ItL (K : PySem.W.Frag) (C fi fl : Addr) : Prop where
  it : PySem.W.findIn K (.ref C) "__iter__" = some (some (.ref fi))
  itF : PySem.W.isFn K (.ref fi) = true
  ln : PySem.W.findIn K (.ref C) "__len__" = some (some (.ref fl))
  lnF : PySem.W.isFn K (.ref fl) = true
def lenQ (R : Hp → Prop) : VK := fun v H' => match v with
  | .int n => 0 ≤ n ∧ n < 2 ^ 63 ∧ (n ≤ 1000000 ∧ R H')
  | _ => False
/-- what list(x) asks of the two defs -/
def listOwnV (C : Addr) (spI spL : Sp) (vs : List V) (H : Hp) (Q : VK) : Prop := match vs with
  | [x] => ins? C H x fun _ _ _ => ∀ q, H q = none → spI [x] (upd H q (.lst [])) (fun v H1 => ∃ l it xs, v = .ref it ∧ H1 it = some (ItO l it 0) ∧
      (ins? C H1 x fun _ _ _ => True) ∧
      spL [x] H1 (lenQ fun H2 => H2 it = some (ItO l it 0) ∧ H2 q = some (.lst []) ∧ lst? H2 l = some xs ∧ q ≠ it ∧ l ≠ q ∧ l ≠ it ∧ xs.length ≤ 1000000 ∧
        Q (.ref q) (upd (upd H2 it (ItE it xs.length)) q (.lst xs))) E0) E0
  | _ => False
section
variable {X : Cx} {pins : List (Addr × Obj)} {σ : L2.St} {H : Hp} {s : Shared} {C a q it l fi fl : Addr} {A1 : Around} {xs : List V}
theorem upd_comm {H : Hp} {a b : Addr} {o u : HO} (h : a ≠ b) : upd (upd H a o) b u = upd (upd H b u) a o := by
  funext c
  by_cases h1 : c = b
  · subst h1
    rw [upd_same, upd_ne h.symm, upd_same]
  · rw [upd_ne h1]
    by_cases h2 : c = a
    · subst h2
      rw [upd_same, upd_same]
    · rw [upd_ne h2, upd_ne h2, upd_ne h1]
theorem lst_loop {Rs : Result → Shared → Prop} (hh : A1.handled = none) (hqi : q ≠ it) (hlq : l ≠ q) (hli : l ≠ it) (hsm : xs.length < sizeLine)
    (hdone : ∀ s, Inv X pins σ (upd (upd H it (ItE it xs.length)) q (.lst xs)) s → Rs (.ok (.ret .none)) s) (hl : lst? H l = some xs) :
    ∀ (m i : Nat) (s : Shared), m + i = xs.length → Inv X pins σ (upd (upd H it (ItO l it i)) q (.lst (xs.take i))) s → codeAny (model X.prog X.w) A1 (.builtin "list.extend.loop" ⟨[.ref q, .ref it, .none], []⟩) Rs s := by
  intro m
  have hl2 : ∀ o u, lst? (upd (upd H it o) q u) l = some xs := fun o u => by
    unfold lst? at hl ⊢
    rw [upd_ne hlq, upd_ne hli]
    exact hl
  have hi2 : ∀ o u, upd (upd H it o) q u it = some o := fun o u => by rw [upd_ne hqi.symm, upd_same]
  induction m with
  | zero =>
    intro i s e I
    have ei : i = xs.length := by omega
    subst ei
    refine codeAny_builtin PySem.F.entry_extend_loop ?_
    rw [Around.under_plainId PySem.F.plain_extend_loop _]
    show wpAny _ A1.in1 (pyNext (.ref it) >>= _) _ _ s
    obtain ⟨its, rv, pl, hz⟩ := I.list (lst?_sq (K := X.K) (hl2 _ _))
    have mu : L2.Mut ((upd (upd H it (ItO l it xs.length)) q (.lst (xs.take xs.length))) it) := by rw [hi2]; exact True.intro
    have eo := itO_get I (hi2 _ _)
    refine wpAny_bind (pyNext_end (A := A1.in1) hh eo pl.isList (by rw [List.getElem?_toArray]; exact rv.none_of (List.getElem?_eq_none (Nat.le_refl _))) fun h' e' k => wpAny_pure (hdone _ ?_))
    have I2 := I.write (x := it) (e := it) (t' := s.toks) mu (.inl rfl) (fun b o nb z => k b o nb z) ⟨_, e'⟩ (itE_ok e')
    rw [List.take_length, upd_comm hqi, upd_upd] at I2
    exact I2
  | succ m ih =>
    intro i s e I
    refine codeAny_builtin PySem.F.entry_extend_loop ?_
    rw [Around.under_plainId PySem.F.plain_extend_loop _]
    show wpAny _ A1.in1 (pyNext (.ref it) >>= _) _ _ s
    obtain ⟨its, rv, pl, hz⟩ := I.list (lst?_sq (K := X.K) (hl2 _ _))
    have mu : L2.Mut ((upd (upd H it (ItO l it i)) q (.lst (xs.take i))) it) := by rw [hi2]; exact True.intro
    have eo := itO_get I (hi2 _ _)
    have hi : i < xs.length := by omega
    obtain ⟨u, hu, ru⟩ := rv.get (List.getElem?_eq_getElem hi)
    refine wpAny_bind (pyNext_item eo pl.isList (by rw [List.getElem?_toArray]; exact hu) fun h' e' sb => ?_)
    have I2 := I.write (x := it) (e := it) (t' := s.toks) mu (.inl rfl) (fun b o nb z => (sb.2 b nb).trans z) ⟨_, e'⟩ (itO_ok e')
    rw [upd_comm hqi, upd_upd] at I2
    show wpAny _ A1.in1 (updateSeq q (·.push u) >>= _) _ _ _
    have hq' : upd (upd H it (ItO l it (i + 1))) q (.lst (xs.take i)) q = some (.lst (xs.take i)) := upd_same
    obtain ⟨z, its2, k, r2, hl3, e3⟩ := I2.lstM hq'
    have tl : (xs.take i).length = i := by rw [List.length_take]; omega
    refine wpAny_bind (wpAny_updateSeq e3 rfl (wpAny_pure ⟨plainId_quiet PySem.F.plain_extend_loop _, ?_⟩) (by rw [List.size_toArray, ← r2.length, tl]; omega) (by show (its2.toArray.push u).size ≤ sizeLine + 1; rw [Array.size_push, List.size_toArray, ← r2.length, tl]; omega))
    have I3 := I2.lset (f := (·.push u)) (its' := its2 ++ [u]) (ys := xs.take i ++ [xs[i]]) (t' := s.toks) hq' e3 (by simp) (r2.append (.cons ru .nil)) (by rw [List.length_append, List.length_singleton, tl]; omega)
    rw [upd_upd, show xs.take i ++ [xs[i]] = xs.take (i + 1) by rw [List.take_add_one, List.getElem?_eq_getElem hi]; rfl] at I3
    exact ih (i + 1) _ (by omega) I3
theorem len_own {fdL : FuncData} {psL : List Str} {spL : Sp} {k : Nat} {dx : Addr} {fs : List (Str × V)} {Q : VK} {R : Value → Shared → Prop} {E : Value → Shared → Prop} (sb : Sub X (k + 1) A1) (hln : PySem.W.findIn X.K (.ref C) "__len__" = some (some (.ref fl))) (hlf : PySem.W.isFn X.K (.ref fl) = true)
    (FL : FnOk X.prog X.w X.K X.mg X.base (L2.CX X.prog X.w) k fl fdL psL spL) (bL : Binds X.K fdL psL []) (I : Inv X pins σ H s) (ha : H a = some (.ins C dx fs))
    (hsp : spL [.ref a] H (fun v H' => match v with | .int n => 0 ≤ n ∧ n < 2 ^ 63 ∧ Q (.int n) H' | _ => False) E0)
    (hR : ∀ n t H' s', Inv X pins σ H' s' → Q (.int n) H' → R (.int n t) s') : wpAny (model X.prog X.w) A1 (call (.builtin "len") [.ref a]) R E s := by
  obtain ⟨m, fr⟩ := I.fr
  obtain ⟨od, J⟩ := ins_at I ha
  refine PySem.W.len_K fr I.ok.mod.kin J hln hlf ?_
  have e0 : Env0 X.prog X.w X.K X.mg X.base A1.in1 X.stack s H := by
    have e := I.env0
    exact ⟨by rw [sb.in1.fr]; exact e.frames, e.mod, e.bs, e.bsz, e.funs, e.frf, e.hok, e.bare⟩
  have hl := FL.len _ _ _ _ hsp
  refine wpAny_call (codeAny_mono (FL.run A1.in1 X.stack s H ⟨[.ref a], []⟩ [.ref a] [.ref a] _ E0 sb.in1.room e0 (by
      have := bL s [.ref a] I.kIn (by simpa using hl)
      simpa using this) (.cons rfl .nil) hsp) fun r s' hq => ?_)
  cases r with
  | error e => exact (passL (X := X.nox) pins σ H s e s' (I.wish _) hq).elim
  | ok fl =>
    cases fl with
    | ret u =>
      obtain ⟨v, H', I3, rv, q3⟩ := I.after hq
      cases v with
      | int n =>
        obtain ⟨t, rfl⟩ := rv
        exact ⟨⟨q3.1, q3.2.1⟩, hR _ _ _ _ (I3.tok _) q3.2.2⟩
      | _ => exact q3.elim
    | next => exact False.elim hq
    | brk => exact False.elim hq
    | cont => exact False.elim hq
theorem hint_own {fdL : FuncData} {psL : List Str} {spL : Sp} {k : Nat} {dx : Addr} {fs : List (Str × V)} {R : Hp → Prop} {Qb : Bool → Shared → Prop} {E : Value → Shared → Prop} (sb : Sub X (k + 1) A1) (hln : PySem.W.findIn X.K (.ref C) "__len__" = some (some (.ref fl))) (hlf : PySem.W.isFn X.K (.ref fl) = true)
    (FL : FnOk X.prog X.w X.K X.mg X.base (L2.CX X.prog X.w) k fl fdL psL spL) (bL : Binds X.K fdL psL []) (I : Inv X pins σ H s) (ha : H a = some (.ins C dx fs))
    (hsp : spL [.ref a] H (lenQ R) E0)
    (hR : ∀ b H' s', Inv X pins σ H' s' → R H' → Qb b s') : wpAny (model X.prog X.w) A1 (Builtin.List.listLengthHint (.ref a)) Qb E s := by
  obtain ⟨m, hF⟩ := I.fr
  obtain ⟨od, J⟩ := ins_at I ha
  unfold Builtin.List.listLengthHint
  refine wpAny_bind (wpAny_bind (J.type.here ((PySem.W.looks_findIn I.kIn hln).here ?_)))
  refine PySem.W.KFB.if_not rfl ?_
  refine wpAny_bind (wpAny_rule ?_)
  refine wpAny_bind (wpAny_attempt (len_own (Q := fun v H' => match v with
    | .int n => n ≤ 1000000 ∧ R H'
    | _ => False) sb hln hlf FL bL I ha hsp fun n t H' s' I' q => ?_))
  obtain ⟨hn, r⟩ := q
  dsimp only
  refine wpAny_bind (m := asInt? (.int n t)) (wpAny_pure ?_)
  dsimp only
  rw [if_neg (by rw [show Builtin.List.listTooLong n.toNat = false by simp [Builtin.List.listTooLong, sizeLine]; omega]; decide)]
  exact wpAny_pure (hR _ H' s' I' r)
theorem lst_extend {fdI fdL : FuncData} {psI psL : List Str} {spI spL : Sp} {k : Nat} {dx : Addr} {fs : List (Str × V)} {Q : Hp → Prop} {Rs : Result → Shared → Prop} (hc : ItL X.K C fi fl) (cal : X.calm = true) (sb : Sub X (k + 1) A1.in1) (hh : A1.handled = none)
    (FI : FnOk X.prog X.w X.K X.mg X.base (L2.CX X.prog X.w) k fi fdI psI spI) (bI : Binds X.K fdI psI []) (FL : FnOk X.prog X.w X.K X.mg X.base (L2.CX X.prog X.w) k fl fdL psL spL) (bL : Binds X.K fdL psL [])
    (hdone : ∀ H s, Inv X pins σ H s → Q H → Rs (.ok (.ret .none)) s) (I : Inv X pins σ H s) (ha : H a = some (.ins C dx fs)) (hq : H q = some (.lst []))
    (hsp : spI [.ref a] H (fun v H1 => ∃ l it xs, v = .ref it ∧ H1 it = some (ItO l it 0) ∧ (ins? C H1 (.ref a) fun _ _ _ => True) ∧
      spL [.ref a] H1 (lenQ fun H2 => H2 it = some (ItO l it 0) ∧ H2 q = some (.lst []) ∧ lst? H2 l = some xs ∧ q ≠ it ∧ l ≠ q ∧ l ≠ it ∧ xs.length ≤ 1000000 ∧ Q (upd (upd H2 it (ItE it xs.length)) q (.lst xs))) E0) E0) :
    wpAny (model X.prog X.w) A1.in1 (Builtin.List.listExtendWith (.ref q) (.ref a) .none)
      (fun fin s' => match fin with | .done f => Rs (.ok f) s' | .again c' => c'.quiet = true ∧ codeAny (model X.prog X.w) A1 c' Rs s') (fun e s' => Rs (.error e) s') s := by
  have hne : q ≠ a := ne_of hq ha (fun z => nomatch z)
  obtain ⟨m0, hF⟩ := I.fr
  obtain ⟨od, J⟩ := ins_at I ha
  unfold Builtin.List.listExtendWith
  refine wpAny_bind (J.type.here ?_)
  have h1 : Builtin.List.listSameRef (.ref q) (.ref a) = false := by simp [Builtin.List.listSameRef, hne]
  have h2 : (Value.ref C == Value.type "list") = false := rfl
  have h3 : (Value.ref C == Value.type "tuple") = false := rfl
  simp only [h1, h2, h3, Bool.or_false, Bool.false_eq_true, if_false]
  refine wpAny_bind (PySem.W.owit_iter hF I.ok.mod.kin J hc.it hc.itF ?_)
  have e0 : Env0 X.prog X.w X.K X.mg X.base A1.in1 X.stack s H := by
    have e := I.env0
    exact ⟨by rw [sb.fr]; exact e.frames, e.mod, e.bs, e.bsz, e.funs, e.frf, e.hok, e.bare⟩
  have hl := FI.len _ _ _ _ hsp
  have r2 : Vals [V.ref a] [Value.ref a] := .cons rfl .nil
  refine wpAny_call (codeAny_mono (FI.run A1.in1 X.stack s H ⟨[.ref a], []⟩ [.ref a] [.ref a] _ E0 (sb.room.mono (Nat.le_succ k)) e0 (by
    have := bI s [.ref a] I.kIn (by simpa using hl)
    simpa using this) r2 hsp) fun r s' hq' => ?_)
  cases r with
  | error e => exact (passL (X := X.nox) pins σ H s e s' (I.wish _) hq').elim
  | ok fl' =>
    cases fl' with
    | next => exact False.elim hq'
    | brk => exact False.elim hq'
    | cont => exact False.elim hq'
    | ret u =>
      obtain ⟨v, H', I', rv, l, it, xs, ev, hit, hi, hL⟩ := I.after hq'
      subst ev
      cases rv
      have eo := itO_get I' hit
      have hT : s'.TypeIs (.ref it) "list_iterator" := ⟨_, eo, rfl⟩
      refine wpAny_specialOf (name := Str.ofString "__next__") hT slot_listiter_next.lookup ?_
      obtain ⟨a', dx', fs', ea, hi2, _⟩ := ins?_ex hi
      cases ea
      refine wpAny_bind (wpAny_holding (hint_own sb hc.ln hc.lnF FL bL I' hi2 hL fun b H2 s2 I2 hr => ?_))
      obtain ⟨hit2, hq2, hl2, n1, n2, n3, hxl, hQ⟩ := hr
      have sm : xs.length < sizeLine := Nat.lt_of_le_of_lt hxl (by decide)
      have start : ∀ s3, Inv X pins σ H2 s3 → codeAny (model X.prog X.w) A1 (.builtin "list.extend.loop" ⟨[.ref q, .ref it, .none], []⟩) Rs s3 := fun s3 I3 => by
        refine lst_loop (H := H2) hh n1 n2 n3 sm (fun s4 I4 => hdone _ _ I4 hQ) hl2 xs.length 0 s3 rfl ?_
        have : upd (upd H2 it (ItO l it 0)) q (.lst (xs.take 0)) = H2 := by
          rw [List.take_zero]
          funext b
          by_cases hb : b = q
          · rw [hb, upd_same, hq2]
          · rw [upd_ne hb]
            by_cases hb2 : b = it
            · rw [hb2, upd_same, hit2]
            · rw [upd_ne hb2]
        rw [this]
        exact I3
      refine wpAny_ite_split (fun _ => ?_) (fun _ => wpAny_pure ⟨plainId_quiet PySem.F.plain_extend_loop _, start _ I2⟩)
      obtain ⟨z, its, kk, r3, hl3, e3⟩ := I2.lstM hq2
      cases r3
      refine wpAny_bind (wpAny_rule ?_)
      refine wpAny_bind ?_
      show wpAny _ _ (updateSeq q (·.push .none) >>= fun _ => updateSeq q (·.pop)) _ _ _
      refine wpAny_bind (wpAny_updateSeq e3 rfl ?_)
      have I4 := I2.lset (f := (·.push Value.none)) (its' := [Value.none]) (ys := [.non]) (t' := s2.toks) hq2 e3 (by simp) (.cons rfl .nil) (by rw [List.length_singleton, sizeLine_eq]; decide)
      obtain ⟨z4, its4, k4, r4, hl4, e4⟩ := I4.lstM upd_same
      obtain ⟨u4, rfl, ru4⟩ := r4.one
      refine wpAny_updateSeq e4 rfl ?_ (by show 1 ≤ sizeLine; rw [sizeLine_eq]; decide) (by show 0 ≤ sizeLine + 1; exact Nat.zero_le _)
      refine wpAny_pure ⟨plainId_quiet PySem.F.plain_extend_loop _, start _ ?_⟩
      have I5 := I4.lset (f := (·.pop)) (its := [u4]) (its' := []) (ys := []) (t' := s2.toks) upd_same e4 (by rfl) .nil (Nat.zero_le _)
      rw [upd_upd] at I5
      have hH : upd H2 q (.lst []) = H2 := by
        funext b
        by_cases hb : b = q
        · rw [hb, upd_same, hq2]
        · rw [upd_ne hb]
      rw [hH] at I5
      exact I5
/-- list(o) -/
theorem c_listOwn {fdI fdL : FuncData} {psI psL : List Str} {spI spL : Sp} {k : Nat} (hc : ItL X.K C fi fl) (cal : X.calm = true) (FI : FnOk X.prog X.w X.K X.mg X.base (L2.CX X.prog X.w) k fi fdI psI spI) (bI : Binds X.K fdI psI [])
    (FL : FnOk X.prog X.w X.K X.mg X.base (L2.CX X.prog X.w) k fl fdL psL spL) (bL : Binds X.K fdL psL []) (hr : Room (k + 4) X.A) : CallR X (.type "list") (listOwnV C spI spL) := by
  intro pins s σ H vs us Q I rv h
  unfold listOwnV at h
  split at h
  case h_2 => exact h.elim
  rename_i x
  obtain ⟨a, dx, fs, rfl, ha, hq⟩ := ins?_ex h
  obtain ⟨u, rfl, ru⟩ := rv.one
  cases ru
  have sb : Sub X (k + 2) X.A.in1.in1 := (Sub.in1 (Sub.in1 (⟨hr, rfl⟩ : Sub X (k + 4) X.A)))
  refine callType_codes (Q₁ := fun obj s₁ => obj = .ref s.heap.objs.size ∧ s₁ = { s with heap := s.heap.push { cls := .type "list", data := .seq #[] } }) PySem.F.called_list (PySem.F.typeCall_list_1 _) PySem.F.entry_list_init
    (code_list_new _ ⟨rfl, rfl⟩) fun obj s₁ h₁ => ?_
  obtain ⟨rfl, rfl⟩ := h₁
  have hS : (s.heap.push { cls := .type "list", data := .seq #[] }).get? s.heap.objs.size = some { cls := .type "list", data := .seq #[] } := Heap.get?_push_size _ rfl
  refine ⟨⟨_, hS, rfl⟩, PySem.F.args_list_init_2 _ _, ?_⟩
  have fr : H s.heap.objs.size = none := I.hok.fresh (Nat.le_refl _)
  have hsp := hq _ fr
  generalize hqa : s.heap.objs.size = qa at *
  have I1 : Inv X pins σ (upd H qa (.lst [])) { s with heap := s.heap.push { cls := .type "list", data := .seq #[] } } := by subst hqa; exact I.lnew (its := []) (t' := s.toks) .nil (Nat.zero_le _)
  show wpAny _ _ (do let old ← Builtin.List.listItems (.ref qa); Builtin.List.listUpdate (.ref qa) (fun _ => #[]); letGo old.toList.reverse; Builtin.List.listExtendWith (.ref qa) (.ref a) .none) _ _ _
  refine wpAny_bind ?_
  unfold Builtin.List.listItems
  refine wpAny_bind (wpAny_seqItems hS rfl (wpAny_pure ?_))
  show wpAny _ _ (updateSeq qa (fun _ => #[]) >>= fun _ => letGo (#[] : Array Value).toList.reverse >>= fun _ => Builtin.List.listExtendWith (.ref qa) (.ref a) .none) _ _ _
  refine wpAny_bind (wpAny_updateSeq hS rfl ?_)
  have I2 := I1.lset (f := fun _ => #[]) (its := []) (its' := []) (ys := []) (t' := s.toks) upd_same hS rfl .nil (Nat.zero_le _)
  rw [upd_upd] at I2
  refine wpAny_bind (wpAny_letGo ?_)
  have ha2 : upd H qa (.lst []) a = some (.ins C dx fs) := by rw [upd_ne (ne_of_none ha fr)]; exact ha
  have fin := lst_extend (A1 := X.A.in1) (Rs := wants (fun r s₂ => r = .none ∧ EP X pins σ Q (.ref qa) s₂) X.xe) (Q := fun H2 => Q (.ref qa) H2) hc cal (Sub.mono sb (Nat.le_succ _)) (I.ok.hd cal) FI bI FL bL
    (fun H' s' I' hQ => ⟨rfl, .ref qa, H', I', rfl, hQ⟩) I2 ha2 upd_same hsp
  exact fin
theorem Fn.lst {kI kL : Nat} {psI psL : List Str} {spI spL : Sp} (FI : Fn X.prog X.w X.K X.mg X.base kI fi psI spI) (FL : Fn X.prog X.w X.K X.mg X.base kL fl psL spL) (k : Nat) (hI : kI ≤ k) (hL : kL ≤ k) (hc : ItL X.K C fi fl) (cal : X.calm = true) (hr : Room (k + 4) X.A) :
    CallR X (.type "list") (listOwnV C spI spL) := by
  obtain ⟨fdI, GI, bI⟩ := FI.ex
  obtain ⟨fdL, GL, bL⟩ := FL.ex
  exact c_listOwn hc cal (GI.mono hI) bI (GL.mono hL) bL hr
end
/-- a def told by what it does, with no word on its parameters -/
structure FnS (P : Program) (w : World) (K : PySem.W.Frag) (mg : Str → Option Value) (base : Heap) (k : Nat) (f : Addr) (sp : Sp) : Prop where
  ex : FnR P w K mg base (L2.CX P w) k f sp
  kp : PySem.W.keepIn K (.ref f) = true
/-- def f(a, .., *v), n ahead of the star -/
def starV (n : Nat) (sp : Sp) : Sp := fun vs H Q E => n ≤ vs.length ∧ vs.length ≤ 1000 ∧ ∀ p, H p = none → sp (vs.take n ++ [.ref p]) (upd H p (.tup (vs.drop n))) Q E
theorem FnS.star {P : Program} {w : World} {K : PySem.W.Frag} {mg : Str → Option Value} {base : Heap} {x qual pv : Str} {params : Arguments} {body : List Stmt} {scope : Scope} {f : Addr} {fd : FuncData} {N ps : List Str} {k : Nat} {sp sp' : Sp} {t : XK → TS} (F : FunD K x qual params body scope [] [] f fd) (S : FnScope N (ps ++ [pv]) scope)
    (hb : ∀ (kV doc pm : Value) (an : Option Addr) (cdv ct : Value) (us rest : List Value), us.length = ps.length → bindArgs (PySem.W.fnOf x qual params body scope .none kV doc pm an cdv ct) ⟨us ++ rest, []⟩ = (newTuple rest >>= fun t => pure (ps.zip us ++ [(pv, t)])))
    (der : ∀ (cdv : Value) (A : Around) (outer : List Env) (s : Shared) (H : Hp) (E : XK), Room k (A.deeper (envOfC qual scope s.heap.objs.size f cdv)) → PSs (cxOf (L2.CX P w) P w K mg base N qual scope f cdv A outer s H E) body (t E))
    (sem : ∀ vs H Q E, sp vs H Q E → t E { nx := fun _ H' => Q .non H', rt := Q } (start N vs) H) (imp : ∀ vs H Q E, sp' vs H Q E → starV ps.length sp vs H Q E) : FnS P w K mg base (k + 1) f sp' := by
  obtain ⟨oc, od, dV, kV, doc, pm, an, cdv, ct, osl, e, lk, hcd, dv, _⟩ := F.ex
  subst e
  obtain rfl : dV = .none := dv.elim (fun z => z.2) (fun z => (z.1 rfl).elim)
  refine ⟨FnR.imp (StX.fn_star (sp := sp) (k := k) lk hcd S StX.cxUp (fun us rest hl => hb kV doc pm an cdv ct us rest hl) fun A outer s H vs Q E hr hsp => ⟨t E, der cdv A outer s H E hr, sem vs H Q E hsp⟩) fun vs H Q E h => ?_, F.kp⟩
  obtain ⟨h1, h2, h3⟩ := imp vs H Q E h
  refine ⟨vs.take ps.length, vs.drop ps.length, (List.take_append_drop _ _).symm, by rw [List.length_take]; omega, ?_, h3⟩
  rw [List.length_drop]
  exact Nat.le_trans (Nat.sub_le _ _) (Nat.le_trans h2 (by decide))
section
variable {X : Cx} {k : Nat} {f C : Addr} {sp : Sp} {E : XK} {x : Str} {p pos : Pos} {e : Expr} {es : List Expr} {t : TA}
theorem FnS.make (F : FnS X.prog X.w X.K X.mg X.base k f sp) (M : Mk X.K C f) (hm : X.mg x = some (.ref C)) (hr : Room (k + 1) X.A) (hx : Passes (L2.CX X.prog X.w) X E) (ha : PA X (e :: es) t) (hg : Gl X x := by rfl) (hdb : (x == ("__debug__" : Str)) = false := by decide)
    (he : starEach (e :: es) X.env = (false, eval e X.env) :: starEach es X.env := by rfl) (hpl : (backTo pos (starEach es X.env)).any (·.1) = false := by rfl) : PE X (.Call (.Name x p) (e :: es) [] pos) (wCall (mkOf C sp) E t) :=
  (StX.pe_makeR M F.ex hr hg hm hx ha hdb he hpl).imp fun σ H Q q => q
end
end Ly

/-! Rb -/
set_option Elab.async false
set_option linter.all false
set_option maxRecDepth 100000
set_option maxHeartbeats 4000000
namespace Ly
open PySem PySem.Spec PyProof.Rows L2 M
/-- number, amount -/
def t_check_number (c : CA) (E : XK) : TS :=
  (tIfS (tNot (wTB (wChain leV ltV (wC (.int 0)) (wVar 0) (wVar 1))))
  tNever
  tNext)
/-- pages, page, amount -/
def t_check_entries (c : CA) (E : XK) : TS :=
  (tSeq (tAsg (wCB sumV (tCons (wComp (wIterV 0) (gName 1) tYes (wCB lenV (tCons (wVar 1) tNil)) [1]) tNil)) (gName 2))
  (tIfS (wTB (wBin gtV (wVar 2) (wC (.int 16))))
  tNever
  tNext))
/-- casts, index -/
def t_pair_product (c : CA) (E : XK) : TS :=
  (tRet (wBin (ownV c.Cast (sp_Cast___mul__ c) E) (wBin idxV (wVar 0) (wBin mulV (wC (.int 2)) (wVar 1))) (wBin idxV (wVar 0) (wBin addV (wBin mulV (wC (.int 2)) (wVar 1)) (wC (.int 1))))))
/-- casts, levels, index -/
def t_product_levels (c : CA) (E : XK) : TS :=
  (tSeq (tAsg (tLst (tCons (wCB listV (tCons (wVar 0) tNil)) tNil)) (gName 1))
  (tSeq (wWhile (wTB (wBin gtV (wCB lenV (tCons (wBin idxV (wVar 1) (wUn negV (wC (.int 1)))) tNil)) (wC (.int 1))))
  (tDrop (wLM appendV (wVar 1) (tCons (wComp (wRng1 (wBin divV (wCB lenV (tCons (wBin idxV (wVar 1) (wUn negV (wC (.int 1)))) tNil)) (wC (.int 2)))) (gName 2) tYes (wCall (sp_pair_product c) E0 (tCons (wBin idxV (wVar 1) (wUn negV (wC (.int 1)))) (tCons (wVar 2) tNil))) [2]) tNil))))
  (tRet (wVar 1))))
/-- self, calendar, pages, page -/
def t_Binder___init__ (c : CA) (E : XK) : TS :=
  (tSeq (wFor (wIterT (wVar 2)) (gName 3)
  (tDrop (wCall (sp_check_page c) E (tCons (wVar 1) (tCons (wVar 3) tNil)))))
  (tSeq (tIfS (wTB (wBin gtV (wCB lenV (tCons (wVar 2) tNil)) (wC (.int 12))))
  tNever
  tNext)
  (tSeq (tDrop (wCall (sp_check_entries c) E (tCons (wVar 2) tNil)))
  (tSeq (wSetF c.Binder "calendar" (wVar 0) (wVar 1))
  (tSeq (wSetF c.Binder "_page_list" (wVar 0) (wCB listV (tCons (wVar 2) tNil)))
  (wSetF c.Binder "_levels" (wVar 0) (wCall (sp_product_levels c) E (tCons (wComp (wIterT (wVar 2)) (gName 3) tYes (wCall (sp_cast_of c) E0 (tCons (wVar 1) (tCons (wVar 3) tNil))) [3]) tNil))))))))
/-- self, number, page, level, index -/
def t_Binder___setitem__ (c : CA) (E : XK) : TS :=
  (tSeq (tDrop (wCall (sp_check_number c) E (tCons (wVar 1) (tCons (wCB lenV (tCons (wFld c.Binder "_page_list" (wVar 0)) tNil)) tNil))))
  (tSeq (tDrop (wCall (sp_check_page c) E (tCons (wFld c.Binder "calendar" (wVar 0)) (tCons (wVar 2) tNil))))
  (tSeq (tDrop (wCall (sp_check_entries c) E (tCons (wBin addV (wBin addV (wSlice (wFld c.Binder "_page_list" (wVar 0)) wNo (wSome (wVar 1))) (tLst (tCons (wVar 2) tNil))) (wSlice (wFld c.Binder "_page_list" (wVar 0)) (wSome (wBin addV (wVar 1) (wC (.int 1)))) wNo)) tNil)))
  (tSeq (tAsg (wVar 2) (gSub (wFld c.Binder "_page_list" (wVar 0)) (wVar 1) setV))
  (tSeq (tAsg (wCall (sp_cast_of c) E (tCons (wFld c.Binder "calendar" (wVar 0)) (tCons (wVar 2) tNil))) (gSub (wBin idxV (wFld c.Binder "_levels" (wVar 0)) (wC (.int 0))) (wVar 1) setV))
  (wFor (wRng2 (wC (.int 1)) (wCB lenV (tCons (wFld c.Binder "_levels" (wVar 0)) tNil))) (gName 3)
  (tSeq (tAsg (wBin shrV (wVar 1) (wVar 3)) (gName 4))
  (tIfS (wTB (wBin ltV (wVar 4) (wCB lenV (tCons (wBin idxV (wFld c.Binder "_levels" (wVar 0)) (wVar 3)) tNil))))
  (tAsg (wCall (sp_pair_product c) E (tCons (wBin idxV (wFld c.Binder "_levels" (wVar 0)) (wBin subV (wVar 3) (wC (.int 1)))) (tCons (wVar 4) tNil))) (gSub (wBin idxV (wFld c.Binder "_levels" (wVar 0)) (wVar 3)) (wVar 4) setV))
  tNext))))))))
/-- self, number, page, casts -/
def t_Binder_insert (c : CA) (E : XK) : TS :=
  (tSeq (tDrop (wCall (sp_check_number c) E (tCons (wVar 1) (tCons (wBin addV (wCB lenV (tCons (wFld c.Binder "_page_list" (wVar 0)) tNil)) (wC (.int 1))) tNil))))
  (tSeq (tDrop (wCall (sp_check_page c) E (tCons (wFld c.Binder "calendar" (wVar 0)) (tCons (wVar 2) tNil))))
  (tSeq (tIfS (wTB (wBin eqSV (wCB lenV (tCons (wFld c.Binder "_page_list" (wVar 0)) tNil)) (wC (.int 12))))
  tNever
  tNext)
  (tSeq (tDrop (wCall (sp_check_entries c) E (tCons (wBin addV (wFld c.Binder "_page_list" (wVar 0)) (tLst (tCons (wVar 2) tNil))) tNil)))
  (tSeq (tAsg (wBin idxV (wFld c.Binder "_levels" (wVar 0)) (wC (.int 0))) (gName 3))
  (tSeq (tDrop (wLM insertV (wFld c.Binder "_page_list" (wVar 0)) (tCons (wVar 1) (tCons (wVar 2) tNil))))
  (wSetF c.Binder "_levels" (wVar 0) (wCall (sp_product_levels c) E (tCons (wBin addV (wBin addV (wSlice (wVar 3) wNo (wSome (wVar 1))) (tLst (tCons (wCall (sp_cast_of c) E (tCons (wFld c.Binder "calendar" (wVar 0)) (tCons (wVar 2) tNil))) tNil))) (wSlice (wVar 3) (wSome (wVar 1)) wNo)) tNil)))))))))
/-- self, number, casts -/
def t_Binder_remove (c : CA) (E : XK) : TS :=
  (tSeq (tDrop (wCall (sp_check_number c) E (tCons (wVar 1) (tCons (wCB lenV (tCons (wFld c.Binder "_page_list" (wVar 0)) tNil)) tNil))))
  (tSeq (tAsg (wBin idxV (wFld c.Binder "_levels" (wVar 0)) (wC (.int 0))) (gName 2))
  (tSeq (wSetF c.Binder "_levels" (wVar 0) (wCall (sp_product_levels c) E (tCons (wBin addV (wSlice (wVar 2) wNo (wSome (wVar 1))) (wSlice (wVar 2) (wSome (wBin addV (wVar 1) (wC (.int 1)))) wNo)) tNil)))
  (tRet (wLM popAtV (wFld c.Binder "_page_list" (wVar 0)) (tCons (wVar 1) tNil))))))
/-- self, first, last, product, number, level -/
def t_Binder_part (c : CA) (E : XK) : TS :=
  (tSeq (tDrop (wCall (sp_check_number c) E (tCons (wVar 1) (tCons (wBin addV (wCB lenV (tCons (wFld c.Binder "_page_list" (wVar 0)) tNil)) (wC (.int 1))) tNil))))
  (tSeq (tIfS (tNot (wTB (wChain leV leV (wVar 1) (wVar 2) (wCB lenV (tCons (wFld c.Binder "_page_list" (wVar 0)) tNil)))))
  tNever
  tNext)
  (tSeq (tAsg (wCall (sp_Cast_none c) E (tCons (wProp c.Calendar (sp_Calendar_places c) (wFld c.Binder "calendar" (wVar 0))) tNil)) (gName 3))
  (tSeq (tAsg (wVar 1) (gName 4))
  (tSeq (wWhile (wTB (wBin ltV (wVar 4) (wVar 2)))
  (tSeq (tAsg (wC (.int 0)) (gName 5))
  (tSeq (wWhile (tAnd (wTB (wBin eqSV (wBin modV (wVar 4) (wBin shlV (wC (.int 2)) (wVar 5))) (wC (.int 0)))) (wTB (wBin leV (wBin addV (wVar 4) (wBin shlV (wC (.int 2)) (wVar 5))) (wVar 2))))
  (tAsg (wBin addV (wVar 5) (wC (.int 1))) (gName 5)))
  (tSeq (tAsg (wBin (ownV c.Cast (sp_Cast___mul__ c) E) (wVar 3) (wBin idxV (wBin idxV (wFld c.Binder "_levels" (wVar 0)) (wVar 5)) (wBin shrV (wVar 4) (wVar 5)))) (gName 3))
  (tAsg (wBin addV (wVar 4) (wBin shlV (wC (.int 1)) (wVar 5))) (gName 4))))))
  (tRet (wVar 3)))))))
/-- self, first, last, begin, end -/
def t_Binder_part_count (c : CA) (E : XK) : TS :=
  (tRet (wMeth c.Cast "count" (sp_Cast_count c) E (wMeth c.Binder "part" (sp_Binder_part c) E (wVar 0) (tCons (wVar 1) (tCons (wVar 2) tNil))) (tCons (wVar 3) (tCons (wVar 4) tNil))))
/-- self -/
def t_Binder___len__ (c : CA) (E : XK) : TS :=
  (tRet (wCB lenV (tCons (wFld c.Binder "_page_list" (wVar 0)) tNil)))
/-- self -/
def t_Binder___iter__ (c : CA) (E : XK) : TS :=
  (tRet (wCB iterV (tCons (wFld c.Binder "_page_list" (wVar 0)) tNil)))
end Ly

/-! Se8 -/
set_option Elab.async false
set_option linter.all false
set_option maxRecDepth 100000
set_option maxHeartbeats 4000000
namespace Ly
open PySem PySem.Spec PyProof.Rows L2 M
local macro_rules | `(tactic| walk_at "run") => `(tactic| (try simp only [r_seq, r_next, r_cont, r_break, r_asg, r_name, r_sub, r_drop, r_ret, r_retN, r_if, r_ite, r_never, r_var, r_c, r_bin, r_un, r_tB, r_T, r_chain, r_and, r_or, r_not, r_andV, r_orV, r_notV, r_nil, r_cons, r_lst, r_tup, r_cb, r_call, r_lm, r_sm, r_fld, r_prop, r_meth, r_setF, r_aug, r_slice, r_no, r_some, r_revS, r_listR, r_g2, r_yes, r_for, r_comp, r_iter, r_iter', r_iterT, r_iterS, r_rng1, r_rng2, r_rngD, r_enum, r_zip, set0, setS, List.getElem?_cons_zero, List.getElem?_cons_succ, opt_some, opt_none, v_add_i, v_add_s, v_add_l, v_sub, v_mul_i, v_mul_l, v_mod, v_div, v_shl, v_shr, v_band, v_neg, v_lt, v_lt_s, v_le, v_le_s, v_gt, v_ge, v_eq_i, v_ne_i, v_eq_s, v_ne_s, v_in_l, v_in_s, v_idx, v_idx_s, v_slice, v_len, v_len_s, v_list, v_tuple, v_int, v_abs, v_max, v_min, v_maxL, v_sum, v_append, v_insert, v_popAt, v_pop, v_join, v_toB, v_tru_b, v_aug, v_set, v_ins, ints_bind, strs_bind, lst?_eq, tup?_eq, seq?_eq, lstO_l, lstO_f, lstW_l, tupO_t, seqO_l, seqO_t, insO_i, upd_same, upd_old, Option.isSome_some, List.length_map, wipe_one, Int.zero_add, Int.toNat_natCast, true_and]))
local macro_rules | `(tactic| walk_at "runs") => `(tactic| (try simp only [r_seq, r_next, r_cont, r_break, r_asg, r_name, r_sub, r_drop, r_ret, r_retN, r_if, r_ite, r_never, r_var, r_c, r_bin, r_un, r_tB, r_T, r_chain, r_and, r_or, r_not, r_andV, r_orV, r_notV, r_nil, r_cons, r_lst, r_tup, r_cb, r_call, r_lm, r_sm, r_fld, r_prop, r_meth, r_setF, r_aug, r_slice, r_no, r_some, r_revS, r_listR, r_g2, r_yes, r_for, r_comp, r_iter, r_iter', r_iterT, r_iterS, r_rng1, r_rng2, r_rngD, r_enum, r_zip, set0, setS, List.getElem?_cons_zero, List.getElem?_cons_succ, opt_some, opt_none, v_add_i, v_add_s, v_add_l, v_sub, v_mul_i, v_mul_l, v_mod, v_div, v_shl, v_shr, v_band, v_neg, v_lt, v_lt_s, v_le, v_le_s, v_gt, v_ge, v_eq_i, v_ne_i, v_eq_s, v_ne_s, v_in_l, v_in_s, v_idx, v_idx_s, v_slice, v_len, v_len_s, v_list, v_tuple, v_int, v_abs, v_max, v_min, v_maxL, v_sum, v_append, v_insert, v_popAt, v_pop, v_join, v_toB, v_tru_b, v_aug, v_set, v_ins, ints_bind, strs_bind, lst?_eq, tup?_eq, seq?_eq, lstO_l, lstO_f, lstW_l, tupO_t, seqO_l, seqO_t, insO_i, upd_same, upd_old, Option.isSome_some, List.length_map, wipe_one, Int.zero_add, Int.toNat_natCast, true_and, *]))
theorem v_own {C a b : Addr} {sp : Sp} {E : XK} {H : Hp} {Q : VK} : ownV C sp E (.ref a) (.ref b) H Q = opt (insO C (H a)) fun _ => opt (insO C (H b)) fun _ => sp [.ref a, .ref b] H Q E := by
  unfold ownV
  rw [v_ins]
  simp only [v_ins]
theorem r_iterV {i : Nat} {σ : L2.St} {H : Hp} {R : FI → Hp → Prop} : wIterV i σ H R = opt σ[i]? fun o => opt o fun x => match x with
  | .ref a => (match H a with
    | some (.lst xs) => R (fiL a xs) H
    | some (.tup xs) => R (fiT a xs) H
    | _ => False)
  | _ => False := rfl
theorem atI_ref {cs : List Addr} {i : Nat} {a : Addr} (h : cs[i]? = some a) : atI (cs.map V.ref) (i : Int) = some (.ref a) := by
  have hi := (List.getElem?_eq_some_iff.mp h).1
  unfold atI
  rw [ixN_of (by omega) (by rw [List.length_map]; omega), Option.bind_some, Int.toNat_natCast, List.getElem?_map, h]
  rfl
theorem atI_last {cs : List Addr} {a : Addr} (h : cs[cs.length - 1]? = some a) : atI (cs.map V.ref) (-1) = some (.ref a) := by
  have hi := (List.getElem?_eq_some_iff.mp h).1
  unfold atI ixN
  rw [if_neg (by omega), List.length_map, if_pos (by omega), Option.bind_some, List.getElem?_map]
  have : (-1 + (cs.length : Int)).toNat = cs.length - 1 := by omega
  rw [this, h]
  rfl
theorem atI_str {cs : List Str} {i : Nat} {a : Str} (h : cs[i]? = some a) : atI (cs.map V.str) (i : Int) = some (.str a) := by
  have hi := (List.getElem?_eq_some_iff.mp h).1
  unfold atI
  rw [ixN_of (by omega) (by rw [List.length_map]; omega), Option.bind_some, Int.toNat_natCast, List.getElem?_map, h]
  rfl
theorem isc_get {c : CA} {H : Hp} {x : Addr} {P : Nat} {F : Int → Int} (h : IsC c H x P F) : ∃ (dx t : Addr), insO c.Cast (H x) = some (dx, ([("_heights", V.ref t)] : List (Str × V))) := by
  obtain ⟨dx, t, h1, _⟩ := h
  exact ⟨dx, t, by rw [h1, insO_i]⟩
section
variable {c : CA} {vs : List V} {H : Hp} {Q : VK} {E : XK}
theorem sem_check_number (h : sp_check_number c vs H Q E) : t_check_number c E (De Q) (start ["number", "amount"] vs) H := by
  obtain ⟨n, a, rfl, h0, h1, q⟩ := h
  show t_check_number c E _ [some (.int n), some (.int a)] H
  unfold t_check_number
  walk_at "run"
  simp only [h0, h1, decide_true, if_true, Bool.not_true, Bool.false_eq_true, if_false]
  try (walk_at "run")
  try simp only [h0, h1, decide_true, if_true, Bool.not_true, Bool.false_eq_true, if_false]
  exact q
theorem sem_check_entries (h : sp_check_entries c vs H Q E) : t_check_entries c E (De Q) (start ["pages", "page", "amount"] vs) H := by
  obtain ⟨a, zs, rfl, ha, hs, h13, q⟩ := h
  show t_check_entries c E _ [some (.ref a), none, none] H
  unfold t_check_entries
  have hz : ∀ z ∈ zs, z.length ≤ 16 := by
    have : ∀ l : List Str, ∀ z ∈ l, z.length ≤ (l.map (·.length)).sum := by
      intro l
      induction l with
      | nil => intro z hz; cases hz
      | cons x r ih =>
        intro z hz
        rw [List.map_cons, List.sum_cons]
        rcases List.mem_cons.mp hz with rfl | hz
        · omega
        · have := ih z hz; omega
    intro z hz
    exact Nat.le_trans (this zs z hz) hs
  have e : ((List.range zs.length).map fun i => V.int ((zs.getD i ⟨#[]⟩).length : Nat)) = ((zs.map fun z => ((z.length : Nat) : Int))).map V.int := by
    refine List.ext_getElem (by simp) fun i h1 h2 => ?_
    rw [List.length_map, List.length_range] at h1
    rw [List.getElem_map, List.getElem_range, List.getElem_map, List.getElem_map, List.getD_eq_getElem?_getD, List.getElem?_eq_getElem h1]
    rfl
  have es : (zs.map fun z => ((z.length : Nat) : Int)).sum = ((zs.map (·.length)).sum : Nat) := by
    clear e hz h13 ha hs q
    induction zs with
    | nil => rfl
    | cons x r ih => rw [List.map_cons, List.sum_cons, List.map_cons, List.sum_cons, ih]; omega
  have n16 : ¬ (16 : Int) < ((zs.map (·.length)).sum : Nat) := by omega
  have item : ∀ i, i < zs.length → zs[i]? = some (zs.getD i ⟨#[]⟩) := fun i hi => by
    rw [List.getD_eq_getElem?_getD, List.getElem?_eq_getElem hi]; rfl
  walk_at "run"
  simp only [r_iterV]
  rcases ha with ha | ha
  · walk_at "run"
    simp only [ha]
    intro D hD
    refine lc_pure zs.length (by show (zs.map V.str).length = _; rw [List.length_map]) (fun i => .int ((zs.getD i ⟨#[]⟩).length : Nat)) (fun acc => by
      show lst? _ _ = _
      rw [lst?_eq, upd_old' hD ha]; rfl) (fun i acc R hi r => ?_) (small_line (by omega)) ?_
    rotate_left
    · rw [e]
      walk_at "run"
      simp only [ints_bind, opt_some, es, n16, decide_false, Bool.false_eq_true, if_false]
      try (walk_at "run")
      try simp only [n16, decide_false, Bool.false_eq_true, if_false]
      exact q _ (same_upd hD)
    show opt _ _
    rw [List.getElem?_map, item i hi]
    have := hz _ (List.mem_of_getElem? (item i hi))
    show opt (some (V.str (zs.getD i ⟨#[]⟩))) _
    walk_at "run"
    exact ⟨Nat.le_of_lt (small_line (by omega)), r⟩
  · walk_at "run"
    simp only [ha]
    intro D hD
    refine lc_pure zs.length (by show (zs.map V.str).length = _; rw [List.length_map]) (fun i => .int ((zs.getD i ⟨#[]⟩).length : Nat)) (fun acc => by
      show tup? _ _ = _
      rw [tup?_eq, upd_old' hD ha]; rfl) (fun i acc R hi r => ?_) (small_line (by omega)) ?_
    rotate_left
    · rw [e]
      walk_at "run"
      simp only [ints_bind, opt_some, es, n16, decide_false, Bool.false_eq_true, if_false]
      try (walk_at "run")
      try simp only [n16, decide_false, Bool.false_eq_true, if_false]
      exact q _ (same_upd hD)
    show opt _ _
    rw [List.getElem?_map, item i hi]
    have := hz _ (List.mem_of_getElem? (item i hi))
    show opt (some (V.str (zs.getD i ⟨#[]⟩))) _
    walk_at "run"
    exact ⟨Nat.le_of_lt (small_line (by omega)), r⟩
theorem sem_pair_product (h : sp_pair_product c vs H Q E) : t_pair_product c E (De Q) (start ["casts", "index"] vs) H := by
  obtain ⟨a, x, y, i, P, A, B, cs, rfl, ha, hi, hx, hy, cx, cy, pA, pB, hAB, q⟩ := h
  show t_pair_product c E _ [some (.ref a), some (.int i)] H
  unfold t_pair_product
  have m1 : CMul 2 (i : Int) := by unfold CMul; omega
  have e1 : (2 : Int) * (i : Int) = ((2 * i : Nat) : Int) := by omega
  have e2 : (2 : Int) * (i : Int) + 1 = ((2 * i + 1 : Nat) : Int) := by omega
  have a1 := atI_ref hx
  have a2 := atI_ref hy
  obtain ⟨dx, t, g1⟩ := isc_get cx
  obtain ⟨dy, u, g2⟩ := isc_get cy
  walk_at "run"
  refine ⟨m1, ?_⟩
  simp only [ha, seqO_l, opt_some, e1, a1]
  try (walk_at "run")
  refine ⟨m1, ?_⟩
  simp only [ha, seqO_l, opt_some, show (((2 * i : Nat) : Int) + 1) = ((2 * i + 1 : Nat) : Int) by omega, a2]
  simp only [v_own, g1, g2, opt_some]
  exact ⟨x, y, P, A, B, rfl, cx, cy, pA, pB, hAB, q⟩
theorem pow_pos2 (j : Nat) : 0 < 2 ^ j := Nat.pow_pos (by decide)
theorem div_succ2 (n j : Nat) : n / 2 ^ (j + 1) = n / 2 ^ j / 2 := by rw [Nat.pow_succ, Nat.div_div_eq_div_mul]
theorem seg_pair_pg {P : Nat} {A : List (List (List Int))} (pg : PG P A.flatten) (i j : Nat) : PG P (seg A (2 * i * 2 ^ j) (2 ^ j)) ∧ PG P (seg A ((2 * i + 1) * 2 ^ j) (2 ^ j)) ∧ (seg A (2 * i * 2 ^ j) (2 ^ j)).length + (seg A ((2 * i + 1) * 2 ^ j) (2 ^ j)).length ≤ 16 := by
  refine ⟨seg_pg pg _ _, seg_pg pg _ _, ?_⟩
  have := (seg_pg pg (i * 2 ^ (j + 1)) (2 ^ (j + 1))).n16
  rw [seg_pair, List.length_append] at this
  exact this
theorem sem_product_levels (h : sp_product_levels c vs H Q E) : t_product_levels c E (De Q) (start ["casts", "levels", "index"] vs) H := by
  obtain ⟨a, P, A, rfl, ⟨cs, ha, hcl, hcs⟩, pg, n13, q⟩ := h
  show t_product_levels c E _ [some (.ref a), none, none] H
  unfold t_product_levels
  walk_at "run"
  simp only [ha, seqO_l, opt_some]
  intro p0 hp0
  refine ⟨by show 1 ≤ sizeLine; decide, fun lv hlv => ?_⟩
  have n0p : p0 ≠ lv := ne_of_none (upd_same (H := H) (o := .lst (cs.map V.ref))) hlv
  have hlv0 : H lv = none := by rw [upd_ne n0p.symm] at hlv; exact hlv
  refine while_inv (P := fun σ H' => ∃ Ls : List Addr, σ = [some (.ref a), some (.ref lv), none] ∧ H' lv = some (.lst (Ls.map V.ref)) ∧ (0 < Ls.length ∧ Ls.length ≤ 20) ∧ Same H H' ∧ (∀ b ∈ Ls, H b = none) ∧ (lv :: Ls).Nodup ∧ ∀ (j : Nat) (b : Addr), Ls[j]? = some b → LvOk c H' P A j b)
    (fun σ H' => match H' lv with | some (.lst xs) => A.length / 2 ^ (xs.length - 1) | _ => 0) ⟨[p0], rfl, upd_same, ⟨Nat.one_pos, by show 1 ≤ 20; decide⟩, ?_, ?_, ?_, ?_⟩ (fun σ H' N ⟨Ls, eσ, hv, ⟨pos, few⟩, sm, fr, nd, ok⟩ hN => ?_)
  · exact (same_upd hp0).trans (same_upd hlv)
  · intro b hb; rw [List.mem_singleton] at hb; rw [hb]; exact hp0
  · simp [n0p.symm]
  · intro j b hb
    have hj : j = 0 := by have := (List.getElem?_eq_some_iff.mp hb).1; simp at this; exact this
    subst hj
    cases hb
    refine ⟨cs, ?_, hcl, fun i b e => isc_same (hcs i b e) ((same_upd hp0).trans (same_upd hlv))⟩
    rw [upd_ne n0p, upd_same]
  · subst eσ
    obtain ⟨b, hb⟩ : ∃ b, Ls[Ls.length - 1]? = some b := ⟨_, List.getElem?_eq_getElem (by omega)⟩
    obtain ⟨ds, hd, hdl, hds⟩ := ok _ b hb
    have al := atI_last hb
    have n63 : A.length / 2 ^ (Ls.length - 1) ≤ 13 := Nat.le_trans (Nat.div_le_self _ _) n13
    walk_at "run"
    simp only [hv, hd, seqO_l, opt_some, al, List.length_map]
    walk_at "run"
    simp only [hd, seqO_l, opt_some, List.length_map, hdl]
    by_cases h1 : (1 : Int) < ((A.length / 2 ^ (Ls.length - 1) : Nat) : Int)
    · simp only [h1, decide_true, if_true]
      have nxt : A.length / 2 ^ Ls.length = A.length / 2 ^ (Ls.length - 1) / 2 := by
        have e := div_succ2 A.length (Ls.length - 1)
        rw [Nat.sub_add_cancel pos] at e
        exact e
      walk_at "run"
      simp only [hv, hd, seqO_l, lstO_l, opt_some, al, List.length_map]
      try (walk_at "run")
      simp only [hd, seqO_l, opt_some, List.length_map]
      try (walk_at "run")
      refine ⟨by decide, ?_⟩
      have hq2 : (((ds.length : Nat) : Int) / 2) = ((A.length / 2 ^ Ls.length : Nat) : Int) := by rw [hdl, nxt]; omega
      rw [hq2]
      refine ⟨rng_small (by omega) (by rw [nxt]; omega), fun D hD => ?_⟩
      have nlD : lv ≠ D := ne_of_none hv hD
      have frD : H D = none := none_back sm hD
      refine lc_inv (P := fun i H2 => (∀ b o, b ≠ D → H' b = some o → H2 b = some o) ∧ ∃ es : List Addr, H2 D = some (.lst (es.map V.ref)) ∧ es.length = i ∧ ∀ (k : Nat) (b : Addr), es[k]? = some b → IsC c H2 b P (pageF P (seg A (k * 2 ^ Ls.length) (2 ^ Ls.length))))
        ⟨fun b o nb e => by rw [upd_ne nb]; exact e, [], upd_same, rfl, fun k b e => by cases e⟩ (fun i H2 N2 hi ⟨s2, es, hD2, le, hes⟩ hN2 => ⟨trivial, ?_⟩) (fun H2 ⟨s2, es, hD2, le, hes⟩ => ⟨trivial, ?_⟩)
      · have hi' : i < ((A.length / 2 ^ Ls.length : Nat) : Int).toNat := hi
        rw [Int.toNat_natCast] at hi'
        have hv2 := s2 _ _ nlD hv
        have nbD : b ≠ D := ne_of_none hd hD
        have hd2 := s2 _ _ nbD hd
        have sD : Same H' H2 := fun b o e => s2 b o (ne_of_none e hD) e
        simp only [fiR]
        walk_at "run"
        simp only [hv2, seqO_l, opt_some, al]
        have i2 : 2 * i + 1 < ds.length := by rw [hdl]; omega
        obtain ⟨x, hx⟩ : ∃ x, ds[2 * i]? = some x := ⟨_, List.getElem?_eq_getElem (by omega)⟩
        obtain ⟨y, hy⟩ : ∃ y, ds[2 * i + 1]? = some y := ⟨_, List.getElem?_eq_getElem i2⟩
        obtain ⟨pA, pB, hAB⟩ := seg_pair_pg pg i (Ls.length - 1)
        refine ⟨b, x, y, i, P, _, _, ds, rfl, hd2, by omega, hx, hy, isc_same (hds _ _ hx) sD, isc_same (hds _ _ hy) sD, pA, pB, hAB, fun H3 z s3 nz hz => ?_⟩
        have e2 := seg_pair A i (Ls.length - 1)
        rw [Nat.sub_add_cancel pos] at e2
        rw [← e2] at hz
        have hD3 := s3 _ _ hD2
        have Fk1 : ∀ b ∈ [D], Fk H3 b := fun b hb => by rw [List.mem_singleton] at hb; subst hb; exact .inl ⟨_, hD3⟩
        have fr3 : ∀ o, Frame [D] H3 (upd H3 D o) := fun o b u hb e => by rw [upd_ne (fun z => hb (by rw [z]; exact List.mem_singleton.mpr rfl))]; exact e
        refine ⟨es.map V.ref, hD3, ?_, hN2 _ ⟨fun b o nb e => ?_, es ++ [z], ?_, by simp [le], fun k b hb => ?_⟩⟩
        · rw [List.length_map, le]; exact small_line (by rw [nxt] at hi'; omega)
        · rw [upd_ne nb]; exact s3 _ _ (s2 b o nb e)
        · rw [upd_same, List.map_append]; rfl
        · rw [List.getElem?_append] at hb
          by_cases hk : k < es.length
          · rw [if_pos hk] at hb
            exact isc_frame (isc_same (hes k b hb) s3) (fr3 _) Fk1
          · rw [if_neg hk] at hb
            have e0 : k = i := by
              have := (List.getElem?_eq_some_iff.mp hb).1
              simp at this
              omega
            subst e0
            rw [le, Nat.sub_self] at hb
            cases hb
            exact isc_frame hz (fr3 _) Fk1
      · have le' : es.length = A.length / 2 ^ Ls.length := by
          have : es.length = ((A.length / 2 ^ Ls.length : Nat) : Int).toNat := le
          rw [Int.toNat_natCast] at this
          exact this
        have hv2 := s2 _ _ nlD hv
        have sD : Same H' H2 := fun b o e => s2 b o (ne_of_none e hD) e
        walk_at "run"
        simp only [hv2, lstO_l, lstW_l, opt_some, List.length_map]
        have small : Ls.length < 20 := by
          rcases Nat.lt_or_ge Ls.length 20 with h | h
          · exact h
          · have h2 : A.length / 2 ^ (Ls.length - 1) = 0 := Nat.div_eq_of_lt (by
              have : 2 ^ 19 ≤ 2 ^ (Ls.length - 1) := Nat.pow_le_pow_right (by decide) (by omega)
              omega)
            rw [h2] at h1
            omega
        have Fk1 : ∀ b ∈ [lv], Fk H2 b := fun b hb => by rw [List.mem_singleton] at hb; subst hb; exact .inl ⟨_, hv2⟩
        have fr3 : ∀ o, Frame [lv] H2 (upd H2 lv o) := fun o b u hb e => by rw [upd_ne (fun z => hb (by rw [z]; exact List.mem_singleton.mpr rfl))]; exact e
        have nin : ∀ b ∈ Ls, b ≠ lv := fun b hb z => by
          rw [z] at hb
          exact (List.nodup_cons.mp nd).1 hb
        refine ⟨small_line (by omega), hN _ _ ⟨Ls ++ [D], rfl, ?_, ⟨by simp, by rw [List.length_append]; show Ls.length + 1 ≤ 20; omega⟩, ?_, ?_, ?_, ?_⟩ ?_⟩
        · rw [upd_same, List.map_append]; rfl
        · intro b o e
          rw [upd_ne (ne_of_none e hlv0)]
          exact sD _ _ (sm _ _ e)
        · intro b hb
          rcases List.mem_append.mp hb with hb | hb
          · exact fr b hb
          · rw [List.mem_singleton] at hb; rw [hb]; exact frD
        · have nD : D ∉ Ls := fun hm => by
            obtain ⟨j, hj, e⟩ := List.getElem_of_mem hm
            obtain ⟨xs, hx⟩ := (ok j D (by rw [List.getElem?_eq_getElem hj, e])).lst
            rw [hD] at hx
            cases hx
          rw [← List.cons_append]
          refine List.nodup_append.mpr ⟨nd, by simp, fun x hx y hy => ?_⟩
          rw [List.mem_singleton] at hy
          subst hy
          rcases List.mem_cons.mp hx with rfl | hx
          · exact nlD
          · exact fun z => nD (z ▸ hx)
        · intro j b hb
          rw [List.getElem?_append] at hb
          by_cases hj : j < Ls.length
          · rw [if_pos hj] at hb
            have o1 := ok j b hb
            have o2 : LvOk c H2 P A j b := o1.frame (F := []) (fun b o _ e => sD b o e) (by simp) (by simp)
            exact o2.frame (fr3 _) (by rw [List.mem_singleton]; exact nin b (List.mem_of_getElem? hb)) Fk1
          · rw [if_neg hj] at hb
            have e0 : j = Ls.length := by
              have := (List.getElem?_eq_some_iff.mp hb).1
              simp at this
              omega
            subst e0
            rw [Nat.sub_self] at hb
            cases hb
            refine ⟨es, ?_, le', fun k b e => isc_frame (hes k b e) (fr3 _) Fk1⟩
            rw [upd_ne nlD.symm]
            exact hD2
        · show (match (upd H2 lv (.lst (Ls.map V.ref ++ [.ref D]))) lv with | some (.lst xs) => A.length / 2 ^ (xs.length - 1) | _ => 0) < (match H' lv with | some (.lst xs) => A.length / 2 ^ (xs.length - 1) | _ => 0)
          rw [upd_same, hv]
          show A.length / 2 ^ ((Ls.map V.ref ++ [V.ref D]).length - 1) < A.length / 2 ^ ((Ls.map V.ref).length - 1)
          rw [List.length_append, List.length_map, List.length_singleton, Nat.add_sub_cancel, nxt]
          omega
    · simp only [h1, decide_false, Bool.false_eq_true, if_false]
      walk_at "run"
      refine q H' lv Ls sm hlv0 fr nd hv ⟨pos, ?_, few, ok⟩
      have e := div_succ2 A.length (Ls.length - 1)
      rw [Nat.sub_add_cancel pos] at e
      rw [e]
      omega
end
end Ly

/-! Se9 -/
set_option Elab.async false
set_option linter.all false
set_option maxRecDepth 100000
set_option maxHeartbeats 4000000
namespace Ly
open PySem PySem.Spec PyProof.Rows L2 M
local macro_rules | `(tactic| walk_at "run") => `(tactic| (try simp only [r_seq, r_next, r_cont, r_break, r_asg, r_name, r_sub, r_drop, r_ret, r_retN, r_if, r_ite, r_never, r_var, r_c, r_bin, r_un, r_tB, r_T, r_chain, r_and, r_or, r_not, r_andV, r_orV, r_notV, r_nil, r_cons, r_lst, r_tup, r_cb, r_call, r_lm, r_sm, r_fld, r_prop, r_meth, r_setF, r_aug, r_slice, r_no, r_some, r_revS, r_listR, r_g2, r_yes, r_for, r_comp, r_iter, r_iter', r_iterT, r_iterS, r_rng1, r_rng2, r_rngD, r_enum, r_zip, set0, setS, List.getElem?_cons_zero, List.getElem?_cons_succ, opt_some, opt_none, v_add_i, v_add_s, v_add_l, v_sub, v_mul_i, v_mul_l, v_mod, v_div, v_shl, v_shr, v_band, v_neg, v_lt, v_lt_s, v_le, v_le_s, v_gt, v_ge, v_eq_i, v_ne_i, v_eq_s, v_ne_s, v_in_l, v_in_s, v_idx, v_idx_s, v_slice, v_len, v_len_s, v_list, v_tuple, v_int, v_abs, v_max, v_min, v_maxL, v_sum, v_append, v_insert, v_popAt, v_pop, v_join, v_toB, v_tru_b, v_aug, v_set, v_ins, ints_bind, strs_bind, lst?_eq, tup?_eq, seq?_eq, lstO_l, lstO_f, lstW_l, tupO_t, seqO_l, seqO_t, insO_i, upd_same, upd_old, Option.isSome_some, List.length_map, wipe_one, Int.zero_add, Int.toNat_natCast, true_and]))
local macro_rules | `(tactic| walk_at "runs") => `(tactic| (try simp only [r_seq, r_next, r_cont, r_break, r_asg, r_name, r_sub, r_drop, r_ret, r_retN, r_if, r_ite, r_never, r_var, r_c, r_bin, r_un, r_tB, r_T, r_chain, r_and, r_or, r_not, r_andV, r_orV, r_notV, r_nil, r_cons, r_lst, r_tup, r_cb, r_call, r_lm, r_sm, r_fld, r_prop, r_meth, r_setF, r_aug, r_slice, r_no, r_some, r_revS, r_listR, r_g2, r_yes, r_for, r_comp, r_iter, r_iter', r_iterT, r_iterS, r_rng1, r_rng2, r_rngD, r_enum, r_zip, set0, setS, List.getElem?_cons_zero, List.getElem?_cons_succ, opt_some, opt_none, v_add_i, v_add_s, v_add_l, v_sub, v_mul_i, v_mul_l, v_mod, v_div, v_shl, v_shr, v_band, v_neg, v_lt, v_lt_s, v_le, v_le_s, v_gt, v_ge, v_eq_i, v_ne_i, v_eq_s, v_ne_s, v_in_l, v_in_s, v_idx, v_idx_s, v_slice, v_len, v_len_s, v_list, v_tuple, v_int, v_abs, v_max, v_min, v_maxL, v_sum, v_append, v_insert, v_popAt, v_pop, v_join, v_toB, v_tru_b, v_aug, v_set, v_ins, ints_bind, strs_bind, lst?_eq, tup?_eq, seq?_eq, lstO_l, lstO_f, lstW_l, tupO_t, seqO_l, seqO_t, insO_i, upd_same, upd_old, Option.isSome_some, List.length_map, wipe_one, Int.zero_add, Int.toNat_natCast, true_and, *]))
theorem bq_pc : (("_page_list" : Str) == ("calendar" : Str)) = false := by decide +kernel
theorem bq_lc : (("_levels" : Str) == ("calendar" : Str)) = false := by decide +kernel
theorem bq_lp : (("_levels" : Str) == ("_page_list" : Str)) = false := by decide +kernel
theorem ne_cp : ("calendar" : Str) ≠ ("_page_list" : Str) := by decide +kernel
theorem ne_cl : ("calendar" : Str) ≠ ("_levels" : Str) := by decide +kernel
theorem ne_pl : ("_page_list" : Str) ≠ ("_levels" : Str) := by decide +kernel
theorem lkh {f : Str} {v : V} {r : List (Str × V)} : ((f, v) :: r : List (Str × V)).lookup f = some v := by
  show (match f == f with | true => some v | false => r.lookup f) = some v
  rw [beq_self_eq_true]
theorem lkm {f g : Str} {v : V} {r : List (Str × V)} (h : (g == f) = false) : ((f, v) :: r : List (Str × V)).lookup g = r.lookup g := by
  show (match g == f with | true => some v | false => r.lookup g) = r.lookup g
  rw [h]
theorem pfh {f : Str} {v x : V} {r : List (Str × V)} : putF f v ((f, x) :: r) = (f, v) :: r := if_pos rfl
theorem pfm {f g : Str} {v x : V} {r : List (Str × V)} (h : g ≠ f) : putF f v ((g, x) :: r) = (g, x) :: putF f v r := if_neg h
abbrev fs3 (u v w : V) : List (Str × V) := [("calendar", u), ("_page_list", v), ("_levels", w)]
abbrev fs2 (u v : V) : List (Str × V) := [("calendar", u), ("_page_list", v)]
abbrev fs1 (u : V) : List (Str × V) := [("calendar", u)]
section
variable {u v w y : V}
theorem lk3_c : (fs3 u v w).lookup ("calendar" : Str) = some u := lkh
theorem lk3_p : (fs3 u v w).lookup ("_page_list" : Str) = some v := (lkm bq_pc).trans lkh
theorem lk3_l : (fs3 u v w).lookup ("_levels" : Str) = some w := (lkm bq_lc).trans ((lkm bq_lp).trans lkh)
theorem lk3_n {m : Str} (h1 : (m == ("calendar" : Str)) = false) (h2 : (m == ("_page_list" : Str)) = false) (h3 : (m == ("_levels" : Str)) = false) : (fs3 u v w).lookup m = none := (lkm h1).trans ((lkm h2).trans ((lkm h3).trans rfl))
theorem pf3_1 : putF "calendar" u [] = fs1 u := rfl
theorem pf3_2 : putF "_page_list" v (fs1 u) = fs2 u v := pfm ne_cp
theorem pf3_3 : putF "_levels" w (fs2 u v) = fs3 u v w := (pfm ne_cl).trans (congrArg _ (pfm ne_pl))
theorem pf3_l : putF "_levels" y (fs3 u v w) = fs3 u v y := (pfm ne_cl).trans (congrArg _ ((pfm ne_pl).trans (congrArg _ pfh)))
end
theorem lk1_n {v : V} {m f : Str} (h : (m == f) = false) : ([(f, v)] : List (Str × V)).lookup m = none := by
  show (match m == f with | true => some v | false => none) = none
  rw [h]
/-- the body of Binder.__init__, no pages -/
def sp_Binder_body (c : CA) : Sp := fun vs H Q _ => ∃ (x dx k p : Addr) (ws : List Str), vs = [.ref x, .ref k, .ref p] ∧ H x = some (.ins c.Binder dx []) ∧ H p = some (.tup []) ∧ IsCal c H k ws ∧ OkW ws ∧
  ∀ H' (B : BD), Frame [x] H H' → B.x = x → B.k = k → H B.lv = none → H B.pl = none → (∀ b ∈ B.Ls, H b = none) → (∀ kx l, H k = some (.ins c.Calendar kx [("_words", .ref l)]) → B.l = l) → IsB c H' B ws [] → Q .non H'
section
variable {c : CA} {vs : List V} {H : Hp} {Q : VK} {E : XK}
theorem imp_Binder_init : sp_Binder___init__ c vs H Q E → starV 2 (sp_Binder_body c) vs H Q E := by
  rintro ⟨x, dx, k, ws, rfl, hx, hk, ok, q⟩
  refine ⟨Nat.le_refl _, by simp, fun p hp => ?_⟩
  have s := same_upd (o := .tup []) hp
  refine ⟨x, dx, k, p, ws, rfl, s _ _ hx, upd_same, iscal_same hk s, ok, fun H' B fr e1 e2 f1 f2 f3 hl hB => ?_⟩
  refine q H' B (fun b o hb e => fr b o hb (s _ _ e)) e1 e2 (none_back s f1) (none_back s f2) (fun b hb => none_back s (f3 b hb)) (fun kx l e => hl kx l (s _ _ e)) hB
theorem sem_Binder_len (h : sp_Binder___len__ c vs H Q E) : t_Binder___len__ c E (De Q) (start ["self"] vs) H := by
  obtain ⟨B, ws, zs, rfl, hB, q⟩ := h
  show t_Binder___len__ c E _ [some (.ref B.x)] H
  unfold t_Binder___len__
  walk_at "run"
  simp only [hB.hx, insO_i, opt_some, lk3_p, v_len, hB.hp, seqO_l, List.length_map]
  exact q
theorem sem_Binder_iter (h : sp_Binder___iter__ c vs H Q E) : t_Binder___iter__ c E (De Q) (start ["self"] vs) H := by
  obtain ⟨B, ws, zs, rfl, hB, q⟩ := h
  show t_Binder___iter__ c E _ [some (.ref B.x)] H
  unfold t_Binder___iter__
  walk_at "run"
  simp only [hB.hx, insO_i, opt_some, lk3_p, v_iter, lst?_eq, hB.hp, lstO_l]
  exact q
theorem sem_Binder_init (h : sp_Binder_body c vs H Q E) : t_Binder___init__ c E (De Q) (start ["self", "calendar", "pages", "page"] vs) H := by
  obtain ⟨x, dx, k, p, ws, rfl, hx, hp, hk, ok, q⟩ := h
  show t_Binder___init__ c E _ [some (.ref x), some (.ref k), some (.ref p), none] H
  unfold t_Binder___init__
  obtain ⟨kx, l, hk1, hl1⟩ := id hk
  walk_at "run"
  simp only [hp, tupO_t, opt_some]
  refine for_tpl (P := fun i σ H' => σ = [some (.ref x), some (.ref k), some (.ref p), none] ∧ H = H') ⟨rfl, rfl⟩ (fun i σ H' ⟨_, e⟩ => by rw [← e]; exact tup?_of hp) (fun i y σ H' N hy _ hN => by cases hy) (fun σ H' ⟨e1, e2⟩ => ?_)
  subst e1 e2
  walk_at "run"
  simp only [hp, seqO_t, opt_some, List.length_nil]
  have n12 : ¬ (12 : Int) < ((0 : Nat) : Int) := by decide
  simp only [n12, decide_false, Bool.false_eq_true, if_false]
  try (walk_at "run")
  refine ⟨p, [], rfl, .inr hp, Nat.zero_le _, Nat.zero_le _, fun H1 s1 => ?_⟩
  have hx1 := s1 _ _ hx
  have hp1 := s1 _ _ hp
  have hk1' := iscal_same hk s1
  walk_at "run"
  simp only [hx1, insO_i, opt_some, pf3_1]
  refine ⟨by simp, ?_⟩
  generalize hH2 : upd H1 x (.ins c.Binder dx [("calendar", .ref k)]) = H2
  have fr2 : Frame [x] H1 H2 := fun b o hb e => by rw [← hH2, upd_ne (fun z => hb (by rw [z]; exact List.mem_singleton.mpr rfl))]; exact e
  have hx2 : H2 x = some (.ins c.Binder dx [("calendar", .ref k)]) := by rw [← hH2, upd_same]
  have npx : p ∉ [x] := fun z => by rw [List.mem_singleton] at z; rw [z, hx1] at hp1; cases hp1
  have hp2 := fr2 _ _ npx hp1
  walk_at "run"
  simp only [hp2, seqO_t, opt_some]
  intro pl hpl
  have hx3 := upd_old' (o := .lst []) hpl hx2
  walk_at "run"
  simp only [hx3, insO_i, opt_some, pf3_2]
  refine ⟨by simp, ?_⟩
  generalize hH3 : upd (upd H2 pl (.lst [])) x (.ins c.Binder dx [("calendar", .ref k), ("_page_list", .ref pl)]) = H3
  have nplx : pl ≠ x := fun z => by rw [z, hx2] at hpl; cases hpl
  have hx3' : H3 x = some (.ins c.Binder dx [("calendar", .ref k), ("_page_list", .ref pl)]) := by rw [← hH3, upd_same]
  have hpl3 : H3 pl = some (.lst []) := by rw [← hH3, upd_ne nplx, upd_same]
  have fr3 : Frame [x] H2 H3 := fun b o hb e => by rw [← hH3, upd_ne (fun z => hb (by rw [z]; exact List.mem_singleton.mpr rfl))]; exact upd_old' hpl e
  have hp3 := fr3 _ _ npx hp2
  walk_at "run"
  simp only [hp3, tupO_t, opt_some]
  intro D hD
  refine lc_inv (P := fun i H' => H' = upd H3 D (.lst [])) rfl (fun i H' N hi _ hN => absurd hi (Nat.not_lt_zero i)) (fun H' e => ?_)
  subst e
  refine ⟨by show tup? _ _ = _; rw [tup?_eq, upd_old' hD hp3]; rfl, ?_⟩
  walk_at "run"
  have pg : PG ws.length ([] : List (List (List Int))).flatten := ⟨ok.pos, ok.p6, fun S hS => (by cases hS), by simp⟩
  refine ⟨D, ws.length, [], rfl, ⟨[], upd_same, by simp, fun i b e => by cases e⟩, pg, Nat.zero_le _, fun H4 lv Ls s4 nlv nLs nd hlv lev => ?_⟩
  have hx4 := s4 _ _ (upd_old' (o := .lst []) hD hx3')
  walk_at "run"
  simp only [hx4, insO_i, opt_some, pf3_3]
  have back : ∀ b, upd H3 D (.lst []) b = none → H b = none ∧ H3 b = none := fun b e => by
    have n3 : H3 b = none := none_back (same_upd hD) e
    refine ⟨?_, n3⟩
    cases z : H b with
    | none => rfl
    | some o =>
      have zb : b ∉ [x] := fun zz => by rw [List.mem_singleton] at zz; rw [zz, hx3'] at n3; cases n3
      have z3 := fr3 _ _ zb (fr2 _ _ zb (s1 _ _ z))
      rw [n3] at z3; cases z3
  have nlvx : lv ≠ x := fun z => by have := (back _ nlv).2; rw [z, hx3'] at this; cases this
  have nkx : k ∉ [x] := fun z => by rw [List.mem_singleton] at z; rw [z, hx] at hk1; simp at hk1
  have nlx : l ∉ [x] := fun z => by rw [List.mem_singleton] at z; rw [z, hx] at hl1; cases hl1
  have hk3 := fr3 _ _ nkx (fr2 _ _ nkx (s1 _ _ hk1))
  have hl3 := fr3 _ _ nlx (fr2 _ _ nlx (s1 _ _ hl1))
  have frAll : Frame [x] H (upd H4 x (.ins c.Binder dx [("calendar", .ref k), ("_page_list", .ref pl), ("_levels", .ref lv)])) := fun b o hb e => by
    rw [upd_ne (fun z => hb (by rw [z]; exact List.mem_singleton.mpr rfl))]
    exact s4 _ _ (upd_old' hD (fr3 _ _ hb (fr2 _ _ hb (s1 _ _ e))))
  have fr5 : Frame [x] H4 (upd H4 x (.ins c.Binder dx [("calendar", .ref k), ("_page_list", .ref pl), ("_levels", .ref lv)])) := fun b o hb e => by
    rw [upd_ne (fun z => hb (by rw [z]; exact List.mem_singleton.mpr rfl))]
    exact e
  have Fk5 : ∀ b ∈ [x], Fk H4 b := fun b hb => by rw [List.mem_singleton] at hb; subst hb; exact .inr ⟨_, _, _, _, _, hx4⟩
  have npl2 : H2 pl = none := hpl
  have hplH : H pl = none := by
    cases z : H pl with
    | none => rfl
    | some o =>
      have zb : pl ∉ [x] := fun zz => by rw [List.mem_singleton] at zz; exact nplx zz
      have z3 := fr2 _ _ zb (s1 _ _ z)
      rw [npl2] at z3; cases z3
  refine ⟨by simp, q _ ⟨x, dx, k, kx, l, pl, lv, Ls⟩ frAll rfl rfl (back _ nlv).1 hplH (fun b hb => (back _ (nLs b hb)).1) (fun kx' l' e => by rw [hk1] at e; cases e; rfl) ?_⟩
  refine ⟨upd_same, frAll _ _ nkx hk1, frAll _ _ nlx hl1, ?_, ?_, ⟨lev.pos, lev.top, lev.few, fun j a e => (lev.ok j a e).frame fr5 (fun z => ?_) Fk5⟩, fun z hz => (by cases hz), ok, by simp, by simp, ?_⟩
  · show upd H4 x _ pl = _
    rw [upd_ne nplx]
    exact s4 _ _ (upd_old' hD hpl3)
  · show upd H4 x _ lv = _
    rw [upd_ne nlvx]
    exact hlv
  · rw [List.mem_singleton] at z
    obtain ⟨xs, hxs⟩ := (lev.ok j a e).lst
    rw [z, hx4] at hxs; cases hxs
  · have nn : ∀ b, H3 b ≠ none → b ≠ lv ∧ b ∉ Ls := fun b hb => ⟨fun z => hb (by rw [z]; exact (back _ nlv).2), fun z => hb (back _ (nLs b z)).2⟩
    have l3 := nn l (by rw [hl3]; simp)
    have p3 := nn pl (by rw [hpl3]; simp)
    have nlp : l ≠ pl := fun z => by rw [z, hplH] at hl1; cases hl1
    simp only [List.nodup_cons, List.mem_cons] at nd ⊢
    refine ⟨?_, ?_, p3.2, nd.2⟩
    · rintro (e | e | e)
      · exact l3.1 e.symm
      · exact p3.1 e.symm
      · exact nd.1 e
    · rintro (e | e)
      · exact nlp e
      · exact l3.2 e
end
end Ly

/-! SeA -/
set_option Elab.async false
set_option linter.all false
set_option maxRecDepth 100000
set_option maxHeartbeats 4000000
namespace Ly
open PySem PySem.Spec PyProof.Rows L2 M
local macro_rules | `(tactic| walk_at "run") => `(tactic| (try simp only [r_seq, r_next, r_cont, r_break, r_asg, r_name, r_sub, r_drop, r_ret, r_retN, r_if, r_ite, r_never, r_var, r_c, r_bin, r_un, r_tB, r_T, r_chain, r_and, r_or, r_not, r_andV, r_orV, r_notV, r_nil, r_cons, r_lst, r_tup, r_cb, r_call, r_lm, r_sm, r_fld, r_prop, r_meth, r_setF, r_aug, r_slice, r_no, r_some, r_revS, r_listR, r_g2, r_yes, r_for, r_comp, r_iter, r_iter', r_iterT, r_iterS, r_rng1, r_rng2, r_rngD, r_enum, r_zip, set0, setS, List.getElem?_cons_zero, List.getElem?_cons_succ, opt_some, opt_none, v_add_i, v_add_s, v_add_l, v_sub, v_mul_i, v_mul_l, v_mod, v_div, v_shl, v_shr, v_band, v_neg, v_lt, v_lt_s, v_le, v_le_s, v_gt, v_ge, v_eq_i, v_ne_i, v_eq_s, v_ne_s, v_in_l, v_in_s, v_idx, v_idx_s, v_slice, v_len, v_len_s, v_list, v_tuple, v_int, v_abs, v_max, v_min, v_maxL, v_sum, v_append, v_insert, v_popAt, v_pop, v_join, v_toB, v_tru_b, v_aug, v_set, v_ins, ints_bind, strs_bind, lst?_eq, tup?_eq, seq?_eq, lstO_l, lstO_f, lstW_l, tupO_t, seqO_l, seqO_t, insO_i, upd_same, upd_old, Option.isSome_some, List.length_map, wipe_one, Int.zero_add, Int.toNat_natCast, true_and]))
local macro_rules | `(tactic| walk_at "runs") => `(tactic| (try simp only [r_seq, r_next, r_cont, r_break, r_asg, r_name, r_sub, r_drop, r_ret, r_retN, r_if, r_ite, r_never, r_var, r_c, r_bin, r_un, r_tB, r_T, r_chain, r_and, r_or, r_not, r_andV, r_orV, r_notV, r_nil, r_cons, r_lst, r_tup, r_cb, r_call, r_lm, r_sm, r_fld, r_prop, r_meth, r_setF, r_aug, r_slice, r_no, r_some, r_revS, r_listR, r_g2, r_yes, r_for, r_comp, r_iter, r_iter', r_iterT, r_iterS, r_rng1, r_rng2, r_rngD, r_enum, r_zip, set0, setS, List.getElem?_cons_zero, List.getElem?_cons_succ, opt_some, opt_none, v_add_i, v_add_s, v_add_l, v_sub, v_mul_i, v_mul_l, v_mod, v_div, v_shl, v_shr, v_band, v_neg, v_lt, v_lt_s, v_le, v_le_s, v_gt, v_ge, v_eq_i, v_ne_i, v_eq_s, v_ne_s, v_in_l, v_in_s, v_idx, v_idx_s, v_slice, v_len, v_len_s, v_list, v_tuple, v_int, v_abs, v_max, v_min, v_maxL, v_sum, v_append, v_insert, v_popAt, v_pop, v_join, v_toB, v_tru_b, v_aug, v_set, v_ins, ints_bind, strs_bind, lst?_eq, tup?_eq, seq?_eq, lstO_l, lstO_f, lstW_l, tupO_t, seqO_l, seqO_t, insO_i, upd_same, upd_old, Option.isSome_some, List.length_map, wipe_one, Int.zero_add, Int.toNat_natCast, true_and, *]))
section
variable {c : CA} {vs : List V} {H : Hp} {Q : VK} {E : XK}
theorem shl_nat (k n : Nat) : (k : Int) * 2 ^ n = ((k * 2 ^ n : Nat) : Int) := by simp
theorem sem_Binder_part (h : sp_Binder_part c vs H Q E) : t_Binder_part c E (De Q) (start ["self", "first", "last", "product", "number", "level"] vs) H := by
  obtain ⟨B, ws, zs, f, l, rfl, hB, hfl, hl, q⟩ := h
  show t_Binder_part c E _ [some (.ref B.x), some (.int f), some (.int l), none, none, none] H
  unfold t_Binder_part
  have pg := hB.pg
  have n12 := hB.n12
  have lA : (As ws zs).length = zs.length := List.length_map ..
  walk_at "run"
  simp only [hB.hx, insO_i, opt_some, lk3_p, v_len, hB.hp, seqO_l, List.length_map]
  walk_at "run"
  refine ⟨f, (zs.length : Int) + 1, rfl, by omega, by omega, ?_⟩
  have b1 : (f : Int) ≤ l := by omega
  have b2 : (l : Int) ≤ (zs.length : Int) := by omega
  walk_at "run"
  simp only [b1, decide_true, if_true]
  walk_at "run"
  simp only [hB.hx, insO_i, opt_some, lk3_p, v_len, hB.hp, seqO_l, List.length_map]
  walk_at "run"
  simp only [b2, decide_true, Bool.not_true, Bool.false_eq_true, if_false]
  walk_at "run"
  simp only [hB.hx, insO_i, opt_some, lk3_c]
  walk_at "run"
  simp only [hB.hk, insO_i, opt_some]
  refine ⟨B.k, ws, rfl, hB.cal, ?_⟩
  walk_at "run"
  refine ⟨ws.length, rfl, pg.pos, pg.p6, fun H1 y s1 ny hy => ?_⟩
  walk_at "run"
  refine while_inv (P := fun σ H' => ∃ (n : Nat) (y : Addr) (v5 : Option V), σ = [some (.ref B.x), some (.int f), some (.int l), some (.ref y), some (.int n), v5] ∧ f ≤ n ∧ n ≤ l ∧ Same H H' ∧ H y = none ∧ IsC c H' y ws.length (pageF ws.length (seg (As ws zs) f (n - f))))
    (fun σ H' => match σ with | [_, _, _, _, some (.int n), _] => ((l : Int) - n).toNat | _ => 0) ⟨f, y, none, rfl, Nat.le_refl _, hfl, s1, ny, by rw [Nat.sub_self, seg_zero]; exact hy⟩ (fun σ H' N ⟨n, y, v5, eσ, hfn, hnl, sm, ny, hy⟩ hN => ?_)
  subst eσ
  have hB' := hB.same sm
  walk_at "run"
  by_cases hlt : (n : Int) < l
  · simp only [hlt, decide_true, if_true]
    walk_at "run"
    refine while_inv (P := fun σ H2 => H' = H2 ∧ ∃ v : Nat, σ = [some (.ref B.x), some (.int f), some (.int l), some (.ref y), some (.int n), some (.int v)] ∧ n % 2 ^ v = 0 ∧ n + 2 ^ v ≤ l)
      (fun σ H2 => match σ with | [_, _, _, _, _, some (.int v)] => 100 - v.toNat | _ => 0) ⟨rfl, 0, rfl, by rw [Nat.pow_zero, Nat.mod_one], by rw [Nat.pow_zero]; omega⟩ (fun σ H2 N2 ⟨eH, v, eσ, hm, hv⟩ hN2 => ?_)
    subst eH eσ
    have v12 : v < 12 := by
      have : v < 2 ^ v := Nat.lt_two_pow_self
      omega
    have cp : ∀ k : Int, k = 1 ∨ k = 2 → CPow k (v : Int) := fun k hk => ⟨by omega, by omega, by rcases hk with rfl | rfl <;> decide⟩
    have e2 : (2 : Int) * 2 ^ v = ((2 ^ (v + 1) : Nat) : Int) := by
      have := shl_nat 2 v
      rw [show ((2 : Nat) : Int) = 2 from rfl] at this
      rw [this, Nat.pow_succ, Nat.mul_comm]
    have em : ((n : Int) % ((2 ^ (v + 1) : Nat) : Int)) = ((n % 2 ^ (v + 1) : Nat) : Int) := (Int.natCast_emod ..).symm
    have p2 : (0 : Int) < ((2 ^ (v + 1) : Nat) : Int) := by
      have := Nat.pow_pos (n := v + 1) (show 0 < 2 by decide)
      omega
    have dec : (v + 1 : Nat) < 100 := by omega
    have next : n % 2 ^ (v + 1) = 0 → n + 2 ^ (v + 1) ≤ l → N2 [some (.ref B.x), some (.int f), some (.int l), some (.ref y), some (.int n), some (.int ((v : Int) + 1))] H' := fun h1 h2 => by
      refine hN2 _ _ ⟨rfl, v + 1, ?_, h1, h2⟩ ?_
      · rfl
      · show 100 - ((v : Int) + 1).toNat < 100 - ((v : Int)).toNat
        omega
    have stop : (De Q).nx [] H' = (De Q).nx [] H' := rfl
    clear stop
    have fin : ∀ (K : L2.St → Hp → Prop), (∀ σ' H'', (∃ (n : Nat) (y : Addr) (v5 : Option V), σ' = [some (.ref B.x), some (.int f), some (.int l), some (.ref y), some (.int n), v5] ∧ f ≤ n ∧ n ≤ l ∧ Same H H'' ∧ H y = none ∧ IsC c H'' y ws.length (pageF ws.length (seg (As ws zs) f (n - f)))) → (match σ' with | [_, _, _, _, some (.int n), _] => ((l : Int) - n).toNat | _ => 0) < ((l : Int) - n).toNat → K σ' H'') →
        (opt (insO c.Binder (H' B.x)) fun q => opt (List.lookup ("_levels" : Str) q.snd) fun v_1 => idxV v_1 (V.int (v : Int)) H' fun x H1 => (0 : Int) ≤ (v : Int) ∧ idxV x (V.int ((n : Int) / 2 ^ v)) H1 fun y_1 H2 =>
          ownV c.Cast (sp_Cast___mul__ c) E (V.ref y) y_1 H2 fun x H1 => CPow 1 (v : Int) ∧ K [some (V.ref B.x), some (V.int (f : Int)), some (V.int (l : Int)), some x, some (V.int ((n : Int) + 1 * 2 ^ v)), some (V.int (v : Int))] H1) := fun K hK => by
      have vL : v < B.Ls.length := by
        rcases Nat.lt_or_ge v B.Ls.length with h | h
        · exact h
        · have t := hB.lev.top
          have h1 : (As ws zs).length / 2 ^ v ≤ (As ws zs).length / 2 ^ B.Ls.length := Nat.div_le_div_left (Nat.pow_le_pow_right (by decide) h) (pow_pos2 _)
          rw [t] at h1
          have h2 : 0 < (As ws zs).length / 2 ^ v := Nat.div_pos (by omega) (pow_pos2 _)
          omega
      obtain ⟨a, ha⟩ : ∃ a, B.Ls[v]? = some a := ⟨_, List.getElem?_eq_getElem vL⟩
      obtain ⟨ds, hd, hdl, hds⟩ := hB'.lev.ok v a ha
      have hq : n / 2 ^ v * 2 ^ v = n := by
        have := Nat.div_add_mod n (2 ^ v)
        rw [hm, Nat.add_zero, Nat.mul_comm] at this
        exact this
      have qlt : n / 2 ^ v < ds.length := by
        rw [hdl]
        have h1 : (n + 2 ^ v) / 2 ^ v ≤ (As ws zs).length / 2 ^ v := Nat.div_le_div_right (by omega)
        rw [Nat.add_div_right _ (pow_pos2 _)] at h1
        omega
      obtain ⟨b, hb⟩ : ∃ b, ds[n / 2 ^ v]? = some b := ⟨_, List.getElem?_eq_getElem qlt⟩
      have cb := hds _ b hb
      rw [hq] at cb
      have es : (n : Int) / 2 ^ v = ((n / 2 ^ v : Nat) : Int) := by rw [Int.natCast_ediv]; simp
      have a1 := atI_ref ha
      have a2 := atI_ref hb
      have nn : (0 : Int) ≤ (v : Int) := by omega
      obtain ⟨dy, ty, g1⟩ := isc_get hy
      obtain ⟨db, tb, g2⟩ := isc_get cb
      simp only [hB'.hx, insO_i, opt_some, lk3_l, v_idx, hB'.hv, seqO_l, a1]
      refine ⟨nn, ?_⟩
      simp only [hd, seqO_l, opt_some, es, a2]
      simp only [v_own, g1, g2, opt_some]
      have eseg : seg (As ws zs) f (n - f) ++ seg (As ws zs) n (2 ^ v) = seg (As ws zs) f (n + 2 ^ v - f) := by
        have := seg_add (As ws zs) f (n - f) (2 ^ v)
        rw [show f + (n - f) = n by omega, show n - f + 2 ^ v = n + 2 ^ v - f by omega] at this
        exact this.symm
      refine ⟨y, b, ws.length, _, _, rfl, hy, cb, seg_pg pg _ _, seg_pg pg _ _, ?_, fun H3 z s3 nz hz => ?_⟩
      · rw [← List.length_append, eseg]
        exact (seg_pg pg _ _).n16
      rw [eseg] at hz
      refine ⟨cp 1 (.inl rfl), ?_⟩
      have e1 : (n : Int) + 1 * 2 ^ v = ((n + 2 ^ v : Nat) : Int) := by
        have := shl_nat 1 v
        rw [show ((1 : Nat) : Int) = 1 from rfl] at this
        rw [this]; omega
      simp only [e1]
      refine hK _ _ ⟨n + 2 ^ v, z, _, rfl, by omega, hv, sm.trans s3, none_back sm nz, hz⟩ ?_
      show ((l : Int) - ((n + 2 ^ v : Nat) : Int)).toNat < ((l : Int) - n).toNat
      have := pow_pos2 v
      omega
    walk_at "run"
    refine ⟨cp 2 (.inr rfl), ?_⟩
    simp only [e2, p2, true_and, em]
    walk_at "run"
    by_cases c1 : ((n % 2 ^ (v + 1) : Nat) : Int) = 0
    · simp only [c1, decide_true, if_true]
      walk_at "run"
      refine ⟨cp 2 (.inr rfl), ?_⟩
      try simp only [e2]
      by_cases c2 : (n : Int) + ((2 ^ (v + 1) : Nat) : Int) ≤ l
      · simp only [c2, decide_true, if_true]
        exact next (by omega) (by omega)
      · simp only [c2, decide_false, Bool.false_eq_true, if_false]
        walk_at "run"
        exact fin N hN
    · simp only [c1, decide_false, Bool.false_eq_true, if_false]
      walk_at "run"
      exact fin N hN
  · simp only [hlt, decide_false, Bool.false_eq_true, if_false]
    have : n = l := by omega
    subst this
    walk_at "run"
    exact q H' y sm ny hy
end
end Ly

/-! SeB -/
set_option Elab.async false
set_option linter.all false
set_option maxRecDepth 100000
set_option maxHeartbeats 4000000
namespace Ly
open PySem PySem.Spec PyProof.Rows L2 M
local macro_rules | `(tactic| walk_at "run") => `(tactic| (try simp only [r_seq, r_next, r_cont, r_break, r_asg, r_name, r_sub, r_drop, r_ret, r_retN, r_if, r_ite, r_never, r_var, r_c, r_bin, r_un, r_tB, r_T, r_chain, r_and, r_or, r_not, r_andV, r_orV, r_notV, r_nil, r_cons, r_lst, r_tup, r_cb, r_call, r_lm, r_sm, r_fld, r_prop, r_meth, r_setF, r_aug, r_slice, r_no, r_some, r_revS, r_listR, r_g2, r_yes, r_for, r_comp, r_iter, r_iter', r_iterT, r_iterS, r_rng1, r_rng2, r_rngD, r_enum, r_zip, set0, setS, List.getElem?_cons_zero, List.getElem?_cons_succ, opt_some, opt_none, v_add_i, v_add_s, v_add_l, v_sub, v_mul_i, v_mul_l, v_mod, v_div, v_shl, v_shr, v_band, v_neg, v_lt, v_lt_s, v_le, v_le_s, v_gt, v_ge, v_eq_i, v_ne_i, v_eq_s, v_ne_s, v_in_l, v_in_s, v_idx, v_idx_s, v_slice, v_len, v_len_s, v_list, v_tuple, v_int, v_abs, v_max, v_min, v_maxL, v_sum, v_append, v_insert, v_popAt, v_pop, v_join, v_toB, v_tru_b, v_aug, v_set, v_ins, ints_bind, strs_bind, lst?_eq, tup?_eq, seq?_eq, lstO_l, lstO_f, lstW_l, tupO_t, seqO_l, seqO_t, insO_i, upd_same, upd_old, Option.isSome_some, List.length_map, wipe_one, Int.zero_add, Int.toNat_natCast, true_and]))
local macro_rules | `(tactic| walk_at "runs") => `(tactic| (try simp only [r_seq, r_next, r_cont, r_break, r_asg, r_name, r_sub, r_drop, r_ret, r_retN, r_if, r_ite, r_never, r_var, r_c, r_bin, r_un, r_tB, r_T, r_chain, r_and, r_or, r_not, r_andV, r_orV, r_notV, r_nil, r_cons, r_lst, r_tup, r_cb, r_call, r_lm, r_sm, r_fld, r_prop, r_meth, r_setF, r_aug, r_slice, r_no, r_some, r_revS, r_listR, r_g2, r_yes, r_for, r_comp, r_iter, r_iter', r_iterT, r_iterS, r_rng1, r_rng2, r_rngD, r_enum, r_zip, set0, setS, List.getElem?_cons_zero, List.getElem?_cons_succ, opt_some, opt_none, v_add_i, v_add_s, v_add_l, v_sub, v_mul_i, v_mul_l, v_mod, v_div, v_shl, v_shr, v_band, v_neg, v_lt, v_lt_s, v_le, v_le_s, v_gt, v_ge, v_eq_i, v_ne_i, v_eq_s, v_ne_s, v_in_l, v_in_s, v_idx, v_idx_s, v_slice, v_len, v_len_s, v_list, v_tuple, v_int, v_abs, v_max, v_min, v_maxL, v_sum, v_append, v_insert, v_popAt, v_pop, v_join, v_toB, v_tru_b, v_aug, v_set, v_ins, ints_bind, strs_bind, lst?_eq, tup?_eq, seq?_eq, lstO_l, lstO_f, lstW_l, tupO_t, seqO_l, seqO_t, insO_i, upd_same, upd_old, Option.isSome_some, List.length_map, wipe_one, Int.zero_add, Int.toNat_natCast, true_and, *]))
theorem cut_take {xs : List V} {i : Nat} (h : i ≤ xs.length) : cutV xs none (some (i : Int)) = xs.take i := by
  unfold cutV
  rw [HT.sIx_none, HT.sIx_nat, List.drop_zero, Nat.min_eq_left h, Nat.sub_zero]
theorem cut_drop {xs : List V} {i : Nat} (h : i ≤ xs.length) : cutV xs (some (i : Int)) none = xs.drop i := by
  unfold cutV
  rw [HT.sIx_none, HT.sIx_nat, Nat.min_eq_left h]
  exact List.take_of_length_le (by rw [List.length_drop]; omega)
theorem flat_len {ws : List Str} (zs : List Str) : (As ws zs).flatten.length = (zs.map (·.length)).sum := by
  induction zs with
  | nil => rfl
  | cons z r ih =>
    show (pageA ws z ++ (As ws r).flatten).length = _
    rw [List.length_append, ih, pageA_len, List.map_cons, List.sum_cons]
theorem as_pg {ws zs : List Str} (okw : OkW ws) (okz : ∀ z ∈ zs, OkZ ws z) (len : (zs.map (·.length)).sum ≤ 16) : PG ws.length (As ws zs).flatten := by
  refine ⟨okw.pos, okw.p6, fun S hS => ?_, by rw [flat_len]; exact len⟩
  obtain ⟨A, hA, hSA⟩ := List.mem_flatten.mp hS
  obtain ⟨z, hz, rfl⟩ := List.mem_map.mp hA
  exact (pageA_ok (okz z hz)).ok S hSA
/-- casts of pages -/
def Cl (c : CA) (H : Hp) (P : Nat) (cs : List Addr) (A : List (List (List Int))) : Prop := cs.length = A.length ∧ ∀ (j : Nat) (b : Addr) (S : List (List Int)), cs[j]? = some b → A[j]? = some S → IsC c H b P (pageF P S)
section
variable {c : CA} {H H' : Hp} {P : Nat} {cs ds : List Addr} {A A2 : List (List (List Int))}
theorem LvOk.cl {a : Addr} (h : LvOk c H P A 0 a) : ∃ cs, H a = some (.lst (cs.map V.ref)) ∧ Cl c H P cs A := by
  obtain ⟨cs, h1, h2, h3⟩ := h
  rw [Nat.pow_zero, Nat.div_one] at h2
  refine ⟨cs, h1, h2, fun j b S e eS => ?_⟩
  have := h3 j b e
  rw [Nat.pow_zero, Nat.mul_one, seg_one (List.getElem?_eq_some_iff.mp eS).1, (List.getElem?_eq_some_iff.mp eS).2] at this
  exact this
theorem Cl.lv {a : Addr} (h1 : H a = some (.lst (cs.map V.ref))) (h : Cl c H P cs A) : LvOk c H P A 0 a := by
  refine ⟨cs, h1, by rw [Nat.pow_zero, Nat.div_one]; exact h.1, fun j b e => ?_⟩
  have hj : j < A.length := by rw [← h.1]; exact (List.getElem?_eq_some_iff.mp e).1
  rw [Nat.pow_zero, Nat.mul_one, seg_one hj]
  exact h.2 j b _ e (List.getElem?_eq_getElem hj)
theorem Cl.same (h : Cl c H P cs A) (s : Same H H') : Cl c H' P cs A := ⟨h.1, fun j b S e eS => isc_same (h.2 j b S e eS) s⟩
theorem Cl.frame {F : List Addr} (h : Cl c H P cs A) (s : Frame F H H') (hF : ∀ b ∈ F, Fk H b) : Cl c H' P cs A := ⟨h.1, fun j b S e eS => isc_frame (h.2 j b S e eS) s hF⟩
theorem Cl.app (h : Cl c H P cs A) (h2 : Cl c H P ds A2) : Cl c H P (cs ++ ds) (A ++ A2) := by
  refine ⟨by rw [List.length_append, List.length_append, h.1, h2.1], fun j b S e eS => ?_⟩
  rw [List.getElem?_append] at e eS
  rw [← h.1] at eS
  by_cases hj : j < cs.length
  · rw [if_pos hj] at e eS
    exact h.2 j b S e eS
  · rw [if_neg hj] at e eS
    exact h2.2 _ b S e eS
theorem Cl.take (h : Cl c H P cs A) (n : Nat) : Cl c H P (cs.take n) (A.take n) := by
  refine ⟨by rw [List.length_take, List.length_take, h.1], fun j b S e eS => ?_⟩
  by_cases hj : j < n
  · rw [List.getElem?_take_of_lt hj] at e eS
    exact h.2 j b S e eS
  · rw [List.getElem?_eq_none (by rw [List.length_take]; omega)] at e; cases e
theorem Cl.drop (h : Cl c H P cs A) (n : Nat) : Cl c H P (cs.drop n) (A.drop n) := by
  refine ⟨by rw [List.length_drop, List.length_drop, h.1], fun j b S e eS => ?_⟩
  rw [List.getElem?_drop] at e eS
  exact h.2 _ b S e eS
theorem Cl.one {y : Addr} {S : List (List Int)} (h : IsC c H y P (pageF P S)) : Cl c H P [y] [S] := by
  refine ⟨rfl, fun j b T e eS => ?_⟩
  have hj : j = 0 := by have := (List.getElem?_eq_some_iff.mp e).1; simp at this; exact this
  subst hj
  cases e
  cases eS
  exact h
end
section
variable {c : CA} {H H' : Hp} {B : BD} {ws zs zs' : List Str} {lv : Addr} {Ls : List Addr}
/-- a binder made anew in its place -/
theorem IsB.anew (hB : IsB c H B ws zs) (fr : Frame [B.x, B.pl] H H') (hx : H' B.x = some (.ins c.Binder B.dx [("calendar", .ref B.k), ("_page_list", .ref B.pl), ("_levels", .ref lv)])) (hp : H' B.pl = some (.lst (zs'.map V.str))) (hv : H' lv = some (.lst (Ls.map V.ref))) (lev : Lev c H' ws.length (As ws zs') Ls)
    (nlv : H lv = none) (nLs : ∀ b ∈ Ls, H b = none) (nd : (lv :: Ls).Nodup) (okz : ∀ z ∈ zs', OkZ ws z) (len : (zs'.map (·.length)).sum ≤ 16) (n12 : zs'.length ≤ 12) :
    Mut H H' B { B with lv := lv, Ls := Ls } ∧ IsB c H' { B with lv := lv, Ls := Ls } ws zs' := by
  have nk : B.k ∉ [B.x, B.pl] := fun z => by
    simp only [List.mem_cons, List.not_mem_nil, or_false] at z
    rcases z with z | z
    · have h1 := hB.hk; rw [z, hB.hx] at h1; simp at h1
    · have h1 := hB.hk; rw [z, hB.hp] at h1; cases h1
  have nl : B.l ∉ [B.x, B.pl] := fun z => by
    simp only [List.mem_cons, List.not_mem_nil, or_false] at z
    rcases z with z | z
    · have h1 := hB.hl; rw [z, hB.hx] at h1; cases h1
    · have h1 := hB.nd
      rw [z] at h1
      simp at h1
  have hl := hB.hl
  have hpl := hB.hp
  refine ⟨⟨rfl, rfl, rfl, rfl, .inr nlv, rfl, fun b hb => .inr (nLs b hb), fun b o hb e => fr b o (fun z => hb ?_) e, fun b hb => ?_⟩, ⟨hx, fr _ _ nk hB.hk, fr _ _ nl hB.hl, hp, hv, lev, okz, hB.okw, by rw [flat_len]; exact len, n12, ?_⟩⟩
  · simp only [List.mem_cons, List.not_mem_nil, or_false] at z
    rcases z with z | z
    · rw [z]; exact List.mem_cons_self ..
    · rw [z]; exact List.mem_cons_of_mem _ (List.mem_cons_self ..)
  · by_cases h1 : b = B.x
    · rw [h1, hx]; simp
    · by_cases h2 : b = B.pl
      · rw [h2, hp]; simp
      · cases e : H b with
        | none => exact (hb e).elim
        | some o => rw [fr b o (by simp [h1, h2]) e]; simp
  · show (lv :: B.l :: B.pl :: Ls).Nodup
    have a1 : lv ≠ B.l := fun z => by rw [← z, nlv] at hl; cases hl
    have a2 : lv ≠ B.pl := fun z => by rw [← z, nlv] at hpl; cases hpl
    have a3 : B.l ∉ Ls := fun z => by rw [nLs _ z] at hl; cases hl
    have a4 : B.pl ∉ Ls := fun z => by rw [nLs _ z] at hpl; cases hpl
    have a5 : B.l ≠ B.pl := fun z => nl (by rw [z]; simp)
    simp only [List.nodup_cons, List.mem_cons] at nd ⊢
    refine ⟨?_, ?_, a4, nd.2⟩
    · rintro (e | e | e)
      · exact a1 e
      · exact a2 e
      · exact nd.1 e
    · rintro (e | e)
      · exact a5 e
      · exact a3 e
end
section
variable {c : CA} {vs : List V} {H : Hp} {Q : VK} {E : XK}
theorem sum_ins (zs : List Str) (i : Nat) (z : Str) : ((zs.take i ++ [z] ++ zs.drop i).map (·.length)).sum = (zs.map (·.length)).sum + z.length := by
  have h : (zs.map (·.length)).sum = ((zs.take i).map (·.length)).sum + ((zs.drop i).map (·.length)).sum := by rw [← List.sum_append, ← List.map_append, List.take_append_drop]
  rw [h, List.map_append, List.map_append, List.sum_append, List.sum_append, List.map_singleton, List.sum_singleton]
  omega
theorem sem_Binder_insert (h : sp_Binder_insert c vs H Q E) : t_Binder_insert c E (De Q) (start ["self", "number", "page", "casts"] vs) H := by
  obtain ⟨B, ws, zs, i, z, rfl, hB, hi, h12, okz, hsum, q⟩ := h
  show t_Binder_insert c E _ [some (.ref B.x), some (.int i), some (.str z), none] H
  unfold t_Binder_insert
  walk_at "run"
  simp only [hB.hx, insO_i, opt_some, lk3_p, v_len, hB.hp, seqO_l, List.length_map]
  walk_at "run"
  refine ⟨i, (zs.length : Int) + 1, rfl, by omega, by omega, ?_⟩
  walk_at "run"
  simp only [hB.hx, insO_i, opt_some, lk3_c]
  refine ⟨B.k, ws, z, rfl, hB.cal, okz, fun H1 s1 => ?_⟩
  have hB1 := hB.same s1
  have n12 : ¬ (zs.length : Int) = 12 := by omega
  walk_at "run"
  simp only [hB1.hx, insO_i, opt_some, lk3_p, v_len, hB1.hp, seqO_l, List.length_map]
  walk_at "run"
  simp only [n12, decide_false, Bool.false_eq_true, if_false]
  walk_at "run"
  simp only [hB1.hx, insO_i, opt_some, lk3_p]
  refine ⟨by show 1 ≤ sizeLine; decide, fun p1 hp1 => ?_⟩
  have hpl2 := upd_old' (o := .lst [.str z]) hp1 hB1.hp
  walk_at "run"
  simp only [hpl2, lstW_l, opt_some, upd_same]
  have smz : ∀ n : Nat, n ≤ 100 → n ≤ sizeLine := fun n hn => Nat.le_of_lt (small_line (by omega))
  refine ⟨by rw [List.length_map]; exact smz _ (by show zs.length + 1 ≤ 100; omega), fun p2 hp2 => ?_⟩
  have s2 : Same H1 (upd (upd H1 p1 (.lst [.str z])) p2 (.lst (zs.map V.str ++ [.str z]))) := (same_upd hp1).trans (same_upd hp2)
  have ez : zs.map V.str ++ [.str z] = (zs ++ [z]).map V.str := by rw [List.map_append]; rfl
  have hsum2 : ((zs ++ [z]).map (·.length)).sum ≤ 16 := by rw [List.map_append, List.sum_append, List.map_singleton, List.sum_singleton]; exact hsum
  rw [ez] at s2 ⊢
  refine ⟨p2, zs ++ [z], rfl, .inl upd_same, hsum2, by rw [List.length_append]; show zs.length + 1 ≤ 13; omega, fun H3 s3 => ?_⟩
  have sA : Same H H3 := s1.trans (s2.trans s3)
  have hB3 := hB.same sA
  obtain ⟨a0, ha0⟩ : ∃ a, B.Ls[0]? = some a := ⟨_, List.getElem?_eq_getElem hB.lev.pos⟩
  have a1 := atI_ref ha0
  rw [Int.natCast_zero] at a1
  obtain ⟨cs, hcs, clc⟩ := (hB3.lev.ok 0 a0 ha0).cl
  have lcs : cs.length = zs.length := by rw [clc.1]; exact List.length_map ..
  walk_at "run"
  simp only [hB3.hx, insO_i, opt_some, lk3_l, v_idx, hB3.hv, seqO_l, a1]
  walk_at "run"
  simp only [hB3.hx, insO_i, opt_some, lk3_p, lst?_eq, hB3.hp, lstO_l]
  walk_at "run"
  simp only [hB3.hp, lstW_l, opt_some, List.length_map]
  refine ⟨small_line (by omega), by omega, by omega, ?_⟩
  have ez2 : (zs.map V.str).take i ++ [.str z] ++ (zs.map V.str).drop i = (zs.take i ++ [z] ++ zs.drop i).map V.str := by
    rw [List.map_append, List.map_append, List.map_take, List.map_drop]; rfl
  rw [ez2]
  generalize hzs' : zs.take i ++ [z] ++ zs.drop i = zs' at *
  have nd := hB3.nd
  have na0 : a0 ≠ B.pl := fun e => by
    have := List.mem_of_getElem? ha0
    rw [e] at this
    simp only [List.nodup_cons] at nd
    exact nd.2.2.1 this
  have nxp : B.x ≠ B.pl := fun e => by have := hB3.hx; rw [e, hB3.hp] at this; cases this
  generalize hH4 : upd H3 B.pl (.lst (zs'.map V.str)) = H4
  have fr4 : Frame [B.pl] H3 H4 := fun b o hb e => by rw [← hH4, upd_ne (fun z => hb (by rw [z]; exact List.mem_singleton.mpr rfl))]; exact e
  have Fk4 : ∀ b ∈ [B.pl], Fk H3 b := fun b hb => by rw [List.mem_singleton] at hb; subst hb; exact .inl ⟨_, hB3.hp⟩
  have hp4 : H4 B.pl = some (.lst (zs'.map V.str)) := by rw [← hH4, upd_same]
  have hcs4 := fr4 _ _ (by rw [List.mem_singleton]; exact na0) hcs
  have hx4 := fr4 _ _ (by rw [List.mem_singleton]; exact nxp) hB3.hx
  have clc4 := clc.frame fr4 Fk4
  have nkp : B.k ≠ B.pl := fun e => by have := hB3.hk; rw [e, hB3.hp] at this; cases this
  have nlp : B.l ≠ B.pl := fun e => by
    simp only [List.nodup_cons, List.mem_cons] at nd
    exact nd.2.1 (.inl e)
  have cal4 : IsCal c H4 B.k ws := ⟨_, _, fr4 _ _ (by rw [List.mem_singleton]; exact nkp) hB3.hk, fr4 _ _ (by rw [List.mem_singleton]; exact nlp) hB3.hl⟩
  walk_at "run"
  simp only [hcs4, lstO_l, opt_some]
  rw [cut_take (xs := cs.map V.ref) (i := i) (by rw [List.length_map]; omega)]
  intro q1 hq1
  have t1 := same_upd (o := .lst ((cs.map V.ref).take i)) hq1
  walk_at "run"
  simp only [t1 _ _ hx4, insO_i, opt_some, lk3_c]
  refine ⟨B.k, ws, z, rfl, iscal_same cal4 t1, okz, fun H5 y s5 ny hy => ?_⟩
  have t5 := t1.trans s5
  walk_at "run"
  refine ⟨by show 1 ≤ sizeLine; decide, fun q2 hq2 => ?_⟩
  have t6 := t5.trans (same_upd (o := .lst [.ref y]) hq2)
  have h1' := upd_old' (o := .lst [.ref y]) hq2 (s5 _ _ (upd_same (H := H4) (a := q1) (o := .lst ((cs.map V.ref).take i))))
  walk_at "run"
  simp only [h1', upd_same, lstW_l, opt_some]
  refine ⟨by rw [List.length_take, List.length_map]; exact smz _ (by show min i cs.length + 1 ≤ 100; omega), fun q3 hq3 => ?_⟩
  have t7 := t6.trans (same_upd (o := .lst ((cs.map V.ref).take i ++ [.ref y])) hq3)
  walk_at "run"
  simp only [t7 _ _ hcs4, lstO_l, opt_some]
  rw [cut_drop (xs := cs.map V.ref) (i := i) (by rw [List.length_map]; omega)]
  intro q4 hq4
  have t8 := t7.trans (same_upd (o := .lst ((cs.map V.ref).drop i)) hq4)
  have h3' := upd_old' (H := upd (upd H5 q2 (.lst [.ref y])) q3 (.lst ((cs.map V.ref).take i ++ [.ref y]))) (o := .lst ((cs.map V.ref).drop i)) hq4 upd_same
  walk_at "run"
  simp only [h3', upd_same, lstW_l, opt_some]
  refine ⟨by rw [List.length_append, List.length_take, List.length_drop, List.length_map]; exact smz _ (by show min i cs.length + 1 + (cs.length - i) ≤ 100; omega), fun q5 hq5 => ?_⟩
  have t9 := t8.trans (same_upd (o := .lst ((cs.map V.ref).take i ++ [.ref y] ++ (cs.map V.ref).drop i)) hq5)
  have e5 : (cs.map V.ref).take i ++ [.ref y] ++ (cs.map V.ref).drop i = (cs.take i ++ [y] ++ cs.drop i).map V.ref := by
    rw [List.map_append, List.map_append, List.map_take, List.map_drop]; rfl
  rw [e5] at t9 ⊢
  generalize hHz : upd (upd (upd (upd H5 q2 (.lst [.ref y])) q3 (.lst ((cs.map V.ref).take i ++ [.ref y]))) q4 (.lst ((cs.map V.ref).drop i))) q5 (.lst ((cs.take i ++ [y] ++ cs.drop i).map V.ref)) = Hz at *
  have hz5 : Hz q5 = some (.lst ((cs.take i ++ [y] ++ cs.drop i).map V.ref)) := by rw [← hHz, upd_same]
  have s5z : Same H5 Hz := by
    rw [← hHz]
    exact (same_upd hq2).trans ((same_upd hq3).trans ((same_upd hq4).trans (same_upd hq5)))
  have clz := clc4.same t9
  have eA : As ws zs' = (As ws zs).take i ++ [pageA ws z] ++ (As ws zs).drop i := by
    rw [← hzs']
    show List.map _ _ = _
    rw [List.map_append, List.map_append, List.map_take, List.map_drop]; rfl
  have cln : Cl c Hz ws.length (cs.take i ++ [y] ++ cs.drop i) (As ws zs') := by
    rw [eA]
    exact ((clz.take i).app (Cl.one (isc_same hy s5z))).app (clz.drop i)
  have okz' : ∀ z' ∈ zs', OkZ ws z' := fun z' hz' => by
    rw [← hzs'] at hz'
    simp only [List.mem_append, List.mem_singleton] at hz'
    rcases hz' with (hz' | hz') | hz'
    · exact hB.okz _ (List.mem_of_mem_take hz')
    · rw [hz']; exact okz
    · exact hB.okz _ (List.mem_of_mem_drop hz')
  have len' : (zs'.map (·.length)).sum ≤ 16 := by rw [← hzs', sum_ins]; exact hsum
  have n12' : zs'.length ≤ 12 := by
    rw [← hzs', List.length_append, List.length_append, List.length_take, List.length_drop, List.length_singleton]
    omega
  walk_at "run"
  refine ⟨q5, ws.length, As ws zs', rfl, cln.lv hz5, as_pg hB.okw okz' len', by rw [List.length_map]; omega, fun H6 lv Ls s6 nlv nLs ndl hlv lev => ?_⟩
  have t10 := t9.trans s6
  have hx6 := t10 _ _ hx4
  walk_at "run"
  simp only [hx6, insO_i, opt_some, pf3_l]
  have back : ∀ b, Hz b = none → H b = none := fun b e => by
    have n4 : H4 b = none := none_back t9 e
    have n3 : H3 b = none := by
      cases zz : H3 b with
      | none => rfl
      | some o =>
        have nb : b ∉ [B.pl] := fun e => by rw [List.mem_singleton] at e; rw [e, hp4] at n4; cases n4
        rw [fr4 _ _ nb zz] at n4; cases n4
    exact none_back sA n3
  have fx : Frame [B.x] H6 (upd H6 B.x (.ins c.Binder B.dx [("calendar", .ref B.k), ("_page_list", .ref B.pl), ("_levels", .ref lv)])) := fun b o hb e => by rw [upd_ne (fun z => hb (by rw [z]; exact List.mem_singleton.mpr rfl))]; exact e
  have Fkx : ∀ b ∈ [B.x], Fk H6 b := fun b hb => by rw [List.mem_singleton] at hb; subst hb; exact .inr ⟨_, _, _, _, _, hx6⟩
  have nx : ∀ b, H6 b ≠ H6 B.x → b ∉ [B.x] := fun b h e => h (by rw [List.mem_singleton] at e; rw [e])
  have res := IsB.anew (H' := upd H6 B.x (.ins c.Binder B.dx [("calendar", .ref B.k), ("_page_list", .ref B.pl), ("_levels", .ref lv)])) (lv := lv) (Ls := Ls) (zs' := zs') hB (fun b o hb e => ?_) upd_same ?_ ?_ ⟨lev.pos, lev.top, lev.few, fun j a e => (lev.ok j a e).frame fx (nx a fun ee => ?_) Fkx⟩ (back _ nlv) (fun b hb => back _ (nLs b hb)) ndl okz' len' n12'
  · exact ⟨by simp, q _ _ res.1 res.2⟩
  · simp only [List.mem_cons, List.not_mem_nil, or_false, not_or] at hb
    rw [upd_ne hb.1]
    exact t10 _ _ (fr4 _ _ (by rw [List.mem_singleton]; exact hb.2) (sA _ _ e))
  · rw [upd_ne nxp.symm]; exact t10 _ _ hp4
  · refine fx _ _ (nx lv fun ee => ?_) hlv
    rw [hlv, hx6] at ee; cases ee
  · obtain ⟨xs, hxs⟩ := (lev.ok j a e).lst
    rw [hxs, hx6] at ee; cases ee
end
end Ly

/-! SeC -/
set_option Elab.async false
set_option linter.all false
set_option maxRecDepth 100000
set_option maxHeartbeats 4000000
namespace Ly
open PySem PySem.Spec PyProof.Rows L2 M
local macro_rules | `(tactic| walk_at "run") => `(tactic| (try simp only [r_seq, r_next, r_cont, r_break, r_asg, r_name, r_sub, r_drop, r_ret, r_retN, r_if, r_ite, r_never, r_var, r_c, r_bin, r_un, r_tB, r_T, r_chain, r_and, r_or, r_not, r_andV, r_orV, r_notV, r_nil, r_cons, r_lst, r_tup, r_cb, r_call, r_lm, r_sm, r_fld, r_prop, r_meth, r_setF, r_aug, r_slice, r_no, r_some, r_revS, r_listR, r_g2, r_yes, r_for, r_comp, r_iter, r_iter', r_iterT, r_iterS, r_rng1, r_rng2, r_rngD, r_enum, r_zip, set0, setS, List.getElem?_cons_zero, List.getElem?_cons_succ, opt_some, opt_none, v_add_i, v_add_s, v_add_l, v_sub, v_mul_i, v_mul_l, v_mod, v_div, v_shl, v_shr, v_band, v_neg, v_lt, v_lt_s, v_le, v_le_s, v_gt, v_ge, v_eq_i, v_ne_i, v_eq_s, v_ne_s, v_in_l, v_in_s, v_idx, v_idx_s, v_slice, v_len, v_len_s, v_list, v_tuple, v_int, v_abs, v_max, v_min, v_maxL, v_sum, v_append, v_insert, v_popAt, v_pop, v_join, v_toB, v_tru_b, v_aug, v_set, v_ins, ints_bind, strs_bind, lst?_eq, tup?_eq, seq?_eq, lstO_l, lstO_f, lstW_l, tupO_t, seqO_l, seqO_t, insO_i, upd_same, upd_old, Option.isSome_some, List.length_map, wipe_one, Int.zero_add, Int.toNat_natCast, true_and]))
local macro_rules | `(tactic| walk_at "runs") => `(tactic| (try simp only [r_seq, r_next, r_cont, r_break, r_asg, r_name, r_sub, r_drop, r_ret, r_retN, r_if, r_ite, r_never, r_var, r_c, r_bin, r_un, r_tB, r_T, r_chain, r_and, r_or, r_not, r_andV, r_orV, r_notV, r_nil, r_cons, r_lst, r_tup, r_cb, r_call, r_lm, r_sm, r_fld, r_prop, r_meth, r_setF, r_aug, r_slice, r_no, r_some, r_revS, r_listR, r_g2, r_yes, r_for, r_comp, r_iter, r_iter', r_iterT, r_iterS, r_rng1, r_rng2, r_rngD, r_enum, r_zip, set0, setS, List.getElem?_cons_zero, List.getElem?_cons_succ, opt_some, opt_none, v_add_i, v_add_s, v_add_l, v_sub, v_mul_i, v_mul_l, v_mod, v_div, v_shl, v_shr, v_band, v_neg, v_lt, v_lt_s, v_le, v_le_s, v_gt, v_ge, v_eq_i, v_ne_i, v_eq_s, v_ne_s, v_in_l, v_in_s, v_idx, v_idx_s, v_slice, v_len, v_len_s, v_list, v_tuple, v_int, v_abs, v_max, v_min, v_maxL, v_sum, v_append, v_insert, v_popAt, v_pop, v_join, v_toB, v_tru_b, v_aug, v_set, v_ins, ints_bind, strs_bind, lst?_eq, tup?_eq, seq?_eq, lstO_l, lstO_f, lstW_l, tupO_t, seqO_l, seqO_t, insO_i, upd_same, upd_old, Option.isSome_some, List.length_map, wipe_one, Int.zero_add, Int.toNat_natCast, true_and, *]))
section
variable {c : CA} {vs : List V} {H : Hp} {Q : VK} {E : XK}
theorem bq_part (f : Str) (h : (("part" : Str) == f) = false) : True := trivial
theorem sem_Binder_part_count (h : sp_Binder_part_count c vs H Q E) : t_Binder_part_count c E (De Q) (start ["self", "first", "last", "begin", "end"] vs) H := by
  obtain ⟨B, ws, zs, f, l, b, e, rfl, hB, hfl, hl, hbe, sb, se, q⟩ := h
  show t_Binder_part_count c E _ [some (.ref B.x), some (.int f), some (.int l), some (.int b), some (.int e)] H
  unfold t_Binder_part_count
  have lk1 : (B.fs).lookup ("part" : Str) = none := lk3_n (by decide +kernel) (by decide +kernel) (by decide +kernel)
  have pg := hB.pg
  walk_at "run"
  simp only [hB.hx, insO_i, opt_some]
  refine ⟨lk1, B, ws, zs, f, l, rfl, hB, hfl, hl, fun H1 y s1 ny hy => ?_⟩
  have spg := seg_pg pg f (l - f)
  obtain ⟨dx, t, hy1, hy2⟩ := id hy
  have lk2 : ([("_heights", V.ref t)] : List (Str × V)).lookup ("count" : Str) = none := lk1_n (by decide +kernel)
  walk_at "run"
  simp only [hy1, insO_i, opt_some]
  refine ⟨lk2, ?_⟩
  try (walk_at "run")
  exact ⟨y, b, e, ws.length, _, _, rfl, hy, spg.gf, hbe, sb, se, fun H2 s2 => q H2 (s1.trans s2)⟩
theorem take_sum (zs : List Str) (i : Nat) : ((zs.take i ++ zs.drop (i + 1)).map (·.length)).sum ≤ (zs.map (·.length)).sum := by
  have h : (zs.map (·.length)).sum = ((zs.take i).map (·.length)).sum + ((zs.drop i).map (·.length)).sum := by rw [← List.sum_append, ← List.map_append, List.take_append_drop]
  rw [h, List.map_append, List.sum_append]
  have : ((zs.drop (i + 1)).map (·.length)).sum ≤ ((zs.drop i).map (·.length)).sum := by
    by_cases hi : i < zs.length
    · rw [List.drop_eq_getElem_cons hi, List.map_cons, List.sum_cons]; omega
    · rw [List.drop_of_length_le (by omega)]; simp
  omega
theorem sem_Binder_remove (h : sp_Binder_remove c vs H Q E) : t_Binder_remove c E (De Q) (start ["self", "number", "casts"] vs) H := by
  obtain ⟨B, ws, zs, i, z, rfl, hB, hz, q⟩ := h
  show t_Binder_remove c E _ [some (.ref B.x), some (.int i), none] H
  unfold t_Binder_remove
  have hi : i < zs.length := (List.getElem?_eq_some_iff.mp hz).1
  obtain ⟨a0, ha0⟩ : ∃ a, B.Ls[0]? = some a := ⟨_, List.getElem?_eq_getElem hB.lev.pos⟩
  have a1 := atI_ref ha0
  rw [Int.natCast_zero] at a1
  obtain ⟨cs, hcs, clc⟩ := (hB.lev.ok 0 a0 ha0).cl
  have lcs : cs.length = zs.length := by rw [clc.1]; exact List.length_map ..
  have n12 := hB.n12
  have smz : ∀ n : Nat, n ≤ 100 → n ≤ sizeLine := fun n hn => Nat.le_of_lt (small_line (by omega))
  walk_at "run"
  simp only [hB.hx, insO_i, opt_some, lk3_p, v_len, hB.hp, seqO_l, List.length_map]
  walk_at "run"
  refine ⟨i, (zs.length : Int), rfl, by omega, by omega, ?_⟩
  walk_at "run"
  simp only [hB.hx, insO_i, opt_some, lk3_l, v_idx, hB.hv, seqO_l, a1]
  walk_at "run"
  simp only [hcs, lstO_l, opt_some]
  rw [cut_take (xs := cs.map V.ref) (i := i) (by rw [List.length_map]; omega)]
  intro q1 hq1
  have t1 := same_upd (o := .lst ((cs.map V.ref).take i)) hq1
  have ei : (i : Int) + 1 = ((i + 1 : Nat) : Int) := by omega
  walk_at "run"
  simp only [t1 _ _ hcs, lstO_l, opt_some, ei]
  rw [cut_drop (xs := cs.map V.ref) (i := i + 1) (by rw [List.length_map]; omega)]
  intro q2 hq2
  have t2 := t1.trans (same_upd (o := .lst ((cs.map V.ref).drop (i + 1))) hq2)
  have h1' := upd_old' (H := upd H q1 (.lst ((cs.map V.ref).take i))) (o := .lst ((cs.map V.ref).drop (i + 1))) hq2 upd_same
  walk_at "run"
  simp only [h1', upd_same, lstW_l, opt_some]
  refine ⟨by rw [List.length_take, List.length_drop, List.length_map]; exact smz _ (by omega), fun q3 hq3 => ?_⟩
  have t3 := t2.trans (same_upd (o := .lst ((cs.map V.ref).take i ++ (cs.map V.ref).drop (i + 1))) hq3)
  have e5 : (cs.map V.ref).take i ++ (cs.map V.ref).drop (i + 1) = (cs.take i ++ cs.drop (i + 1)).map V.ref := by
    rw [List.map_append, List.map_take, List.map_drop]
  rw [e5] at t3 ⊢
  generalize hHz : upd (upd (upd H q1 (.lst ((cs.map V.ref).take i))) q2 (.lst ((cs.map V.ref).drop (i + 1)))) q3 (.lst ((cs.take i ++ cs.drop (i + 1)).map V.ref)) = Hz at *
  have hz5 : Hz q3 = some (.lst ((cs.take i ++ cs.drop (i + 1)).map V.ref)) := by rw [← hHz, upd_same]
  have clz := clc.same t3
  generalize hzs' : zs.take i ++ zs.drop (i + 1) = zs' at *
  have eA : As ws zs' = (As ws zs).take i ++ (As ws zs).drop (i + 1) := by
    rw [← hzs']
    show List.map _ _ = _
    rw [List.map_append, List.map_take, List.map_drop]
  have cln : Cl c Hz ws.length (cs.take i ++ cs.drop (i + 1)) (As ws zs') := by
    rw [eA]
    exact (clz.take i).app (clz.drop (i + 1))
  have okz' : ∀ z' ∈ zs', OkZ ws z' := fun z' hz' => by
    rw [← hzs'] at hz'
    simp only [List.mem_append] at hz'
    rcases hz' with hz' | hz'
    · exact hB.okz _ (List.mem_of_mem_take hz')
    · exact hB.okz _ (List.mem_of_mem_drop hz')
  have len' : (zs'.map (·.length)).sum ≤ 16 := by
    rw [← hzs']
    refine Nat.le_trans (take_sum zs i) ?_
    rw [← flat_len (ws := ws)]
    exact hB.len
  have n12' : zs'.length ≤ 12 := by
    rw [← hzs', List.length_append, List.length_take, List.length_drop]
    omega
  walk_at "run"
  refine ⟨q3, ws.length, As ws zs', rfl, cln.lv hz5, as_pg hB.okw okz' len', by rw [List.length_map]; omega, fun H6 lv Ls s6 nlv nLs ndl hlv lev => ?_⟩
  have t10 := t3.trans s6
  have hB6 := hB.same t10
  have hx6 := hB6.hx
  walk_at "run"
  simp only [hx6, insO_i, opt_some, pf3_l]
  have back : ∀ b, Hz b = none → H b = none := fun b e => none_back t3 e
  have nxp : B.x ≠ B.pl := fun e => by have := hB.hx; rw [e, hB.hp] at this; cases this
  generalize hH7 : upd H6 B.x (.ins c.Binder B.dx [("calendar", .ref B.k), ("_page_list", .ref B.pl), ("_levels", .ref lv)]) = H7
  have hx7 : H7 B.x = some (.ins c.Binder B.dx [("calendar", .ref B.k), ("_page_list", .ref B.pl), ("_levels", .ref lv)]) := by rw [← hH7, upd_same]
  have fx : Frame [B.x] H6 H7 := fun b o hb e => by rw [← hH7, upd_ne (fun z => hb (by rw [z]; exact List.mem_singleton.mpr rfl))]; exact e
  have Fkx : ∀ b ∈ [B.x], Fk H6 b := fun b hb => by rw [List.mem_singleton] at hb; subst hb; exact .inr ⟨_, _, _, _, _, hx6⟩
  have nx : ∀ b, H6 b ≠ H6 B.x → b ∉ [B.x] := fun b h e => h (by rw [List.mem_singleton] at e; rw [e])
  have hp7 : H7 B.pl = some (.lst (zs.map V.str)) := fx _ _ (by rw [List.mem_singleton]; exact nxp.symm) hB6.hp
  refine ⟨by simp, ?_⟩
  walk_at "run"
  have sq : seqIndex? (i : Int) zs.length = some i := by
    unfold seqIndex?
    have h1 : ¬ (i : Int) < 0 := by omega
    have h2 : (0 : Int) ≤ i := by omega
    have h3 : (i : Int) < zs.length := by omega
    simp [h1, h2, h3]
  simp only [hx7, insO_i, opt_some, lk3_p, hp7, lstO_l, lstW_l]
  try (walk_at "run")
  try simp only [hp7, lstO_l, lstW_l, opt_some]
  have hzv : (zs.map V.str)[i]? = some (.str z) := by rw [List.getElem?_map, hz]; rfl
  simp only [List.length_map, sq, opt_some, hzv]
  have ee : (zs.map V.str).eraseIdx i = zs'.map V.str := by
    rw [← hzs', List.eraseIdx_eq_take_drop_succ, List.map_append, List.map_take, List.map_drop]
  rw [ee]
  have fp : Frame [B.pl] H7 (upd H7 B.pl (.lst (zs'.map V.str))) := fun b o hb e => by rw [upd_ne (fun z => hb (by rw [z]; exact List.mem_singleton.mpr rfl))]; exact e
  have Fkp : ∀ b ∈ [B.pl], Fk H7 b := fun b hb => by rw [List.mem_singleton] at hb; subst hb; exact .inl ⟨_, hp7⟩
  have npH : ∀ b, H b = none → b ≠ B.pl := fun b e z => by rw [z, hB.hp] at e; cases e
  have res := IsB.anew (H' := upd H7 B.pl (.lst (zs'.map V.str))) (lv := lv) (Ls := Ls) (zs' := zs') hB (fun b o hb e => ?_) ?_ upd_same ?_ ⟨lev.pos, lev.top, lev.few, fun j a e => ((lev.ok j a e).frame fx (nx a fun ee => ?_) Fkx).frame fp ?_ Fkp⟩ (back _ nlv) (fun b hb => back _ (nLs b hb)) ndl okz' len' n12'
  · exact ⟨by omega, by omega, q _ _ res.1 res.2⟩
  · simp only [List.mem_cons, List.not_mem_nil, or_false, not_or] at hb
    rw [upd_ne hb.2]
    exact fx _ _ (by rw [List.mem_singleton]; exact hb.1) (t10 _ _ e)
  · rw [upd_ne nxp]; exact hx7
  · rw [upd_ne (npH _ (back _ nlv))]
    refine fx _ _ (nx lv fun ee => ?_) hlv
    rw [hlv, hx6] at ee; cases ee
  · obtain ⟨xs, hxs⟩ := (lev.ok j a e).lst
    rw [hxs, hx6] at ee; cases ee
  · rw [List.mem_singleton]
    exact npH _ (back _ (nLs _ (List.mem_of_getElem? e)))
end
end Ly

/-! SeD -/
set_option Elab.async false
set_option linter.all false
set_option maxRecDepth 100000
set_option maxHeartbeats 4000000
namespace Ly
open PySem PySem.Spec PyProof.Rows L2 M
local macro_rules | `(tactic| walk_at "run") => `(tactic| (try simp only [r_seq, r_next, r_cont, r_break, r_asg, r_name, r_sub, r_drop, r_ret, r_retN, r_if, r_ite, r_never, r_var, r_c, r_bin, r_un, r_tB, r_T, r_chain, r_and, r_or, r_not, r_andV, r_orV, r_notV, r_nil, r_cons, r_lst, r_tup, r_cb, r_call, r_lm, r_sm, r_fld, r_prop, r_meth, r_setF, r_aug, r_slice, r_no, r_some, r_revS, r_listR, r_g2, r_yes, r_for, r_comp, r_iter, r_iter', r_iterT, r_iterS, r_rng1, r_rng2, r_rngD, r_enum, r_zip, set0, setS, List.getElem?_cons_zero, List.getElem?_cons_succ, opt_some, opt_none, v_add_i, v_add_s, v_add_l, v_sub, v_mul_i, v_mul_l, v_mod, v_div, v_shl, v_shr, v_band, v_neg, v_lt, v_lt_s, v_le, v_le_s, v_gt, v_ge, v_eq_i, v_ne_i, v_eq_s, v_ne_s, v_in_l, v_in_s, v_idx, v_idx_s, v_slice, v_len, v_len_s, v_list, v_tuple, v_int, v_abs, v_max, v_min, v_maxL, v_sum, v_append, v_insert, v_popAt, v_pop, v_join, v_toB, v_tru_b, v_aug, v_set, v_ins, ints_bind, strs_bind, lst?_eq, tup?_eq, seq?_eq, lstO_l, lstO_f, lstW_l, tupO_t, seqO_l, seqO_t, insO_i, upd_same, upd_old, Option.isSome_some, List.length_map, wipe_one, Int.zero_add, Int.toNat_natCast, true_and]))
local macro_rules | `(tactic| walk_at "runs") => `(tactic| (try simp only [r_seq, r_next, r_cont, r_break, r_asg, r_name, r_sub, r_drop, r_ret, r_retN, r_if, r_ite, r_never, r_var, r_c, r_bin, r_un, r_tB, r_T, r_chain, r_and, r_or, r_not, r_andV, r_orV, r_notV, r_nil, r_cons, r_lst, r_tup, r_cb, r_call, r_lm, r_sm, r_fld, r_prop, r_meth, r_setF, r_aug, r_slice, r_no, r_some, r_revS, r_listR, r_g2, r_yes, r_for, r_comp, r_iter, r_iter', r_iterT, r_iterS, r_rng1, r_rng2, r_rngD, r_enum, r_zip, set0, setS, List.getElem?_cons_zero, List.getElem?_cons_succ, opt_some, opt_none, v_add_i, v_add_s, v_add_l, v_sub, v_mul_i, v_mul_l, v_mod, v_div, v_shl, v_shr, v_band, v_neg, v_lt, v_lt_s, v_le, v_le_s, v_gt, v_ge, v_eq_i, v_ne_i, v_eq_s, v_ne_s, v_in_l, v_in_s, v_idx, v_idx_s, v_slice, v_len, v_len_s, v_list, v_tuple, v_int, v_abs, v_max, v_min, v_maxL, v_sum, v_append, v_insert, v_popAt, v_pop, v_join, v_toB, v_tru_b, v_aug, v_set, v_ins, ints_bind, strs_bind, lst?_eq, tup?_eq, seq?_eq, lstO_l, lstO_f, lstW_l, tupO_t, seqO_l, seqO_t, insO_i, upd_same, upd_old, Option.isSome_some, List.length_map, wipe_one, Int.zero_add, Int.toNat_natCast, true_and, *]))
theorem ixN_nat {n i : Nat} (h : i < n) : ixN n (i : Int) = some i := by
  rw [ixN_of (by omega) (by omega), Int.toNat_natCast]
theorem get_set {α : Type} {cs : List α} {i j : Nat} {y b : α} (h : (cs.set i y)[j]? = some b) : (j = i ∧ b = y) ∨ (j ≠ i ∧ cs[j]? = some b) := by
  by_cases hj : j = i
  · subst hj
    have hl := (List.getElem?_eq_some_iff.mp h).1
    rw [List.length_set] at hl
    rw [List.getElem?_set_self hl] at h
    cases h
    exact .inl ⟨rfl, rfl⟩
  · rw [List.getElem?_set_ne (fun z => hj z.symm)] at h
    exact .inr ⟨hj, h⟩
section
variable {c : CA} {vs : List V} {H : Hp} {Q : VK} {E : XK}
theorem sum_set (zs : List Str) (i : Nat) (z : Str) (hi : i < zs.length) : ((zs.take i ++ [z] ++ zs.drop (i + 1)).map (·.length)).sum = ((zs.set i z).map (·.length)).sum := by
  rw [List.set_eq_take_append_cons_drop, if_pos hi, List.append_assoc]; rfl
theorem sem_Binder_setitem (h : sp_Binder___setitem__ c vs H Q E) : t_Binder___setitem__ c E (De Q) (start ["self", "number", "page", "level", "index"] vs) H := by
  obtain ⟨B, ws, zs, i, z, rfl, hB, hi, okz, hsum, q⟩ := h
  show t_Binder___setitem__ c E _ [some (.ref B.x), some (.int i), some (.str z), none, none] H
  unfold t_Binder___setitem__
  have n12 := hB.n12
  have smz : ∀ n : Nat, n ≤ 100 → n ≤ sizeLine := fun n hn => Nat.le_of_lt (small_line (by omega))
  walk_at "run"
  simp only [hB.hx, insO_i, opt_some, lk3_p, v_len, hB.hp, seqO_l, List.length_map]
  walk_at "run"
  refine ⟨i, (zs.length : Int), rfl, by omega, by omega, ?_⟩
  walk_at "run"
  simp only [hB.hx, insO_i, opt_some, lk3_c]
  refine ⟨B.k, ws, z, rfl, hB.cal, okz, fun H1 s1 => ?_⟩
  have hB1 := hB.same s1
  walk_at "run"
  simp only [hB1.hx, insO_i, opt_some, lk3_p]
  try (walk_at "run")
  try simp only [hB1.hp, lstO_l, opt_some]
  rw [cut_take (xs := zs.map V.str) (i := i) (by rw [List.length_map]; omega)]
  intro q1 hq1
  have t1 := same_upd (o := .lst ((zs.map V.str).take i)) hq1
  walk_at "run"
  refine ⟨by show 1 ≤ sizeLine; decide, fun q2 hq2 => ?_⟩
  have h1' := upd_old' (H := upd H1 q1 (.lst ((zs.map V.str).take i))) (o := .lst [.str z]) hq2 upd_same
  have t2 := t1.trans (same_upd (o := .lst [.str z]) hq2)
  walk_at "run"
  simp only [h1', upd_same, lstW_l, opt_some]
  refine ⟨by rw [List.length_take, List.length_map]; exact smz _ (by show min i zs.length + 1 ≤ 100; omega), fun q3 hq3 => ?_⟩
  have t3 := t2.trans (same_upd (o := .lst ((zs.map V.str).take i ++ [.str z])) hq3)
  have ei : (i : Int) + 1 = ((i + 1 : Nat) : Int) := by omega
  walk_at "run"
  simp only [t3 _ _ hB1.hx, insO_i, opt_some, lk3_p]
  try (walk_at "run")
  simp only [t3 _ _ hB1.hp, lstO_l, opt_some, ei]
  rw [cut_drop (xs := zs.map V.str) (i := i + 1) (by rw [List.length_map]; omega)]
  intro q4 hq4
  have h3' := upd_old' (H := upd (upd (upd H1 q1 (.lst ((zs.map V.str).take i))) q2 (.lst [.str z])) q3 (.lst ((zs.map V.str).take i ++ [.str z]))) (o := .lst ((zs.map V.str).drop (i + 1))) hq4 upd_same
  have t4 := t3.trans (same_upd (o := .lst ((zs.map V.str).drop (i + 1))) hq4)
  walk_at "run"
  simp only [h3', upd_same, lstW_l, opt_some]
  refine ⟨by rw [List.length_append, List.length_take, List.length_drop, List.length_map]; exact smz _ (by show min i zs.length + 1 + (zs.length - (i + 1)) ≤ 100; omega), fun q5 hq5 => ?_⟩
  have t5 := t4.trans (same_upd (o := .lst ((zs.map V.str).take i ++ [.str z] ++ (zs.map V.str).drop (i + 1))) hq5)
  have e5 : (zs.map V.str).take i ++ [.str z] ++ (zs.map V.str).drop (i + 1) = (zs.take i ++ [z] ++ zs.drop (i + 1)).map V.str := by
    rw [List.map_append, List.map_append, List.map_take, List.map_drop]; rfl
  rw [e5] at t5 ⊢
  walk_at "run"
  refine ⟨q5, zs.take i ++ [z] ++ zs.drop (i + 1), rfl, .inl upd_same, by rw [sum_set _ _ _ hi]; exact hsum, by rw [List.length_append, List.length_append, List.length_take, List.length_drop, List.length_singleton]; omega, fun H3 s3 => ?_⟩
  have sA : Same H H3 := s1.trans (t5.trans s3)
  have hB3 := hB.same sA
  have nd := hB3.nd
  generalize hzs' : zs.set i z = zs' at *
  have lz' : zs'.length = zs.length := by rw [← hzs', List.length_set]
  have eA : As ws zs' = (As ws zs).set i (pageA ws z) := by
    rw [← hzs']
    show List.map _ _ = _
    rw [List.map_set]
  have lA : (As ws zs).length = zs.length := List.length_map ..
  have lA' : (As ws zs').length = zs.length := by rw [← lz']; exact List.length_map ..
  obtain ⟨a0, ha0⟩ : ∃ a, B.Ls[0]? = some a := ⟨_, List.getElem?_eq_getElem hB.lev.pos⟩
  have a1 := atI_ref ha0
  rw [Int.natCast_zero] at a1
  obtain ⟨cs, hcs, clc⟩ := (hB3.lev.ok 0 a0 ha0).cl
  have lcs : cs.length = zs.length := by rw [clc.1]; exact List.length_map ..
  walk_at "run"
  simp only [hB3.hx, insO_i, opt_some, lk3_p]
  try (walk_at "run")
  simp only [hB3.hp, lstW_l, opt_some, List.length_map, ixN_nat hi]
  have ev : (zs.map V.str).set i (.str z) = zs'.map V.str := by rw [← hzs', List.map_set]
  rw [ev]
  have na0 : a0 ≠ B.pl := fun e => by
    have := List.mem_of_getElem? ha0
    rw [e] at this
    simp only [List.nodup_cons] at nd
    exact nd.2.2.1 this
  have nxp : B.x ≠ B.pl := fun e => by have := hB3.hx; rw [e, hB3.hp] at this; cases this
  have nkp : B.k ≠ B.pl := fun e => by have := hB3.hk; rw [e, hB3.hp] at this; cases this
  have nlp : B.l ≠ B.pl := fun e => by
    simp only [List.nodup_cons, List.mem_cons] at nd
    exact nd.2.1 (.inl e)
  have nvp : B.lv ≠ B.pl := fun e => by
    simp only [List.nodup_cons, List.mem_cons] at nd
    exact nd.1 (.inr (.inl e))
  have npL : ∀ b ∈ B.Ls, b ≠ B.pl := fun b hb e => by
    simp only [List.nodup_cons, List.mem_cons] at nd
    rw [e] at hb
    exact nd.2.2.1 hb
  have nvL : ∀ b ∈ B.Ls, b ≠ B.lv := fun b hb e => by
    simp only [List.nodup_cons, List.mem_cons] at nd
    rw [e] at hb
    exact nd.1 (.inr (.inr hb))
  have nlL : ∀ b ∈ B.Ls, b ≠ B.l := fun b hb e => by
    simp only [List.nodup_cons, List.mem_cons] at nd
    rw [e] at hb
    exact nd.2.1 (.inr hb)
  have ndL : B.Ls.Nodup := by
    simp only [List.nodup_cons] at nd
    exact nd.2.2.2
  generalize hH4 : upd H3 B.pl (.lst (zs'.map V.str)) = H4
  have fr4 : Frame [B.pl] H3 H4 := fun b o hb e => by rw [← hH4, upd_ne (fun z => hb (by rw [z]; exact List.mem_singleton.mpr rfl))]; exact e
  have Fk4 : ∀ b ∈ [B.pl], Fk H3 b := fun b hb => by rw [List.mem_singleton] at hb; subst hb; exact .inl ⟨_, hB3.hp⟩
  have hp4 : H4 B.pl = some (.lst (zs'.map V.str)) := by rw [← hH4, upd_same]
  have n4 : ∀ b, b ≠ B.pl → b ∉ [B.pl] := fun b h e => h (by rw [List.mem_singleton] at e; exact e)
  have hx4 := fr4 _ _ (n4 _ nxp) hB3.hx
  have hk4 := fr4 _ _ (n4 _ nkp) hB3.hk
  have hl4 := fr4 _ _ (n4 _ nlp) hB3.hl
  have hv4 := fr4 _ _ (n4 _ nvp) hB3.hv
  have hcs4 := fr4 _ _ (n4 _ na0) hcs
  have lv4 : ∀ (j : Nat) (a : Addr), B.Ls[j]? = some a → LvOk c H4 ws.length (As ws zs) j a := fun j a e => (hB3.lev.ok j a e).frame fr4 (n4 _ (npL _ (List.mem_of_getElem? e))) Fk4
  have clc4 := clc.frame fr4 Fk4
  walk_at "run"
  simp only [hx4, insO_i, opt_some, lk3_c]
  refine ⟨B.k, ws, z, rfl, ⟨_, _, hk4, hl4⟩, okz, fun H5 y s5 ny hy => ?_⟩
  have hx5 := s5 _ _ hx4
  have hv5 := s5 _ _ hv4
  have hcs5 := s5 _ _ hcs4
  walk_at "run"
  simp only [hx5, insO_i, opt_some, lk3_l, v_idx, hv5, seqO_l, a1]
  try (walk_at "run")
  simp only [hcs5, lstW_l, opt_some, List.length_map, lcs, ixN_nat hi]
  have ec : (cs.map V.ref).set i (.ref y) = (cs.set i y).map V.ref := by rw [List.map_set]
  rw [ec]
  generalize hH6 : upd H5 a0 (.lst ((cs.set i y).map V.ref)) = H6
  have fr6 : Frame [a0] H5 H6 := fun b o hb e => by rw [← hH6, upd_ne (fun z => hb (by rw [z]; exact List.mem_singleton.mpr rfl))]; exact e
  have Fk6 : ∀ b ∈ [a0], Fk H5 b := fun b hb => by rw [List.mem_singleton] at hb; subst hb; exact .inl ⟨_, hcs5⟩
  have m0 := List.mem_of_getElem? ha0
  have nx0 : B.x ≠ a0 := fun e => by rw [e, hcs5] at hx5; cases hx5
  have n6 : ∀ b, b ≠ a0 → b ∉ [a0] := fun b h e => h (by rw [List.mem_singleton] at e; exact e)
  have nk0 : B.k ≠ a0 := fun e => by have := s5 _ _ hk4; rw [e, hcs5] at this; cases this
  -- where the other levels are told apart
  have apart : ∀ (t v : Nat) (a b : Addr), B.Ls[t]? = some a → B.Ls[v]? = some b → t ≠ v → a ≠ b := fun t v a b h1 h2 h3 e => by
    obtain ⟨l1, e1⟩ := List.getElem?_eq_some_iff.mp h1
    obtain ⟨l2, e2⟩ := List.getElem?_eq_some_iff.mp h2
    exact h3 ((List.getElem_inj ndL).mp (by rw [e1, e2]; exact e))
  have pgA' : PG ws.length (As ws zs').flatten := as_pg hB.okw (fun z' hz' => by
    rw [← hzs'] at hz'
    rcases List.mem_or_eq_of_mem_set hz' with h | h
    · exact hB.okz _ h
    · rw [h]; exact okz) hsum
  have sgA : ∀ (t m : Nat), m ≠ i / 2 ^ t → seg (As ws zs') (m * 2 ^ t) (2 ^ t) = seg (As ws zs) (m * 2 ^ t) (2 ^ t) := fun t m hm => by
    rw [eA]
    refine seg_set ?_
    rcases Nat.lt_or_gt_of_ne hm with h | h
    · right
      have h1 : (m + 1) * 2 ^ t ≤ i / 2 ^ t * 2 ^ t := Nat.mul_le_mul_right _ h
      have h2 := Nat.div_mul_le_self i (2 ^ t)
      rw [Nat.add_mul, Nat.one_mul] at h1
      omega
    · left
      have h1 : (i / 2 ^ t + 1) * 2 ^ t ≤ m * 2 ^ t := Nat.mul_le_mul_right _ h
      have h2 : i < (i / 2 ^ t + 1) * 2 ^ t := by
        have := Nat.lt_div_mul_add (a := i) (b := 2 ^ t) (pow_pos2 t)
        rw [Nat.add_mul, Nat.one_mul]
        omega
      omega
  have lpos := hB.lev.pos
  have Lsm : B.Ls.length ≤ 20 := hB.lev.few
  have rs1 : rngOk (1 : Int) := rng_small (by decide) (by decide)
  have rsL : rngOk (B.Ls.length : Int) := rng_small (by omega) (by omega)
  have hx6 := fr6 _ _ (n6 _ nx0) hx5
  have hv6 := fr6 _ _ (n6 _ (nvL _ m0).symm) hv5
  walk_at "run"
  simp only [hx6, insO_i, opt_some, lk3_l, v_len, hv6, seqO_l, List.length_map]
  try (walk_at "run")
  refine ⟨⟨rs1, rsL⟩, ?_⟩
  have nxL : B.x ∉ B.Ls := fun e => by
    obtain ⟨xs, hxs⟩ := hB.lsl e
    rw [hB.hx] at hxs; cases hxs
  have nkL : B.k ∉ B.Ls := fun e => by
    obtain ⟨xs, hxs⟩ := hB.lsl e
    rw [hB.hk] at hxs; cases hxs
  refine for_rng (P := fun j σ H' => ∃ (v3 v4 : Option V), σ = [some (.ref B.x), some (.int i), some (.str z), v3, v4] ∧ Frame B.Ls H6 H' ∧ ∀ (t : Nat) (a : Addr), B.Ls[t]? = some a → ∃ ds : List Addr, H' a = some (.lst (ds.map V.ref)) ∧ ds.length = zs.length / 2 ^ t ∧ ∀ (m : Nat) (b : Addr), ds[m]? = some b → (t < j + 1 ∨ m ≠ i / 2 ^ t) → IsC c H' b ws.length (pageF ws.length (seg (As ws zs') (m * 2 ^ t) (2 ^ t))))
    ⟨none, none, rfl, fun b o _ e => e, fun t a ht => ?_⟩ (fun j σ H' N hj ⟨v3, v4, e1, fr, lev⟩ hN => ?_) (fun σ H' ⟨v3, v4, e1, fr, lev⟩ => ?_)
  · by_cases h0 : t = 0
    · subst h0
      rw [ha0] at ht
      cases ht
      refine ⟨cs.set i y, by rw [← hH6, upd_same], by rw [List.length_set, lcs, Nat.pow_zero, Nat.div_one], fun m b hm _ => ?_⟩
      rw [Nat.pow_zero, Nat.mul_one]
      rcases get_set hm with ⟨rfl, rfl⟩ | ⟨hne, hm⟩
      · have : seg (As ws zs') m 1 = pageA ws z := by
          rw [seg_one (by rw [lA']; exact hi)]
          simp only [eA]
          rw [List.getElem_set_self]
        rw [this]
        exact isc_frame hy fr6 Fk6
      · have hml : m < zs.length := by rw [← lcs]; exact (List.getElem?_eq_some_iff.mp hm).1
        have e := sgA 0 m (by rw [Nat.pow_zero, Nat.div_one]; exact hne)
        rw [Nat.pow_zero, Nat.mul_one] at e
        rw [e, seg_one (by rw [lA]; exact hml)]
        exact isc_frame (isc_same (clc4.2 m b _ hm (List.getElem?_eq_getElem (by rw [lA]; exact hml))) s5) fr6 Fk6
    · obtain ⟨ds, h1, h2, h3⟩ := lv4 t a ht
      have nae : a ≠ a0 := apart t 0 a a0 ht ha0 h0
      refine ⟨ds, fr6 _ _ (n6 _ nae) (s5 _ _ h1), by rw [h2, lA], fun m b hm hc => ?_⟩
      have hne : m ≠ i / 2 ^ t := by
        rcases hc with h | h
        · omega
        · exact h
      rw [sgA t m hne]
      exact isc_frame (isc_same (h3 m b hm) s5) fr6 Fk6
  · subst e1
    have hjL : j + 1 < B.Ls.length := by omega
    have e1 : (1 : Int) + (j : Int) = ((j + 1 : Nat) : Int) := by omega
    have nn : (0 : Int) ≤ ((j + 1 : Nat) : Int) := by omega
    have es : (i : Int) / 2 ^ (j + 1) = ((i / 2 ^ (j + 1) : Nat) : Int) := by rw [Int.natCast_ediv]; simp
    obtain ⟨a, ha⟩ : ∃ a, B.Ls[j + 1]? = some a := ⟨_, List.getElem?_eq_getElem hjL⟩
    obtain ⟨b, hb⟩ : ∃ b, B.Ls[j]? = some b := ⟨_, List.getElem?_eq_getElem (by omega)⟩
    obtain ⟨ds, hd, hdl, hds⟩ := lev _ a ha
    obtain ⟨es', he, hel, hes⟩ := lev _ b hb
    have aa := atI_ref ha
    have ab := atI_ref hb
    have hx' := fr _ _ nxL hx6
    have hv' := fr _ _ (fun e => nvL _ e rfl) hv6
    rw [e1]
    walk_at "run"
    refine ⟨nn, ?_⟩
    simp only [es]
    simp only [hx', insO_i, opt_some, lk3_l, v_idx, hv', seqO_l, aa]
    try (walk_at "run")
    simp only [hd, seqO_l, opt_some, List.length_map, hdl]
    by_cases hlt : ((i / 2 ^ (j + 1) : Nat) : Int) < ((zs.length / 2 ^ (j + 1) : Nat) : Int)
    · have hlt' : i / 2 ^ (j + 1) < zs.length / 2 ^ (j + 1) := by omega
      simp only [hlt, decide_true, if_true]
      try (walk_at "run")
      have ej : ((j + 1 : Nat) : Int) - 1 = (j : Int) := by omega
      simp only [hx', insO_i, opt_some, lk3_l, v_idx, hv', seqO_l, ej, ab]
      have hd2 := div_succ2 zs.length j
      obtain ⟨x1, hx1⟩ : ∃ x, es'[2 * (i / 2 ^ (j + 1))]? = some x := ⟨_, List.getElem?_eq_getElem (by rw [hel]; omega)⟩
      obtain ⟨y1, hy1⟩ : ∃ y, es'[2 * (i / 2 ^ (j + 1)) + 1]? = some y := ⟨_, List.getElem?_eq_getElem (by rw [hel]; omega)⟩
      obtain ⟨pA, pB, hAB⟩ := seg_pair_pg pgA' (i / 2 ^ (j + 1)) j
      have small : zs.length / 2 ^ (j + 1) ≤ 12 := Nat.le_trans (Nat.div_le_self _ _) n12
      refine ⟨b, x1, y1, i / 2 ^ (j + 1), ws.length, _, _, es', rfl, he, by omega, hx1, hy1, hes _ _ hx1 (.inl (by omega)), hes _ _ hy1 (.inl (by omega)), pA, pB, hAB, fun H7 w s7 nw hw => ?_⟩
      rw [← seg_pair] at hw
      have hx7 := s7 _ _ hx'
      have hv7 := s7 _ _ hv'
      have hd7 := s7 _ _ hd
      try (walk_at "run")
      simp only [hx7, insO_i, opt_some, lk3_l, v_idx, hv7, seqO_l, aa]
      try (walk_at "run")
      simp only [hd7, lstW_l, opt_some, List.length_map, hdl, ixN_nat hlt']
      have ew : (ds.map V.ref).set (i / 2 ^ (j + 1)) (.ref w) = (ds.set (i / 2 ^ (j + 1)) w).map V.ref := by rw [List.map_set]
      rw [ew]
      have f8 : ∀ o, Frame [a] H7 (upd H7 a o) := fun o b u hb e => by rw [upd_ne (fun z => hb (by rw [z]; exact List.mem_singleton.mpr rfl))]; exact e
      have Fk8 : ∀ b ∈ [a], Fk H7 b := fun b hb => by rw [List.mem_singleton] at hb; subst hb; exact .inl ⟨_, hd7⟩
      refine hN _ _ ⟨_, _, rfl, fun b' o hb' e => ?_, fun t a' ht => ?_⟩
      · rw [upd_ne (fun z => hb' (by rw [z]; exact List.mem_of_getElem? ha))]
        exact s7 _ _ (fr _ _ hb' e)
      · by_cases ht2 : t = j + 1
        · subst ht2
          rw [ha] at ht
          cases ht
          refine ⟨_, upd_same, by rw [List.length_set, hdl], fun m b' hm _ => ?_⟩
          rcases get_set hm with ⟨rfl, rfl⟩ | ⟨hne, hm⟩
          · exact isc_frame hw (f8 _) Fk8
          · exact isc_frame (isc_same (hds m b' hm (.inr hne)) s7) (f8 _) Fk8
        · obtain ⟨ds2, g1, g2, g3⟩ := lev t a' ht
          refine ⟨ds2, ?_, g2, fun m b' hm hc => isc_frame (isc_same (g3 m b' hm ?_) s7) (f8 _) Fk8⟩
          · rw [upd_ne (apart t (j + 1) a' a ht ha ht2)]
            exact s7 _ _ g1
          · rcases hc with h | h
            · left; omega
            · exact .inr h
    · have hlt' : zs.length / 2 ^ (j + 1) ≤ i / 2 ^ (j + 1) := by omega
      simp only [hlt, decide_false, Bool.false_eq_true, if_false]
      try (walk_at "run")
      refine hN _ _ ⟨_, _, rfl, fr, fun t a' ht => ?_⟩
      obtain ⟨ds2, g1, g2, g3⟩ := lev t a' ht
      refine ⟨ds2, g1, g2, fun m b' hm hc => g3 m b' hm ?_⟩
      by_cases ht2 : t = j + 1
      · right
        have := (List.getElem?_eq_some_iff.mp hm).1
        rw [g2, ht2] at this
        rw [ht2]
        omega
      · rcases hc with h | h
        · left; omega
        · exact .inr h
  · subst e1
    have okz' : ∀ z' ∈ zs', OkZ ws z' := fun z' hz' => by
      rw [← hzs'] at hz'
      rcases List.mem_or_eq_of_mem_set hz' with h | h
      · exact hB.okz _ h
      · rw [h]; exact okz
    have notin : ∀ b, b ∉ B.fp → b ≠ B.pl ∧ b ∉ B.Ls := fun b hb => ⟨fun e => hb (by rw [e]; exact List.mem_cons_of_mem _ (List.mem_cons_self ..)), fun e => hb (List.mem_cons_of_mem _ (List.mem_cons_of_mem _ e))⟩
    have frAll : Frame B.fp H H' := fun b o hb e => by
      obtain ⟨h1, h2⟩ := notin b hb
      exact fr _ _ h2 (fr6 _ _ (n6 _ fun z => h2 (by rw [z]; exact m0)) (s5 _ _ (fr4 _ _ (n4 _ h1) (sA _ _ e))))
    have hx' := fr _ _ nxL hx6
    have hp6 : H6 B.pl = some (.lst (zs'.map V.str)) := fr6 _ _ (n6 _ fun e => npL _ m0 e.symm) (s5 _ _ hp4)
    have hp' := fr _ _ (fun e => npL _ e rfl) hp6
    refine q H' B ⟨rfl, rfl, rfl, rfl, .inl rfl, rfl, fun b hb => .inl hb, frAll, fun b hb => ?_⟩ ⟨hx', ?_, ?_, hp', fr _ _ (fun e => nvL _ e rfl) hv6, ⟨lpos, ?_, Lsm, fun t a ht => ?_⟩, okz', hB.okw, by rw [flat_len]; exact hsum, by rw [lz']; exact n12, hB.nd⟩
    · by_cases h1 : b ∈ B.fp
      · rcases List.mem_cons.mp h1 with e | h1
        · rw [e, hx']; simp
        · rcases List.mem_cons.mp h1 with e | h1
          · rw [e, hp']; simp
          · obtain ⟨t, ht, e⟩ := List.getElem_of_mem h1
            obtain ⟨ds, g1, _⟩ := lev t b (by rw [List.getElem?_eq_getElem ht, e])
            rw [g1]; simp
      · cases e : H b with
        | none => exact (hb e).elim
        | some o => rw [frAll b o h1 e]; simp
    · exact fr _ _ nkL (fr6 _ _ (n6 _ nk0) (s5 _ _ hk4))
    · exact fr _ _ (fun e => nlL _ e rfl) (fr6 _ _ (n6 _ (nlL _ m0).symm) (s5 _ _ hl4))
    · have t := hB.lev.top
      rw [lA] at t
      rw [lA']
      exact t
    · obtain ⟨ds, g1, g2, g3⟩ := lev t a ht
      have htl := (List.getElem?_eq_some_iff.mp ht).1
      refine ⟨ds, g1, by rw [g2, lA'], fun m b hm => g3 m b hm (.inl ?_)⟩
      omega
end
end Ly

/-! Ld -/
set_option Elab.async false
set_option linter.all false
set_option maxRecDepth 100000
set_option maxHeartbeats 4000000
namespace Ly
open PySem PySem.Spec PyProof.Rows L2 M
/-- a slice of a list, the caller's own too -/
def wSliceK (K : PySem.W.Frag) (te : TE) (tl th : TOp) : TE := fun σ H Q => te σ H fun x H1 => tl σ H1 fun l H2 => th σ H2 fun u H3 => rSlL K x l u H3 Q
theorem d_sliceK {X : Cx} {e : Expr} {te : TE} {lo hi : Option Expr} {tl th : TOp} {p2 pos : Pos} (he : PE X e te) (hl : PO X lo tl) (hu : PO X hi th) : PE X (.Subscript e (.Slice lo hi none p2) pos) (wSliceK X.K te tl th) := pe_slice sl_list he hl hu
theorem r_sliceK {K : PySem.W.Frag} {te : TE} {tl th : TOp} {σ : L2.St} {H : Hp} {Q : VK} : wSliceK K te tl th σ H Q = te σ H fun x H1 => tl σ H1 fun l H2 => th σ H2 fun u H3 => rSlL K x l u H3 Q := rfl
/-! ### pages by codes -/
def stOf (P k : Nat) : List Int := ((List.range P).filter fun p => k / 2 ^ p % 2 == 1).map fun p : Nat => (p : Int)
abbrev stL (P : Nat) (ks : List Nat) : List (List Int) := ks.map (stOf P)
def OkC (P : Nat) (ks : List Nat) : Prop := ∀ k ∈ ks, 1 ≤ k ∧ k < 2 ^ P
def zOf (ks : List Nat) : Str := ⟨(ks.map (96 + ·)).toArray⟩
theorem every_all : ∀ P ∈ [1, 2, 3, 4], ∀ k ∈ List.range 16, (1 ≤ k ∧ k < 2 ^ P) → standsL (everyW P) (96 + k) = stOf P k ∧ ((everyW P).any fun w => has w (96 + k)) = true := by decide +kernel
theorem every_code {P k : Nat} (h0 : 0 < P) (h4 : P ≤ 4) (h1 : 1 ≤ k) (h2 : k < 2 ^ P) : standsL (everyW P) (96 + k) = stOf P k ∧ sign (everyW P) (96 + k) := by
  have hp : P ∈ [1, 2, 3, 4] := by
    have : P = 1 ∨ P = 2 ∨ P = 3 ∨ P = 4 := by omega
    rcases this with rfl | rfl | rfl | rfl <;> simp
  have h16 : k < 16 := Nat.lt_of_lt_of_le h2 (by
    have : P = 1 ∨ P = 2 ∨ P = 3 ∨ P = 4 := by omega
    rcases this with rfl | rfl | rfl | rfl <;> decide)
  obtain ⟨a, b⟩ := every_all P hp k (List.mem_range.mpr h16) ⟨h1, h2⟩
  obtain ⟨w, hw, hk⟩ := List.any_eq_true.mp b
  exact ⟨a, by omega, by omega, w, hw, hk⟩
theorem zOf_len {ks : List Nat} : (zOf ks).length = ks.length := by
  show ((ks.map (96 + ·)).toArray).size = _
  simp
theorem zOf_cps {ks : List Nat} : (zOf ks).cps.toList = ks.map (96 + ·) := List.toList_toArray
theorem okZ_of {P : Nat} {ks : List Nat} (h0 : 0 < P) (h4 : P ≤ 4) (h : OkC P ks) (hl : ks.length ≤ 16) : OkZ (everyW P) (zOf ks) := by
  refine ⟨okW_every h0 h4, fun k hk => ?_, by rw [zOf_len]; exact hl⟩
  rw [zOf_cps] at hk
  obtain ⟨j, hj, rfl⟩ := List.mem_map.mp hk
  exact (every_code h0 h4 (h j hj).1 (h j hj).2).2
theorem pageA_of {P : Nat} {ks : List Nat} (h0 : 0 < P) (h4 : P ≤ 4) (h : OkC P ks) : pageA (everyW P) (zOf ks) = stL P ks := by
  unfold pageA
  rw [zOf_cps, List.map_map]
  exact List.map_congr_left fun k hk => (every_code h0 h4 (h k hk).1 (h k hk).2).1
theorem everyW_len {P : Nat} : (everyW P).length = P := by unfold everyW; rw [List.length_map, List.length_range]
/-! ### what may change -/
structure Ch (F : List Addr) (H H' : Hp) : Prop where
  fr : Frame F H H'
  dom : ∀ b, H' b = none → H b = none
theorem Ch.of {F : List Addr} {H H' : Hp} (s : Same H H') : Ch F H H' := ⟨fun b o _ e => s b o e, fun b e => none_back s e⟩
theorem Ch.trans {F : List Addr} {H H' H2 : Hp} (s : Ch F H H') (t : Ch F H' H2) : Ch F H H2 := ⟨fun b o hb e => t.fr b o hb (s.fr b o hb e), fun b e => s.dom b (t.dom b e)⟩
theorem Ch.mono {F G : List Addr} {H H' : Hp} (s : Ch F H H') (h : ∀ b ∈ F, b ∈ G) : Ch G H H' := ⟨fun b o hb e => s.fr b o (fun z => hb (h b z)) e, s.dom⟩
def Dom (F : List Addr) (H : Hp) : Prop := ∀ b ∈ F, H b ≠ none
theorem Dom.ch {F G : List Addr} {H H' : Hp} (d : Dom F H) (s : Ch G H H') : Dom F H' := fun b hb e => d b hb (s.dom b e)
theorem Dom.nin {F : List Addr} {H : Hp} (d : Dom F H) {b : Addr} (h : H b = none) : b ∉ F := fun hb => d b hb h
/-- a list of lists of ints, none of them in F -/
def LLF (F : List Addr) (H : Hp) (a : Addr) (A : List (List Int)) : Prop := a ∉ F ∧ ∃ bs : List Addr, H a = some (.lst (bs.map V.ref)) ∧ bs.length = A.length ∧ ∀ (i : Nat) (b : Addr) (S : List Int), bs[i]? = some b → A[i]? = some S → IL H b S ∧ b ∉ F
theorem LLF.ll {F : List Addr} {H : Hp} {a : Addr} {A : List (List Int)} (h : LLF F H a A) : LL H a A := by
  obtain ⟨_, bs, h1, h2, h3⟩ := h
  exact ⟨bs, h1, h2, fun i b S e1 e2 => (h3 i b S e1 e2).1⟩
theorem LLF.ch {F : List Addr} {H H' : Hp} {a : Addr} {A : List (List Int)} (h : LLF F H a A) (s : Frame F H H') : LLF F H' a A := by
  obtain ⟨h0, bs, h1, h2, h3⟩ := h
  exact ⟨h0, bs, s _ _ h0 h1, h2, fun i b S e1 e2 => ⟨s _ _ (h3 i b S e1 e2).2 (h3 i b S e1 e2).1, (h3 i b S e1 e2).2⟩⟩
theorem LLF.sub {F G : List Addr} {H : Hp} {a : Addr} {A : List (List Int)} (h : LLF F H a A) (s : ∀ b ∈ G, b ∈ F ∨ H b = none) : LLF G H a A := by
  obtain ⟨h0, bs, h1, h2, h3⟩ := h
  have no : ∀ b o, b ∉ F → H b = some o → b ∉ G := fun b o hb e z => by
    rcases s b z with h | h
    · exact hb h
    · rw [h] at e; cases e
  exact ⟨no _ _ h0 h1, bs, h1, h2, fun i b S e1 e2 => ⟨(h3 i b S e1 e2).1, no _ _ (h3 i b S e1 e2).2 (h3 i b S e1 e2).1⟩⟩
/-- pages -/
def PLF (F : List Addr) (P : Nat) (H : Hp) (a : Addr) (pcs : List (List Nat)) : Prop := a ∉ F ∧ ∃ bs : List Addr, H a = some (.lst (bs.map V.ref)) ∧ bs.length = pcs.length ∧ ∀ (i : Nat) (b : Addr) (ks : List Nat), bs[i]? = some b → pcs[i]? = some ks → LLF F H b (stL P ks)
theorem PLF.ch {F : List Addr} {P : Nat} {H H' : Hp} {a : Addr} {A : List (List Nat)} (h : PLF F P H a A) (s : Frame F H H') : PLF F P H' a A := by
  obtain ⟨h0, bs, h1, h2, h3⟩ := h
  exact ⟨h0, bs, s _ _ h0 h1, h2, fun i b S e1 e2 => (h3 i b S e1 e2).ch s⟩
theorem PLF.sub {F G : List Addr} {P : Nat} {H : Hp} {a : Addr} {A : List (List Nat)} (h : PLF F P H a A) (s : ∀ b ∈ G, b ∈ F ∨ H b = none) : PLF G P H a A := by
  obtain ⟨h0, bs, h1, h2, h3⟩ := h
  refine ⟨fun z => ?_, bs, h1, h2, fun i b S e1 e2 => (h3 i b S e1 e2).sub s⟩
  rcases s a z with h | h
  · exact h0 h
  · rw [h] at h1; cases h1
/-- the state of the draws -/
def Dr (H : Hp) (a l : Addr) : Prop := ∃ (left at_ : Int) (cs : List Int), 0 ≤ left ∧ 0 ≤ at_ ∧ cs.length ≤ 100 ∧ H a = some (.lst [.int left, .int at_, .ref l]) ∧ IL H l cs
theorem Dr.ch {F : List Addr} {H H' : Hp} {a l : Addr} (h : Dr H a l) (s : Frame F H H') (ha : a ∉ F) (hl : l ∉ F) : Dr H' a l := by
  obtain ⟨x, y, cs, h1, h2, hc, h3, h4⟩ := h
  exact ⟨x, y, cs, h1, h2, hc, s _ _ ha h3, s _ _ hl h4⟩
def AllOk (P : Nat) (pcs : List (List Nat)) : Prop := ∀ ks ∈ pcs, OkC P ks ∧ ks.length ≤ 3
/-- the entries of the pages f .. l - 1 -/
def segC (P : Nat) (pcs : List (List Nat)) (f m : Nat) : List (List Int) := seg (pcs.map (stL P)) f m
def rowT (P : Nat) (pcs : List (List Nat)) (b : Int) (n f : Nat) : List Int := (List.range (pcs.length + 1 - f)).map fun j => ((cou P (segC P pcs f j) b n : Nat) : Int)
def tabT (P : Nat) (pcs : List (List Nat)) (b : Int) (n : Nat) : List (List Int) := (List.range (pcs.length + 1)).map (rowT P pcs b n)
/-! ### promises of the law's defs -/
def sp__law_draw (c : CA) : Sp := fun vs H Q _ => ∃ (a l : Addr) (lim : Int), vs = [.ref a, .int lim] ∧ Dr H a l ∧ 0 < lim ∧ lim < 1000 ∧ ∀ H' v, 0 ≤ v → v < lim → Ch [a] H H' → Dr H' a l → Q (.int v) H'
def sp__law_begin (c : CA) : Sp := fun vs H Q _ => ∃ (s : Addr) (ns : List Int), vs = [.ref s] ∧ SqL c.K H s (ns.map V.int) ∧ ∀ H' a l, Same H H' → H a = none → H l = none → a ≠ l → Dr H' a l → Q (.ref a) H'
def sp__law_best (c : CA) : Sp := fun vs H Q _ => ∃ (P : Nat) (s : Addr) (A : List (List Int)) (b e : Int), vs = [.int P, .ref s, .int b, .int e] ∧ 0 < P ∧ LL H s A ∧ OkP P A ∧ A.length ≤ 16 ∧ sm b ∧ sm e ∧ ∀ H', Same H H' → Q (.int (cou P A b (e - b).toNat)) H'
def sp__law_page (c : CA) : Sp := fun vs H Q _ => ∃ (P : Nat) (s : Addr) (ks : List Nat), vs = [.ref s] ∧ 0 < P ∧ P ≤ 4 ∧ LL H s (stL P ks) ∧ OkC P ks ∧ ks.length ≤ 16 ∧ ∀ H', Same H H' → Q (.str (zOf ks)) H'
def sp__law_numbers (c : CA) : Sp := fun vs H Q _ => ∃ (s : Addr) (ns : List Int), vs = [.ref s] ∧ IL H s ns ∧ Q (.bl true) H
def sp__law_stands (c : CA) : Sp := fun vs H Q _ => ∃ (P k : Nat), vs = [.int P, .int k] ∧ P ≤ 4 ∧ ∀ H' p, Same H H' → H p = none → IL H' p (stOf P k) → Q (.ref p) H'
def sp__law_entries (c : CA) : Sp := fun vs H Q _ => ∃ (a l : Addr) (P many : Nat) (sh : Int) (F : List Addr), vs = [.ref a, .int P, .int many, .int sh] ∧ Dr H a l ∧ 0 < P ∧ P ≤ 4 ∧ many ≤ 3 ∧ 0 ≤ sh ∧ Dom F H ∧
  ∀ H' p ks, Ch [a] H H' → Dr H' a l → H p = none → OkC P ks → ks.length = many → LLF F H' p (stL P ks) → Q (.ref p) H'
def sp__law_binder (c : CA) : Sp := fun vs H Q _ => ∃ (k pg : Addr) (P : Nat) (pcs : List (List Nat)), vs = [.ref k, .ref pg] ∧ 0 < P ∧ P ≤ 4 ∧ IsCal c H k (everyW P) ∧ PLF [] P H pg pcs ∧ AllOk P pcs ∧ pcs.length ≤ 4 ∧
  ∀ H' B, Same H H' → B.k = k → (∀ b ∈ B.fp, H b = none) → H B.lv = none → IsB c H' B (everyW P) (pcs.map zOf) → Q (.ref B.x) H'
def sp__law_other (c : CA) : Sp := fun vs H Q _ => ∃ (a l pg : Addr) (P : Nat) (ks : List Nat) (F : List Addr), vs = [.ref a, .int P, .ref pg] ∧ Dr H a l ∧ 0 < P ∧ P ≤ 4 ∧ a ∈ F ∧ Dom F H ∧ LLF F H pg (stL P ks) ∧ OkC P ks ∧ ks.length ≤ 3 ∧
  ∀ H' p ks', Ch [a] H H' → Dr H' a l → OkC P ks' → ks'.length ≤ 3 → LLF F H' p (stL P ks') → Q (.ref p) H'
def sp__law_counts (c : CA) : Sp := fun vs H Q _ => ∃ (B : BD) (pg : Addr) (P : Nat) (pcs : List (List Nat)) (b e : Int) (F : List Addr), vs = [.int P, .ref B.x, .ref pg, .int b, .int e] ∧ 0 < P ∧ P ≤ 4 ∧ IsB c H B (everyW P) (pcs.map zOf) ∧ PLF [] P H pg pcs ∧ AllOk P pcs ∧ pcs.length ≤ 5 ∧ b ≤ e ∧ sm b ∧ sm e ∧ Dom F H ∧
  ∀ H' p, Same H H' → LLF F H' p (tabT P pcs b (e - b).toNat) → Q (.ref p) H'
def getT (T : List (List Int)) (f j : Nat) : Int := (T.getD f []).getD j 0
/-- a three-cornered table of n rows -/
structure Tri (T : List (List Int)) (n : Nat) : Prop where
  len : T.length = n
  row : ∀ f, f < n → (T.getD f []).length = n - f
def sp__law_replaced (c : CA) : Sp := fun vs H Q _ => ∃ (x y : Addr) (T U : List (List Int)) (n at_ m : Nat), vs = [.ref x, .ref y, .int at_, .int m] ∧ LL H x T ∧ LL H y U ∧ Tri T n ∧ Tri U n ∧ n ≤ 100 ∧
  (∀ f l, f ≤ l → l < n → (getT U f (l - f) - getT T f (l - f) ≤ m ∧ getT T f (l - f) - getT U f (l - f) ≤ m) ∧ (¬ (f ≤ at_ ∧ at_ < l) → getT U f (l - f) = getT T f (l - f))) ∧ Q (.bl true) H
def sp__law_grown (c : CA) : Sp := fun vs H Q _ => ∃ (x y : Addr) (T U : List (List Int)) (n at_ m : Nat), vs = [.ref x, .ref y, .int at_, .int m] ∧ LL H x T ∧ LL H y U ∧ Tri T n ∧ Tri U (n + 1) ∧ n ≤ 100 ∧
  (∀ f l, f ≤ l → l < n → (f ≤ at_ → at_ ≤ l → getT T f (l - f) ≤ getT U f (l + 1 - f) ∧ getT U f (l + 1 - f) ≤ getT T f (l - f) + m) ∧ (l ≤ at_ → getT U f (l - f) = getT T f (l - f)) ∧ (at_ ≤ f → getT U (f + 1) (l - f) = getT T f (l - f))) ∧ Q (.bl true) H
end Ly

/-! Rl -/
set_option Elab.async false
set_option linter.all false
set_option maxRecDepth 100000
set_option maxHeartbeats 4000000
namespace Ly
open PySem PySem.Spec PyProof.Rows L2 M
/-- _law_script, _law_cell -/
def t__law_begin (c : CA) (E : XK) : TS :=
  (tRet (tLst (tCons (wC (.int 0)) (tCons (wC (.int 0)) (tCons (wComp (wIter (wSliceK c.K (wVar 0) wNo (wSome (wC (.int 63))))) (gName 1) tYes (wCB intV (tCons (wVar 1) tNil)) [1]) tNil)))))
/-- _law_state, _law_limit, _law_cells, _law_value -/
def t__law_draw (c : CA) (E : XK) : TS :=
  (tSeq (tAsg (wBin idxV (wVar 0) (wC (.int 2))) (gName 2))
  (tSeq (wWhile (tAnd (wTB (wBin eqSV (wBin idxV (wVar 0) (wC (.int 0))) (wC (.int 0)))) (wTB (wBin ltV (wBin idxV (wVar 0) (wC (.int 1))) (wCB lenV (tCons (wVar 2) tNil)))))
  (tSeq (tAsg (wCB absVV (tCons (wCB intV (tCons (wBin idxV (wVar 2) (wBin idxV (wVar 0) (wC (.int 1)))) tNil)) tNil)) (gSub (wVar 0) (wC (.int 0)) setV))
  (tAsg (wBin addV (wBin idxV (wVar 0) (wC (.int 1))) (wC (.int 1))) (gSub (wVar 0) (wC (.int 1)) setV))))
  (tSeq (tAsg (wBin modV (wCB intV (tCons (wBin idxV (wVar 0) (wC (.int 0))) tNil)) (wVar 1)) (gName 3))
  (tSeq (tAsg (wBin divV (wCB intV (tCons (wBin idxV (wVar 0) (wC (.int 0))) tNil)) (wVar 1)) (gSub (wVar 0) (wC (.int 0)) setV))
  (tRet (wVar 3))))))
/-- _law_places, _law_sets, _law_begin_here, _law_end, _law_row, _law_place, _law_here, _law_number, _law_more -/
def t__law_best (c : CA) (E : XK) : TS :=
  (tSeq (tAsg (wBin mulV (tLst (tCons (wC (.int 0)) tNil)) (wBin addV (wCB lenV (tCons (wVar 1) tNil)) (wC (.int 1)))) (gName 4))
  (tSeq (wFor (wRng2 (wVar 2) (wVar 3)) (gName 5)
  (tSeq (tAsg (wBin modV (wCB intV (tCons (wVar 5) tNil)) (wVar 0)) (gName 6))
  (tSeq (wFor (wRngD (wCB lenV (tCons (wVar 1) tNil)) (wC (.int 0))) (gName 7)
  (tSeq (tAsg (wBin addV (wBin idxV (wVar 4) (wBin subV (wVar 7) (wC (.int 1)))) (wC (.int 1))) (gName 8))
  (tIfS (tAnd (wTB (wBin (inVV false) (wVar 6) (wBin idxV (wVar 1) (wBin subV (wVar 7) (wC (.int 1)))))) (wTB (wBin gtV (wVar 8) (wBin idxV (wVar 4) (wVar 7)))))
  (tAsg (wVar 8) (gSub (wVar 4) (wVar 7) setV))
  tNext)))
  (wFor (wRng2 (wC (.int 1)) (wBin addV (wCB lenV (tCons (wVar 1) tNil)) (wC (.int 1)))) (gName 7)
  (tIfS (wTB (wBin ltV (wBin idxV (wVar 4) (wVar 7)) (wBin idxV (wVar 4) (wBin subV (wVar 7) (wC (.int 1))))))
  (tAsg (wBin idxV (wVar 4) (wBin subV (wVar 7) (wC (.int 1)))) (gSub (wVar 4) (wVar 7) setV))
  tNext)))))
  (tRet (wBin idxV (wVar 4) (wCB lenV (tCons (wVar 1) tNil))))))
/-- _law_sets, _law_page_here, _law_stands_here, _law_code, _law_place -/
def t__law_page (c : CA) (E : XK) : TS :=
  (tSeq (tAsg (wC (.str "")) (gName 1))
  (tSeq (wFor (wIter (wVar 0)) (gName 2)
  (tSeq (tAsg (wC (.int 0)) (gName 3))
  (tSeq (wFor (wIter (wVar 2)) (gName 4)
  (tAsg (wBin addV (wVar 3) (wBin idxV (tLst (tCons (wC (.int 1)) (tCons (wC (.int 2)) (tCons (wC (.int 4)) (tCons (wC (.int 8)) tNil))))) (wVar 4))) (gName 3)))
  (tAsg (wBin addV (wVar 1) (wBin idxV (wC (.str "abcdefghijklmno")) (wBin subV (wVar 3) (wC (.int 1))))) (gName 1)))))
  (tRet (wVar 1))))
/-- _law_told, _law_item -/
def t__law_numbers (c : CA) (E : XK) : TS :=
  (tSeq (tIfS (tNot (wT (wCB (isiV "list") (tCons (wVar 0) (tCons (wC (.ty "list")) tNil)))))
  (tRet (wC (.bl false)))
  tNext)
  (tSeq (wFor (wIter (wVar 0)) (gName 1)
  (tIfS (tOr (tNot (wT (wCB (isiV "int") (tCons (wVar 1) (tCons (wC (.ty "int")) tNil))))) (wT (wCB (isiV "bool") (tCons (wVar 1) (tCons (wC (.ty "bool")) tNil)))))
  (tRet (wC (.bl false)))
  tNext))
  (tRet (wC (.bl true)))))
/-- _law_places, _law_code, _law_bits, _law_x -/
def t__law_stands (c : CA) (E : XK) : TS :=
  (tSeq (tAsg (tLst (tCons (wC (.int 1)) (tCons (wC (.int 2)) (tCons (wC (.int 4)) (tCons (wC (.int 8)) tNil))))) (gName 2))
  (tRet (wComp (wRng1 (wVar 0)) (gName 3) (wTB (wBin eqSV (wBin modV (wBin divV (wCB intV (tCons (wVar 1) tNil)) (wBin idxV (wVar 2) (wVar 3))) (wC (.int 2))) (wC (.int 1)))) (wVar 3) [3])))
/-- _law_state, _law_places, _law_many, _law_shift, _law_codes, _law_sets, _law_entry, _law_code -/
def t__law_entries (c : CA) (E : XK) : TS :=
  (tSeq (tAsg (wBin idxV (tLst (tCons (wC (.int 1)) (tCons (wC (.int 3)) (tCons (wC (.int 7)) (tCons (wC (.int 15)) tNil))))) (wBin subV (wVar 1) (wC (.int 1)))) (gName 4))
  (tSeq (tAsg (tLst tNil) (gName 5))
  (tSeq (wFor (wRng1 (wVar 2)) (gName 6)
  (tSeq (tAsg (wBin modV (wCB intV (tCons (wBin addV (wBin addV (wCall (sp__law_draw c) E (tCons (wVar 0) (tCons (wVar 4) tNil))) (wVar 3)) (wVar 6)) tNil)) (wVar 4)) (gName 7))
  (tDrop (wLM appendV (wVar 5) (tCons (wCall (sp__law_stands c) E (tCons (wVar 1) (tCons (wBin addV (wVar 7) (wC (.int 1))) tNil))) tNil)))))
  (tRet (wVar 5)))))
/-- _law_calendar, _law_pages, _law_binder_here, _law_page_here -/
def t__law_binder (c : CA) (E : XK) : TS :=
  (tSeq (tAsg (wCall (mkOf c.Binder (sp_Binder___init__ c)) E (tCons (wVar 0) tNil)) (gName 2))
  (tSeq (wFor (wIter (wVar 1)) (gName 3)
  (tDrop (wMeth c.Binder "insert" (sp_Binder_insert c) E (wVar 2) (tCons (wCB (lenOwnV c.Binder (sp_Binder___len__ c)) (tCons (wVar 2) tNil)) (tCons (wCall (sp__law_page c) E (tCons (wVar 3) tNil)) tNil)))))
  (tRet (wVar 2))))
/-- _law_state, _law_places, _law_page_here, _law_kind, _law_fresh -/
def t__law_other (c : CA) (E : XK) : TS :=
  (tSeq (tAsg (wCall (sp__law_draw c) E (tCons (wVar 0) (tCons (wC (.int 3)) tNil))) (gName 3))
  (tSeq (tAsg (wCall (sp__law_entries c) E (tCons (wVar 0) (tCons (wVar 1) (tCons (wBin idxV (tLst (tCons (wC (.int 1)) (tCons (wC (.int 2)) (tCons (wC (.int 3)) (tCons (wC (.int 0)) tNil))))) (wCall (sp__law_draw c) E (tCons (wVar 0) (tCons (wC (.int 4)) tNil)))) (tCons (wC (.int 2)) tNil))))) (gName 4))
  (tSeq (tIfS (tAnd (wTB (wBin eqSV (wVar 3) (wC (.int 1)))) (wTB (wBin ltV (wCB lenV (tCons (wVar 2) tNil)) (wC (.int 3)))))
  (tRet (wBin addV (wVar 2) (wSlice (wVar 4) wNo (wSome (wC (.int 1))))))
  tNext)
  (tSeq (tIfS (wTB (wBin eqSV (wVar 3) (wC (.int 2))))
  (tRet (wCB listV (tCons (wVar 2) tNil)))
  tNext)
  (tRet (wVar 4))))))
/-- _law_places, _law_binder_here, _law_pages, _law_begin_here, _law_end, _law_rows, _law_first, _law_row, _law_last, _law_sets, _law_page_here, _law_told, _law_due -/
def t__law_counts (c : CA) (E : XK) : TS :=
  (tSeq (tAsg (tLst tNil) (gName 5))
  (tSeq (wFor (wRng1 (wBin addV (wCB lenV (tCons (wVar 2) tNil)) (wC (.int 1)))) (gName 6)
  (tSeq (tAsg (tLst tNil) (gName 7))
  (tSeq (wFor (wRng2 (wVar 6) (wBin addV (wCB lenV (tCons (wVar 2) tNil)) (wC (.int 1)))) (gName 8)
  (tSeq (tAsg (tLst tNil) (gName 9))
  (tSeq (wFor (wIter (wSlice (wVar 2) (wSome (wVar 6)) (wSome (wVar 8)))) (gName 10)
  (tAsg (wBin addV (wVar 9) (wVar 10)) (gName 9)))
  (tSeq (tAsg (wMeth c.Binder "part_count" (sp_Binder_part_count c) E (wVar 1) (tCons (wVar 6) (tCons (wVar 8) (tCons (wVar 3) (tCons (wVar 4) tNil))))) (gName 11))
  (tSeq (tAsg (wCall (sp__law_best c) E (tCons (wVar 0) (tCons (wVar 9) (tCons (wVar 3) (tCons (wVar 4) tNil))))) (gName 12))
  (tSeq (tIfS (tOr (tNot (wT (wCall (sp__law_numbers c) E (tCons (tLst (tCons (wVar 11) tNil)) tNil)))) (wTB (wBin neSV (wVar 11) (wVar 12))))
  (tRet (tLst tNil))
  tNext)
  (tDrop (wLM appendV (wVar 7) (tCons (wVar 11) tNil)))))))))
  (tDrop (wLM appendV (wVar 5) (tCons (wVar 7) tNil))))))
  (tRet (wVar 5))))
/-- _law_before, _law_after, _law_at, _law_most, _law_first, _law_last, _law_old, _law_step -/
def t__law_replaced (c : CA) (E : XK) : TS :=
  (tSeq (wFor (wRng1 (wCB lenV (tCons (wVar 0) tNil))) (gName 4)
  (wFor (wRng2 (wVar 4) (wCB lenV (tCons (wVar 0) tNil))) (gName 5)
  (tSeq (tAsg (wBin idxV (wBin idxV (wVar 0) (wVar 4)) (wBin subV (wVar 5) (wVar 4))) (gName 6))
  (tSeq (tAsg (wCB absVV (tCons (wBin subV (wBin idxV (wBin idxV (wVar 1) (wVar 4)) (wBin subV (wVar 5) (wVar 4))) (wVar 6)) tNil)) (gName 7))
  (tIfS (tOr (wTB (wBin gtV (wVar 7) (wVar 3))) (tAnd (wTB (wBin gtV (wVar 7) (wC (.int 0)))) (tNot (wTB (wChain leV ltV (wVar 4) (wVar 2) (wVar 5))))))
  (tRet (wC (.bl false)))
  tNext)))))
  (tRet (wC (.bl true))))
/-- _law_before, _law_after, _law_at, _law_most, _law_first, _law_last, _law_base, _law_step -/
def t__law_grown (c : CA) (E : XK) : TS :=
  (tSeq (wFor (wRng1 (wCB lenV (tCons (wVar 0) tNil))) (gName 4)
  (wFor (wRng2 (wVar 4) (wCB lenV (tCons (wVar 0) tNil))) (gName 5)
  (tSeq (tAsg (wBin idxV (wBin idxV (wVar 0) (wVar 4)) (wBin subV (wVar 5) (wVar 4))) (gName 6))
  (tSeq (tIfS (wTB (wChain leV leV (wVar 4) (wVar 2) (wVar 5)))
  (tSeq (tAsg (wBin subV (wBin idxV (wBin idxV (wVar 1) (wVar 4)) (wBin subV (wBin addV (wVar 5) (wC (.int 1))) (wVar 4))) (wVar 6)) (gName 7))
  (tIfS (tOr (wTB (wBin ltV (wVar 7) (wC (.int 0)))) (wTB (wBin gtV (wVar 7) (wVar 3))))
  (tRet (wC (.bl false)))
  tNext))
  tNext)
  (tSeq (tIfS (tAnd (wTB (wBin leV (wVar 5) (wVar 2))) (wTB (wBin neSV (wBin idxV (wBin idxV (wVar 1) (wVar 4)) (wBin subV (wVar 5) (wVar 4))) (wVar 6))))
  (tRet (wC (.bl false)))
  tNext)
  (tIfS (tAnd (wTB (wBin geV (wVar 4) (wVar 2))) (wTB (wBin neSV (wBin idxV (wBin idxV (wVar 1) (wBin addV (wVar 4) (wC (.int 1)))) (wBin subV (wVar 5) (wVar 4))) (wVar 6))))
  (tRet (wC (.bl false)))
  tNext))))))
  (tRet (wC (.bl true))))
/-- _law_script, _law_state, _law_places, _law_many, _law_pages, _law_number, _law_size, _law_begin_here, _law_end, _law_calendar, _law_one, _law_two, _law_old, _law_at, _law_other_here, _law_changed, _law_new, _law_spot, _law_more, _law_longer, _law_grown_here, _law_page_here, _law_texts -/
def t_law (c : CA) (E : XK) : TS :=
  (tSeq (tAsg (wCall (sp__law_begin c) E (tCons (wVar 0) tNil)) (gName 1))
  (tSeq (tAsg (wBin idxV (tLst (tCons (wC (.int 2)) (tCons (wC (.int 3)) (tCons (wC (.int 1)) (tCons (wC (.int 4)) tNil))))) (wCall (sp__law_draw c) E (tCons (wVar 1) (tCons (wC (.int 4)) tNil)))) (gName 2))
  (tSeq (tAsg (wBin idxV (tLst (tCons (wC (.int 3)) (tCons (wC (.int 2)) (tCons (wC (.int 4)) (tCons (wC (.int 1)) tNil))))) (wCall (sp__law_draw c) E (tCons (wVar 1) (tCons (wC (.int 4)) tNil)))) (gName 3))
  (tSeq (tAsg (tLst tNil) (gName 4))
  (tSeq (wFor (wRng1 (wVar 3)) (gName 5)
  (tSeq (tAsg (wBin idxV (tLst (tCons (wC (.int 2)) (tCons (wC (.int 1)) (tCons (wC (.int 3)) (tCons (wC (.int 0)) tNil))))) (wCall (sp__law_draw c) E (tCons (wVar 1) (tCons (wC (.int 4)) tNil)))) (gName 6))
  (tDrop (wLM appendV (wVar 4) (tCons (wCall (sp__law_entries c) E (tCons (wVar 1) (tCons (wVar 2) (tCons (wVar 6) (tCons (wVar 5) tNil))))) tNil)))))
  (tSeq (tAsg (wBin subV (wBin modV (wCB intV (tCons (wBin addV (wC (.int 12)) (wCall (sp__law_draw c) E (tCons (wVar 1) (tCons (wC (.int 25)) tNil)))) tNil)) (wC (.int 25))) (wC (.int 12))) (gName 7))
  (tSeq (tAsg (wBin addV (wVar 7) (wBin modV (wCB intV (tCons (wBin addV (wC (.int 5)) (wCall (sp__law_draw c) E (tCons (wVar 1) (tCons (wC (.int 10)) tNil)))) tNil)) (wC (.int 10)))) (gName 8))
  (tSeq (tAsg (wCall (sp_Calendar_every c) E (tCons (wVar 2) tNil)) (gName 9))
  (tSeq (tAsg (wCall (sp__law_binder c) E (tCons (wVar 9) (tCons (wVar 4) tNil))) (gName 10))
  (tSeq (tAsg (wCall (sp__law_binder c) E (tCons (wVar 9) (tCons (wVar 4) tNil))) (gName 11))
  (tSeq (tAsg (wCall (sp__law_counts c) E (tCons (wVar 2) (tCons (wVar 10) (tCons (wVar 4) (tCons (wVar 7) (tCons (wVar 8) tNil)))))) (gName 12))
  (tSeq (tAsg (wBin modV (wCB intV (tCons (wBin addV (wC (.int 1)) (wCall (sp__law_draw c) E (tCons (wVar 1) (tCons (wVar 3) tNil)))) tNil)) (wVar 3)) (gName 13))
  (tSeq (tAsg (wCall (sp__law_other c) E (tCons (wVar 1) (tCons (wVar 2) (tCons (wBin idxV (wVar 4) (wVar 13)) tNil)))) (gName 14))
  (tSeq (tAsg (wBin addV (wBin addV (wSlice (wVar 4) wNo (wSome (wVar 13))) (tLst (tCons (wVar 14) tNil))) (wSlice (wVar 4) (wSome (wBin addV (wVar 13) (wC (.int 1)))) wNo)) (gName 15))
  (tSeq (tAsg (wCall (sp__law_page c) E (tCons (wVar 14) tNil)) (gSub (wVar 11) (wVar 13) (setOwnV c.Binder (sp_Binder___setitem__ c) E)))
  (tSeq (tAsg (wCall (sp__law_counts c) E (tCons (wVar 2) (tCons (wVar 11) (tCons (wVar 15) (tCons (wVar 7) (tCons (wVar 8) tNil)))))) (gName 16))
  (tSeq (tIfS (tOr (wTB (wBin (eqDV c.K) (wVar 12) (tLst tNil))) (wTB (wBin (eqDV c.K) (wVar 16) (tLst tNil))))
  (tRet (wC (.bl false)))
  tNext)
  (tSeq (tIfS (tNot (wT (wCall (sp__law_replaced c) E (tCons (wVar 12) (tCons (wVar 16) (tCons (wVar 13) (tCons (wCB maxV (tCons (wCB lenV (tCons (wVar 14) tNil)) (tCons (wCB lenV (tCons (wBin idxV (wVar 4) (wVar 13)) tNil)) tNil))) tNil)))))))
  (tRet (wC (.bl false)))
  tNext)
  (tSeq (tAsg (wBin modV (wCB intV (tCons (wBin addV (wC (.int 1)) (wCall (sp__law_draw c) E (tCons (wVar 1) (tCons (wBin addV (wVar 3) (wC (.int 1))) tNil)))) tNil)) (wBin addV (wVar 3) (wC (.int 1)))) (gName 17))
  (tSeq (tAsg (wCall (sp__law_entries c) E (tCons (wVar 1) (tCons (wVar 2) (tCons (wBin idxV (tLst (tCons (wC (.int 1)) (tCons (wC (.int 2)) (tCons (wC (.int 3)) (tCons (wC (.int 0)) tNil))))) (wCall (sp__law_draw c) E (tCons (wVar 1) (tCons (wC (.int 4)) tNil)))) (tCons (wC (.int 1)) tNil))))) (gName 18))
  (tSeq (tAsg (wBin addV (wBin addV (wSlice (wVar 15) wNo (wSome (wVar 17))) (tLst (tCons (wVar 18) tNil))) (wSlice (wVar 15) (wSome (wVar 17)) wNo)) (gName 19))
  (tSeq (tIfS (wTB (wBin notNV (wMeth c.Binder "insert" (sp_Binder_insert c) E (wVar 11) (tCons (wVar 17) (tCons (wCall (sp__law_page c) E (tCons (wVar 18) tNil)) tNil))) (wC .non)))
  (tRet (wC (.bl false)))
  tNext)
  (tSeq (tAsg (wCall (sp__law_counts c) E (tCons (wVar 2) (tCons (wVar 11) (tCons (wVar 19) (tCons (wVar 7) (tCons (wVar 8) tNil)))))) (gName 20))
  (tSeq (tIfS (tOr (wTB (wBin (eqDV c.K) (wVar 20) (tLst tNil))) (tNot (wT (wCall (sp__law_grown c) E (tCons (wVar 16) (tCons (wVar 20) (tCons (wVar 17) (tCons (wCB lenV (tCons (wVar 18) tNil)) tNil))))))))
  (tRet (wC (.bl false)))
  tNext)
  (tSeq (tIfS (wTB (wBin (neDV c.K) (wCall (sp__law_counts c) E (tCons (wVar 2) (tCons (wVar 10) (tCons (wVar 4) (tCons (wVar 7) (tCons (wVar 8) tNil)))))) (wVar 12)))
  (tRet (wC (.bl false)))
  tNext)
  (tSeq (tIfS (wTB (wBin neSV (wMeth c.Binder "remove" (sp_Binder_remove c) E (wVar 11) (tCons (wVar 17) tNil)) (wCall (sp__law_page c) E (tCons (wVar 18) tNil))))
  (tRet (wC (.bl false)))
  tNext)
  (tSeq (tAsg (wCall (sp__law_page c) E (tCons (wBin idxV (wVar 4) (wVar 13)) tNil)) (gSub (wVar 11) (wVar 13) (setOwnV c.Binder (sp_Binder___setitem__ c) E)))
  (tSeq (tIfS (wTB (wBin (neDV c.K) (wCall (sp__law_counts c) E (tCons (wVar 2) (tCons (wVar 11) (tCons (wVar 4) (tCons (wVar 7) (tCons (wVar 8) tNil)))))) (wVar 12)))
  (tRet (wC (.bl false)))
  tNext)
  (tSeq (tAsg (wComp (wIter (wVar 4)) (gName 21) tYes (wCall (sp__law_page c) E0 (tCons (wVar 21) tNil)) [21]) (gName 22))
  (tRet (wAnd (wBin (eqDV c.K) (wCB (listOwnV c.Binder (sp_Binder___iter__ c) (sp_Binder___len__ c)) (tCons (wVar 10) tNil)) (wVar 22)) (wBin (eqDV c.K) (wCB (listOwnV c.Binder (sp_Binder___iter__ c) (sp_Binder___len__ c)) (tCons (wVar 11) tNil)) (wVar 22)))))))))))))))))))))))))))))))))
end Ly

/-! Sf1 -/
set_option Elab.async false
set_option linter.all false
set_option maxRecDepth 100000
set_option maxHeartbeats 4000000
namespace Ly
open PySem PySem.Spec PyProof.Rows L2 M
theorem at3_0 {x y z : V} : atI [x, y, z] (0 : Int) = some x := rfl
theorem at3_1 {x y z : V} : atI [x, y, z] (1 : Int) = some y := rfl
theorem at3_2 {x y z : V} : atI [x, y, z] (2 : Int) = some z := rfl
theorem ix3_0 : ixN 3 (0 : Int) = some 0 := rfl
theorem ix3_1 : ixN 3 (1 : Int) = some 1 := rfl
theorem frame_upd {H : Hp} {a : Addr} {o : HO} : Frame [a] H (upd H a o) := fun b u hb e => by rw [upd_ne (fun z => hb (by rw [z]; exact List.mem_singleton.mpr rfl))]; exact e
theorem ch_upd {H : Hp} {a : Addr} {o : HO} : Ch [a] H (upd H a o) := ⟨frame_upd, fun b e => by
  by_cases h : b = a
  · subst h; rw [upd_same] at e; cases e
  · rw [upd_ne h] at e; exact e⟩
theorem at4_0 {x y z w : V} : atI [x, y, z, w] (0 : Int) = some x := rfl
theorem at4_1 {x y z w : V} : atI [x, y, z, w] (1 : Int) = some y := rfl
theorem at4_2 {x y z w : V} : atI [x, y, z, w] (2 : Int) = some z := rfl
theorem at4_3 {x y z w : V} : atI [x, y, z, w] (3 : Int) = some w := rfl
local macro_rules | `(tactic| walk_at "run") => `(tactic| (try simp only [r_seq, r_next, r_cont, r_break, r_asg, r_name, r_sub, r_drop, r_ret, r_retN, r_if, r_ite, r_never, r_var, r_c, r_bin, r_un, r_tB, r_T, r_chain, r_and, r_or, r_not, r_andV, r_orV, r_notV, r_nil, r_cons, r_lst, r_tup, r_cb, r_call, r_lm, r_sm, r_fld, r_prop, r_meth, r_setF, r_aug, r_slice, r_no, r_some, r_revS, r_listR, r_g2, r_yes, r_for, r_comp, r_iter, r_iter', r_iterT, r_iterS, r_rng1, r_rng2, r_rngD, r_enum, r_zip, set0, setS, List.getElem?_cons_zero, List.getElem?_cons_succ, opt_some, opt_none, v_add_i, v_add_s, v_add_l, v_sub, v_mul_i, v_mul_l, v_mod, v_div, v_shl, v_shr, v_band, v_neg, v_lt, v_lt_s, v_le, v_le_s, v_gt, v_ge, v_eq_i, v_ne_i, v_eq_s, v_ne_s, v_in_l, v_in_s, v_idx, v_idx_s, v_slice, v_len, v_len_s, v_list, v_tuple, v_int, v_abs, v_max, v_min, v_maxL, v_sum, v_append, v_insert, v_popAt, v_pop, v_join, v_toB, v_tru_b, v_aug, v_set, v_ins, ints_bind, strs_bind, lst?_eq, tup?_eq, seq?_eq, lstO_l, lstO_f, lstW_l, tupO_t, seqO_l, seqO_t, insO_i, upd_same, upd_old, Option.isSome_some, List.length_map, wipe_one, Int.zero_add, Int.toNat_natCast, true_and, at3_0, at3_1, at3_2, ix3_0, ix3_1, List.set_cons_zero, List.set_cons_succ, List.length_cons, List.length_nil, upd2, Nat.zero_add, v_own, v_iter, r_iterV, at4_0, at4_1, at4_2, at4_3, Nat.reduceAdd, opt_some]))
local macro_rules | `(tactic| walk_at "runs") => `(tactic| (try simp only [r_seq, r_next, r_cont, r_break, r_asg, r_name, r_sub, r_drop, r_ret, r_retN, r_if, r_ite, r_never, r_var, r_c, r_bin, r_un, r_tB, r_T, r_chain, r_and, r_or, r_not, r_andV, r_orV, r_notV, r_nil, r_cons, r_lst, r_tup, r_cb, r_call, r_lm, r_sm, r_fld, r_prop, r_meth, r_setF, r_aug, r_slice, r_no, r_some, r_revS, r_listR, r_g2, r_yes, r_for, r_comp, r_iter, r_iter', r_iterT, r_iterS, r_rng1, r_rng2, r_rngD, r_enum, r_zip, set0, setS, List.getElem?_cons_zero, List.getElem?_cons_succ, opt_some, opt_none, v_add_i, v_add_s, v_add_l, v_sub, v_mul_i, v_mul_l, v_mod, v_div, v_shl, v_shr, v_band, v_neg, v_lt, v_lt_s, v_le, v_le_s, v_gt, v_ge, v_eq_i, v_ne_i, v_eq_s, v_ne_s, v_in_l, v_in_s, v_idx, v_idx_s, v_slice, v_len, v_len_s, v_list, v_tuple, v_int, v_abs, v_max, v_min, v_maxL, v_sum, v_append, v_insert, v_popAt, v_pop, v_join, v_toB, v_tru_b, v_aug, v_set, v_ins, ints_bind, strs_bind, lst?_eq, tup?_eq, seq?_eq, lstO_l, lstO_f, lstW_l, tupO_t, seqO_l, seqO_t, insO_i, upd_same, upd_old, Option.isSome_some, List.length_map, wipe_one, Int.zero_add, Int.toNat_natCast, true_and, at3_0, at3_1, at3_2, ix3_0, ix3_1, List.set_cons_zero, List.set_cons_succ, List.length_cons, List.length_nil, upd2, Nat.zero_add, v_own, v_iter, r_iterV, at4_0, at4_1, at4_2, at4_3, Nat.reduceAdd, opt_some, *]))
section
variable {c : CA} {vs : List V} {H : Hp} {Q : VK} {E : XK}
theorem sem__law_draw (h : sp__law_draw c vs H Q E) : t__law_draw c E (De Q) (start ["_law_state", "_law_limit", "_law_cells", "_law_value"] vs) H := by
  obtain ⟨a, l, lim, rfl, ⟨left, at_, cs, h0, h1, hc, ha, hl⟩, l0, l1, q⟩ := h
  show t__law_draw c E _ [some (.ref a), some (.int lim), none, none] H
  unfold t__law_draw
  have nla : l ≠ a := fun e => by
    rw [e] at hl
    have : some (HO.lst [V.int left, V.int at_, V.ref l]) = some (.lst (cs.map V.int)) := ha.symm.trans hl
    cases cs with
    | nil => cases this
    | cons x r => cases r with
      | nil => cases this
      | cons y r => cases r with
        | nil => cases this
        | cons z r => simp at this
  walk_at "run"
  simp only [ha, seqO_l, opt_some, at3_2]
  refine while_inv (P := fun σ H' => ∃ (x y : Int), σ = [some (.ref a), some (.int lim), some (.ref l), none] ∧ 0 ≤ x ∧ 0 ≤ y ∧ H' = upd H a (.lst [.int x, .int y, .ref l]))
    (fun σ H' => match H' a with | some (.lst [_, .int y, _]) => (cs.length - y).toNat | _ => 0) ⟨left, at_, rfl, h0, h1, ?_⟩ (fun σ H' N ⟨x, y, eσ, hx, hy, eH⟩ hN => ?_)
  · funext b
    by_cases hb : b = a
    · rw [hb, upd_same, ha]
    · rw [upd_ne hb]
  · subst eσ eH
    have hl' : ∀ o, upd H a o l = some (.lst (cs.map V.int)) := fun o => by rw [upd_ne nla]; exact hl
    have l2 : lim < 1073741824 := by omega
    walk_at "run"
    by_cases c1 : x = 0
    · simp only [c1, decide_true, if_true]
      try (walk_at "run")
      simp only [hl', seqO_l, opt_some, List.length_map, v_lt, v_toB]
      by_cases c2 : y < (cs.length : Int)
      · simp only [c2, decide_true, if_true]
        have ix := atI_map (ns := cs) (i := y) hy c2
        try (walk_at "run")
        simp only [hl', seqO_l, opt_some, ix]
        try (walk_at "run")
        refine hN _ _ ⟨_, y + 1, rfl, ?_, by omega, rfl⟩ ?_
        · split <;> omega
        · show (match upd H a _ a with | some (.lst [_, .int y, _]) => (cs.length - y).toNat | _ => 0) < (match upd H a _ a with | some (.lst [_, .int y, _]) => (cs.length - y).toNat | _ => 0)
          rw [upd_same, upd_same]
          show ((cs.length : Int) - (y + 1)).toNat < ((cs.length : Int) - y).toNat
          omega
      · simp only [c2, decide_false, Bool.false_eq_true, if_false]
        subst c1
        try (walk_at "run")
        simp only [l0, l2, true_and, and_self]
        try (walk_at "run")
        exact q _ _ (Int.emod_nonneg _ (by omega)) (Int.emod_lt_of_pos _ l0) ch_upd ⟨_, y, cs, Int.ediv_nonneg hx (by omega), hy, hc, upd_same, hl' _⟩
    · simp only [c1, decide_false, Bool.false_eq_true, if_false]
      try (walk_at "run")
      simp only [l0, l2, true_and, and_self]
      try (walk_at "run")
      exact q _ _ (Int.emod_nonneg _ (by omega)) (Int.emod_lt_of_pos _ l0) ch_upd ⟨_, y, cs, Int.ediv_nonneg hx (by omega), hy, hc, upd_same, hl' _⟩
end
end Ly

/-! Sf2 -/
set_option Elab.async false
set_option linter.all false
set_option maxRecDepth 100000
set_option maxHeartbeats 4000000
namespace Ly
open PySem PySem.Spec PyProof.Rows L2 M
local macro_rules | `(tactic| walk_at "run") => `(tactic| (try simp only [r_seq, r_next, r_cont, r_break, r_asg, r_name, r_sub, r_drop, r_ret, r_retN, r_if, r_ite, r_never, r_var, r_c, r_bin, r_un, r_tB, r_T, r_chain, r_and, r_or, r_not, r_andV, r_orV, r_notV, r_nil, r_cons, r_lst, r_tup, r_cb, r_call, r_lm, r_sm, r_fld, r_prop, r_meth, r_setF, r_aug, r_slice, r_no, r_some, r_revS, r_listR, r_g2, r_yes, r_for, r_comp, r_iter, r_iter', r_iterT, r_iterS, r_rng1, r_rng2, r_rngD, r_enum, r_zip, set0, setS, List.getElem?_cons_zero, List.getElem?_cons_succ, opt_some, opt_none, v_add_i, v_add_s, v_add_l, v_sub, v_mul_i, v_mul_l, v_mod, v_div, v_shl, v_shr, v_band, v_neg, v_lt, v_lt_s, v_le, v_le_s, v_gt, v_ge, v_eq_i, v_ne_i, v_eq_s, v_ne_s, v_in_l, v_in_s, v_idx, v_idx_s, v_slice, v_len, v_len_s, v_list, v_tuple, v_int, v_abs, v_max, v_min, v_maxL, v_sum, v_append, v_insert, v_popAt, v_pop, v_join, v_toB, v_tru_b, v_aug, v_set, v_ins, ints_bind, strs_bind, lst?_eq, tup?_eq, seq?_eq, lstO_l, lstO_f, lstW_l, tupO_t, seqO_l, seqO_t, insO_i, upd_same, upd_old, Option.isSome_some, List.length_map, wipe_one, Int.zero_add, Int.toNat_natCast, true_and, at3_0, at3_1, at3_2, ix3_0, ix3_1, List.set_cons_zero, List.set_cons_succ, List.length_cons, List.length_nil, upd2, Nat.zero_add, v_own, v_iter, r_iterV, at4_0, at4_1, at4_2, at4_3, Nat.reduceAdd, opt_some]))
local macro_rules | `(tactic| walk_at "runs") => `(tactic| (try simp only [r_seq, r_next, r_cont, r_break, r_asg, r_name, r_sub, r_drop, r_ret, r_retN, r_if, r_ite, r_never, r_var, r_c, r_bin, r_un, r_tB, r_T, r_chain, r_and, r_or, r_not, r_andV, r_orV, r_notV, r_nil, r_cons, r_lst, r_tup, r_cb, r_call, r_lm, r_sm, r_fld, r_prop, r_meth, r_setF, r_aug, r_slice, r_no, r_some, r_revS, r_listR, r_g2, r_yes, r_for, r_comp, r_iter, r_iter', r_iterT, r_iterS, r_rng1, r_rng2, r_rngD, r_enum, r_zip, set0, setS, List.getElem?_cons_zero, List.getElem?_cons_succ, opt_some, opt_none, v_add_i, v_add_s, v_add_l, v_sub, v_mul_i, v_mul_l, v_mod, v_div, v_shl, v_shr, v_band, v_neg, v_lt, v_lt_s, v_le, v_le_s, v_gt, v_ge, v_eq_i, v_ne_i, v_eq_s, v_ne_s, v_in_l, v_in_s, v_idx, v_idx_s, v_slice, v_len, v_len_s, v_list, v_tuple, v_int, v_abs, v_max, v_min, v_maxL, v_sum, v_append, v_insert, v_popAt, v_pop, v_join, v_toB, v_tru_b, v_aug, v_set, v_ins, ints_bind, strs_bind, lst?_eq, tup?_eq, seq?_eq, lstO_l, lstO_f, lstW_l, tupO_t, seqO_l, seqO_t, insO_i, upd_same, upd_old, Option.isSome_some, List.length_map, wipe_one, Int.zero_add, Int.toNat_natCast, true_and, at3_0, at3_1, at3_2, ix3_0, ix3_1, List.set_cons_zero, List.set_cons_succ, List.length_cons, List.length_nil, upd2, Nat.zero_add, v_own, v_iter, r_iterV, at4_0, at4_1, at4_2, at4_3, Nat.reduceAdd, opt_some, *]))
theorem cut_min {xs : List V} {k : Nat} : cutV xs none (some (k : Int)) = xs.take k := by
  unfold cutV
  rw [HT.sIx_none, HT.sIx_nat, List.drop_zero, Nat.sub_zero, ← List.take_eq_take_min]
theorem isi_l {p : Addr} {xs : List V} {H : Hp} {Q : VK} (e : H p = some (.lst xs)) : isiV "list" [.ref p, .ty "list"] H Q = Q (.bl true) H := by
  show ((V.ty "list" = V.ty "list") ∧ (match H p with
      | some (.lst _) => Q (.bl (isub "list" "list")) H
      | some (.tup _) => Q (.bl (isub "list" "tuple")) H
      | some (.dK _) => Q (.bl (isub "list" "dict")) H
      | _ => False)) = _
  rw [e]
  simp only [true_and]
  rfl
theorem isi_i {i : Int} {H : Hp} {Q : VK} : isiV "int" [.int i, .ty "int"] H Q = Q (.bl true) H := by
  show ((V.ty "int" = V.ty "int") ∧ Q (.bl (isub "int" "int")) H) = _
  simp only [true_and]; rfl
theorem isi_b {i : Int} {H : Hp} {Q : VK} : isiV "bool" [.int i, .ty "bool"] H Q = Q (.bl false) H := by
  show ((V.ty "bool" = V.ty "bool") ∧ Q (.bl (isub "bool" "int")) H) = _
  simp only [true_and]; rfl
theorem bits_at {x : Nat} (h : x < 4) : atI [V.int 1, V.int 2, V.int 4, V.int 8] (x : Int) = some (.int ((2 ^ x : Nat) : Int)) := by
  have : x = 0 ∨ x = 1 ∨ x = 2 ∨ x = 3 := by omega
  rcases this with rfl | rfl | rfl | rfl <;> rfl
theorem sum_st : ∀ P ∈ [1, 2, 3, 4], ∀ k ∈ List.range 16, k < 2 ^ P → ((stOf P k).map fun p => ((2 ^ p.toNat : Nat) : Int)).sum = (k : Int) := by decide +kernel
theorem ll_same {H H' : Hp} {a : Addr} {A : List (List Int)} (h : LL H a A) (s : Same H H') : LL H' a A := by
  obtain ⟨bs, h1, h2, h3⟩ := h
  exact ⟨bs, s _ _ h1, h2, fun i b S e1 e2 => s _ _ (h3 i b S e1 e2)⟩
section
variable {c : CA} {vs : List V} {H : Hp} {Q : VK} {E : XK}
theorem sem__law_begin (h : sp__law_begin c vs H Q E) : t__law_begin c E (De Q) (start ["_law_script", "_law_cell"] vs) H := by
  obtain ⟨s, ns, rfl, hs, q⟩ := h
  show t__law_begin c E _ [some (.ref s), none] H
  unfold t__law_begin
  walk_at "run"
  simp only [r_sliceK]
  walk_at "run"
  refine ⟨s, _, rfl, hs, ?_⟩
  have e63 : cutV (ns.map V.int) none (some (63 : Int)) = (ns.take 63).map V.int := by
    rw [List.map_take]
    exact cut_min (k := 63)
  rw [e63]
  intro q1 hq1
  simp only [upd_same]
  intro D hD
  have hlen : (ns.take 63).length ≤ 63 := by rw [List.length_take]; omega
  refine lc_pure (ns.take 63).length (by show ((ns.take 63).map V.int).length = _; rw [List.length_map]) (fun i => .int ((ns.take 63).getD i 0)) (fun acc => by
    show lst? _ _ = _
    rw [lst?_eq, upd_old' hD upd_same]; rfl) (fun i acc R hi r => ?_) (small_line (by omega)) ?_
  · show opt _ _
    rw [getElem?_iv hi]
    walk_at "run"
    exact r
  · rw [range_map_getD rfl]
    have s2 := (same_upd (o := .lst ((ns.take 63).map V.int)) hq1).trans (same_upd (o := .lst ((ns.take 63).map V.int)) hD)
    walk_at "run"
    refine ⟨by decide, fun p hp => ?_⟩
    have npD : p ≠ D := fun e => by rw [e, upd_same] at hp; cases hp
    refine q _ p D (s2.trans (same_upd hp)) (none_back s2 hp) (none_back (same_upd hq1) hD) npD ⟨0, 0, ns.take 63, Int.le_refl _, Int.le_refl _, by omega, upd_same, ?_⟩
    show upd _ _ _ _ = _
    rw [upd_ne npD.symm, upd_same]
theorem sem__law_numbers (h : sp__law_numbers c vs H Q E) : t__law_numbers c E (De Q) (start ["_law_told", "_law_item"] vs) H := by
  obtain ⟨s, ns, rfl, hs, q⟩ := h
  show t__law_numbers c E _ [some (.ref s), none] H
  unfold t__law_numbers
  walk_at "run"
  simp only [isi_l hs, v_tru_b, Bool.not_true, Bool.false_eq_true, if_false]
  try (walk_at "run")
  simp only [hs, lstO_l, opt_some]
  refine for_lst (P := fun i σ H' => ∃ v1, σ = [some (.ref s), v1] ∧ H = H') ⟨none, rfl, rfl⟩ (fun i σ H' ⟨_, _, e⟩ => by rw [← e]; exact lst?_of hs) (fun i y σ H' N hy ⟨v1, e1, e2⟩ hN => ?_) (fun σ H' ⟨v1, e1, e2⟩ => ?_)
  · subst e1 e2
    rw [List.getElem?_map] at hy
    cases hn : ns[i]? with
    | none => rw [hn] at hy; cases hy
    | some n =>
      rw [hn] at hy
      cases hy
      walk_at "run"
      simp only [isi_i, isi_b, v_tru_b, Bool.not_true, Bool.false_eq_true, if_false]
      try (walk_at "run")
      exact hN _ _ ⟨_, rfl, rfl⟩
  · subst e1 e2
    walk_at "run"
    exact q
theorem sem__law_stands (h : sp__law_stands c vs H Q E) : t__law_stands c E (De Q) (start ["_law_places", "_law_code", "_law_bits", "_law_x"] vs) H := by
  obtain ⟨P, k, rfl, p4, q⟩ := h
  show t__law_stands c E _ [some (.int P), some (.int k), none, none] H
  unfold t__law_stands
  walk_at "run"
  refine ⟨by decide, fun B hB => ?_⟩
  walk_at "run"
  refine ⟨rng_small (by omega) (by omega), fun D hD => ?_⟩
  refine lc_filt P (by show (P : Int).toNat = P; omega) (fun x => k / 2 ^ x % 2 == 1) (fun x => .int x) (fun acc => trivial) (fun i acc K R hi hn hy => ?_) (small_line (by omega)) ?_
  · simp only [fiR]
    have hB' : upd (upd H B (.lst [V.int 1, V.int 2, V.int 4, V.int 8])) D (.lst acc) B = some (.lst [V.int 1, V.int 2, V.int 4, V.int 8]) := upd_old' hD upd_same
    have p1 : (0 : Int) < ((2 ^ i : Nat) : Int) ∧ ((2 ^ i : Nat) : Int) < 1073741824 := by
      have : i = 0 ∨ i = 1 ∨ i = 2 ∨ i = 3 := by omega
      rcases this with rfl | rfl | rfl | rfl <;> decide
    have ed : (k : Int) / ((2 ^ i : Nat) : Int) % 2 = ((k / 2 ^ i % 2 : Nat) : Int) := by
      rw [← Int.natCast_ediv]
      exact (Int.natCast_emod ..).symm
    walk_at "run"
    simp only [hB', seqO_l, opt_some, bits_at (show i < 4 by omega)]
    try (walk_at "run")
    refine ⟨p1, by decide, ?_⟩
    simp only [ed]
    by_cases hb : k / 2 ^ i % 2 = 1
    · have hb' : ((k / 2 ^ i % 2 : Nat) : Int) = 1 := by omega
      simp only [hb', decide_true, if_true]
      exact hy (by simp [hb])
    · have hb' : ¬ ((k / 2 ^ i % 2 : Nat) : Int) = 1 := by omega
      simp only [hb', decide_false, Bool.false_eq_true, if_false]
      exact hn (by simp [hb])
  · have em : ((List.range P).filter fun x => k / 2 ^ x % 2 == 1).map (fun x : Nat => V.int (x : Int)) = (stOf P k).map V.int := by unfold stOf; rw [List.map_map]; rfl
    rw [em]
    try (walk_at "run")
    exact q _ D ((same_upd hB).trans (same_upd hD)) (none_back (same_upd hB) hD) upd_same
theorem zOf_snoc (ks : List Nat) (k : Nat) : zOf ks ++ one (96 + k) = zOf (ks ++ [k]) := by
  show (⟨(ks.map (96 + ·)).toArray ++ #[96 + k]⟩ : Str) = _
  unfold zOf
  congr 1
  simp
theorem abc15 : (("abcdefghijklmno" : String) : Str) = ⟨((List.range 15).map (97 + ·)).toArray⟩ := by decide +kernel
theorem abc15_at {k : Nat} (h1 : 1 ≤ k) (h2 : k < 16) : atI ((List.range 15).map (97 + ·)) ((k : Int) - 1) = some (96 + k) := by
  have : ((k : Int) - 1) = ((k - 1 : Nat) : Int) := by omega
  rw [this]
  unfold atI
  rw [ixN_of (by omega) (by rw [List.length_map, List.length_range]; omega), Option.bind_some, Int.toNat_natCast, List.getElem?_map, List.getElem?_range (by omega)]
  show some (97 + (k - 1)) = _
  congr 1
  omega
theorem sem__law_page (h : sp__law_page c vs H Q E) : t__law_page c E (De Q) (start ["_law_sets", "_law_page_here", "_law_stands_here", "_law_code", "_law_place"] vs) H := by
  obtain ⟨P, s, ks, rfl, hP, p4, ⟨bs, hs, hlen, hbs⟩, ok, h16, q⟩ := h
  show t__law_page c E _ [some (.ref s), none, none, none, none] H
  unfold t__law_page
  rw [emp_str, abc15]
  have e0 : (⟨#[]⟩ : Str) = zOf (ks.take 0) := by rw [List.take_zero]; rfl
  have lks : bs.length = ks.length := by rw [hlen]; exact List.length_map ..
  walk_at "run"
  simp only [hs, lstO_l, opt_some]
  rw [e0]
  refine for_lst (P := fun i σ H' => ∃ v2 v3 v4, σ = [some (.ref s), some (.str (zOf (ks.take i))), v2, v3, v4] ∧ Same H H') ⟨none, none, none, rfl, fun _ _ e => e⟩ (fun i σ H' ⟨_, _, _, _, sm⟩ => lst?_of (sm _ _ hs)) (fun i y σ H' N hy ⟨v2, v3, v4, e1, sm⟩ hN => ?_) (fun σ H' ⟨v2, v3, v4, e1, sm⟩ => ?_)
  · subst e1
    rw [List.getElem?_map] at hy
    cases hb : bs[i]? with
    | none => rw [hb] at hy; cases hy
    | some b =>
      rw [hb] at hy
      cases hy
      have hi : i < ks.length := by rw [← lks]; exact (List.getElem?_eq_some_iff.mp hb).1
      generalize hk : ks[i] = k at *
      have hki : ks[i]? = some k := by rw [List.getElem?_eq_getElem hi, hk]
      obtain ⟨k1, k2⟩ := ok k (List.mem_of_getElem? hki)
      have k16 : k < 16 := Nat.lt_of_lt_of_le k2 (by
        have : P = 1 ∨ P = 2 ∨ P = 3 ∨ P = 4 := by omega
        rcases this with rfl | rfl | rfl | rfl <;> decide)
      have hB : IL H b (stOf P k) := hbs i b (stOf P k) hb (by rw [List.getElem?_map, hki]; rfl)
      have hB' := sm _ _ hB
      have hsum : ((stOf P k).map fun p => ((2 ^ p.toNat : Nat) : Int)).sum = (k : Int) := sum_st P (by
        have : P = 1 ∨ P = 2 ∨ P = 3 ∨ P = 4 := by omega
        rcases this with rfl | rfl | rfl | rfl <;> simp) k (List.mem_range.mpr k16) k2
      walk_at "run"
      simp only [hB', lstO_l, opt_some]
      refine for_lst (P := fun j σ H2 => ∃ v4, σ = [some (.ref s), some (.str (zOf (ks.take i))), some (.ref b), some (.int (((stOf P k).take j).map fun p => ((2 ^ p.toNat : Nat) : Int)).sum), v4] ∧ Same H' H2) ⟨_, rfl, fun _ _ e => e⟩ (fun j σ H2 ⟨_, _, s2⟩ => lst?_of (s2 _ _ hB')) (fun j y σ H2 N2 hy ⟨v4, e1, s2⟩ hN2 => ?_) (fun σ H2 ⟨v4, e1, s2⟩ => ?_)
      · subst e1
        rw [List.getElem?_map] at hy
        cases hp : (stOf P k)[j]? with
        | none => rw [hp] at hy; cases hy
        | some p =>
          rw [hp] at hy
          cases hy
          obtain ⟨x, hx, ex⟩ := List.mem_map.mp (List.mem_of_getElem? hp)
          have x4 : x < 4 := Nat.lt_of_lt_of_le (List.mem_range.mp (List.mem_filter.mp hx).1) p4
          subst ex
          walk_at "run"
          refine ⟨by decide, fun L hL => ?_⟩
          try (walk_at "run")
          simp only [bits_at x4, opt_some]
          try (walk_at "run")
          have es : (((stOf P k).take (j + 1)).map fun p => ((2 ^ p.toNat : Nat) : Int)).sum = (((stOf P k).take j).map fun p => ((2 ^ p.toNat : Nat) : Int)).sum + ((2 ^ x : Nat) : Int) := by
            rw [List.take_add_one, hp, List.map_append, List.sum_append]
            simp
          refine hN2 _ _ ⟨some (V.int (x : Int)), ?_, s2.trans (same_upd hL)⟩
          rw [es]
      · subst e1
        rw [List.length_map, List.take_length, hsum]
        have l16 : (ks.take i).length ≤ 16 := by rw [List.length_take]; omega
        walk_at "run"
        simp only [List.toList_toArray, abc15_at k1 k16, opt_some]
        try (walk_at "run")
        refine ⟨by decide +kernel, ?_⟩
        try (walk_at "run")
        refine ⟨?_, ?_⟩
        · rw [zOf_len]
          have : (one (96 + k)).length = 1 := rfl
          show (ks.take i).length + 1 ≤ sizeLine
          exact Nat.le_of_lt (small_line (by omega))
        · have e2 : zOf (ks.take i) ++ (⟨#[96 + k]⟩ : Str) = zOf (ks.take (i + 1)) := by
            rw [List.take_add_one, hki]
            exact zOf_snoc _ _
          rw [e2]
          exact hN _ _ ⟨_, _, _, rfl, sm.trans s2⟩
  · subst e1
    rw [List.length_map, lks, List.take_length]
    walk_at "run"
    exact q _ sm
end
end Ly

/-! Sf3 -/
set_option Elab.async false
set_option linter.all false
set_option maxRecDepth 100000
set_option maxHeartbeats 4000000
namespace Ly
open PySem PySem.Spec PyProof.Rows L2 M
local macro_rules | `(tactic| walk_at "run") => `(tactic| (try simp only [r_seq, r_next, r_cont, r_break, r_asg, r_name, r_sub, r_drop, r_ret, r_retN, r_if, r_ite, r_never, r_var, r_c, r_bin, r_un, r_tB, r_T, r_chain, r_and, r_or, r_not, r_andV, r_orV, r_notV, r_nil, r_cons, r_lst, r_tup, r_cb, r_call, r_lm, r_sm, r_fld, r_prop, r_meth, r_setF, r_aug, r_slice, r_no, r_some, r_revS, r_listR, r_g2, r_yes, r_for, r_comp, r_iter, r_iter', r_iterT, r_iterS, r_rng1, r_rng2, r_rngD, r_enum, r_zip, set0, setS, List.getElem?_cons_zero, List.getElem?_cons_succ, opt_some, opt_none, v_add_i, v_add_s, v_add_l, v_sub, v_mul_i, v_mul_l, v_mod, v_div, v_shl, v_shr, v_band, v_neg, v_lt, v_lt_s, v_le, v_le_s, v_gt, v_ge, v_eq_i, v_ne_i, v_eq_s, v_ne_s, v_in_l, v_in_s, v_idx, v_idx_s, v_slice, v_len, v_len_s, v_list, v_tuple, v_int, v_abs, v_max, v_min, v_maxL, v_sum, v_append, v_insert, v_popAt, v_pop, v_join, v_toB, v_tru_b, v_aug, v_set, v_ins, ints_bind, strs_bind, lst?_eq, tup?_eq, seq?_eq, lstO_l, lstO_f, lstW_l, tupO_t, seqO_l, seqO_t, insO_i, upd_same, upd_old, Option.isSome_some, List.length_map, wipe_one, Int.zero_add, Int.toNat_natCast, true_and, at3_0, at3_1, at3_2, ix3_0, ix3_1, List.set_cons_zero, List.set_cons_succ, List.length_cons, List.length_nil, upd2, Nat.zero_add, v_own, v_iter, r_iterV, at4_0, at4_1, at4_2, at4_3, Nat.reduceAdd, opt_some]))
local macro_rules | `(tactic| walk_at "runs") => `(tactic| (try simp only [r_seq, r_next, r_cont, r_break, r_asg, r_name, r_sub, r_drop, r_ret, r_retN, r_if, r_ite, r_never, r_var, r_c, r_bin, r_un, r_tB, r_T, r_chain, r_and, r_or, r_not, r_andV, r_orV, r_notV, r_nil, r_cons, r_lst, r_tup, r_cb, r_call, r_lm, r_sm, r_fld, r_prop, r_meth, r_setF, r_aug, r_slice, r_no, r_some, r_revS, r_listR, r_g2, r_yes, r_for, r_comp, r_iter, r_iter', r_iterT, r_iterS, r_rng1, r_rng2, r_rngD, r_enum, r_zip, set0, setS, List.getElem?_cons_zero, List.getElem?_cons_succ, opt_some, opt_none, v_add_i, v_add_s, v_add_l, v_sub, v_mul_i, v_mul_l, v_mod, v_div, v_shl, v_shr, v_band, v_neg, v_lt, v_lt_s, v_le, v_le_s, v_gt, v_ge, v_eq_i, v_ne_i, v_eq_s, v_ne_s, v_in_l, v_in_s, v_idx, v_idx_s, v_slice, v_len, v_len_s, v_list, v_tuple, v_int, v_abs, v_max, v_min, v_maxL, v_sum, v_append, v_insert, v_popAt, v_pop, v_join, v_toB, v_tru_b, v_aug, v_set, v_ins, ints_bind, strs_bind, lst?_eq, tup?_eq, seq?_eq, lstO_l, lstO_f, lstW_l, tupO_t, seqO_l, seqO_t, insO_i, upd_same, upd_old, Option.isSome_some, List.length_map, wipe_one, Int.zero_add, Int.toNat_natCast, true_and, at3_0, at3_1, at3_2, ix3_0, ix3_1, List.set_cons_zero, List.set_cons_succ, List.length_cons, List.length_nil, upd2, Nat.zero_add, v_own, v_iter, r_iterV, at4_0, at4_1, at4_2, at4_3, Nat.reduceAdd, opt_some, *]))
/-- a row as a function of its place -/
def rowF (n : Nat) (f : Nat → Int) : List V := (List.range (n + 1)).map fun k => V.int (f k)
theorem rowF_len {n : Nat} {f : Nat → Int} : (rowF n f).length = n + 1 := by unfold rowF; rw [List.length_map, List.length_range]
theorem rowF_at {n k : Nat} {f : Nat → Int} (h : k ≤ n) : atI (rowF n f) (k : Int) = some (.int (f k)) := by
  unfold atI
  rw [ixN_of (by omega) (by rw [rowF_len]; omega), Option.bind_some, Int.toNat_natCast]
  unfold rowF
  rw [List.getElem?_map, List.getElem?_range (by omega)]
  rfl
theorem rowF_set {n k : Nat} {f : Nat → Int} {v : Int} (h : k ≤ n) : (rowF n f).set k (.int v) = rowF n fun j => if j = k then v else f j := by
  refine List.ext_getElem? fun j => ?_
  unfold rowF
  by_cases hj : j = k
  · subst hj
    rw [List.getElem?_set_self (by rw [List.length_map, List.length_range]; omega), List.getElem?_map, List.getElem?_range (by omega)]
    simp
  · rw [List.getElem?_set_ne (fun z => hj z.symm), List.getElem?_map, List.getElem?_map]
    by_cases h2 : j < n + 1
    · rw [List.getElem?_range h2]
      simp [hj]
    · rw [List.getElem?_eq_none (by rw [List.length_range]; omega)]
      rfl
theorem rowF_congr {n : Nat} {f g : Nat → Int} (h : ∀ k, k ≤ n → f k = g k) : rowF n f = rowF n g := by
  unfold rowF
  refine List.map_congr_left fun k hk => ?_
  rw [h k (by have := List.mem_range.mp hk; omega)]
theorem rowF_zero {n : Nat} : (List.replicate (n + 1) [V.int 0]).flatten = rowF n fun _ => 0 := by
  unfold rowF
  induction n with
  | zero => rfl
  | succ n ih =>
    rw [List.range_succ, List.map_append, ← ih]
    rw [List.replicate_succ', List.flatten_append]
    rfl
/-- the half step -/
def half (P : Nat) (A : List (List Int)) (b : Int) (t k : Nat) : Int := match k with
  | 0 => 0
  | k + 1 => max ((cou P (A.take (k + 1)) b t : Nat) : Int) (if (b + (t : Int)) % P ∈ A.getD k [] then ((cou P (A.take k) b t : Nat) : Int) + 1 else 0)
theorem cou_half {P : Nat} {A : List (List Int)} (ok : OkP P A) (b : Int) (t k : Nat) (hk : k < A.length) : ((cou P (A.take (k + 1)) b (t + 1) : Nat) : Int) = max (half P A b t (k + 1)) ((cou P (A.take k) b (t + 1) : Nat) : Int) := by
  have e : A.take (k + 1) = A.take k ++ [A[k]] := by rw [List.take_add_one, List.getElem?_eq_getElem hk]; rfl
  have eg : A.getD k [] = A[k] := by rw [List.getD_eq_getElem?_getD, List.getElem?_eq_getElem hk]; rfl
  unfold half
  simp only [eg]
  rw [e, cou_rec (ok _ (List.getElem_mem hk))]
  split <;> omega
section
variable {c : CA} {vs : List V} {H : Hp} {Q : VK} {E : XK}
theorem sem__law_best (h : sp__law_best c vs H Q E) : t__law_best c E (De Q) (start ["_law_places", "_law_sets", "_law_begin_here", "_law_end", "_law_row", "_law_place", "_law_here", "_law_number", "_law_more"] vs) H := by
  obtain ⟨P, s, A, b, e, rfl, hP, ⟨bs, hs, hlen, hbs⟩, ok, h16, sb, se, q⟩ := h
  show t__law_best c E _ [some (.int P), some (.ref s), some (.int b), some (.int e), none, none, none, none, none] H
  unfold t__law_best
  generalize hn : A.length = n at *
  have e1 : (n : Int) + 1 = ((n + 1 : Nat) : Int) := by omega
  walk_at "run"
  refine ⟨by decide, fun L hL => ?_⟩
  have hs0 := upd_old' (o := .lst [V.int 0]) hL hs
  walk_at "run"
  simp only [hs0, seqO_l, lstW_l, upd_same, opt_some, List.length_map, hlen, e1]
  try (walk_at "run")
  refine ⟨by omega, by omega, by show 1 * (n + 1) ≤ sizeLine; exact Nat.le_of_lt (small_line (by omega)), fun D hD => ?_⟩
  have s1 := (same_upd (o := .lst [V.int 0]) hL).trans (same_upd (o := .lst (List.replicate (n + 1) [V.int 0]).flatten) hD)
  rw [rowF_zero] at s1 ⊢
  generalize hH1 : upd H L (.lst [V.int 0]) = H1 at *
  have hPi : (0 : Int) < P := by omega
  unfold sm at sb se
  walk_at "run"
  refine ⟨⟨rng_small (by omega) (by omega), rng_small (by omega) (by omega)⟩, ?_⟩
  have sD : ∀ o, Same H (upd H1 D o) := fun o => by
    rw [← hH1]
    rw [← hH1] at hD
    exact (same_upd hL).trans (same_upd hD)
  refine for_rng (P := fun t σ H' => ∃ v5 v6 v7 v8, σ = [some (.int P), some (.ref s), some (.int b), some (.int e), some (.ref D), v5, v6, v7, v8] ∧ H' = upd H1 D (.lst (rowF n fun k => ((cou P (A.take k) b t : Nat) : Int)))) ⟨none, none, none, none, rfl, rfl⟩ (fun t σ H' N ht ⟨v5, v6, v7, v8, eσ, eH⟩ hN => ?_) (fun σ H' ⟨v5, v6, v7, v8, eσ, eH⟩ => ?_)
  · subst eσ eH
    have hs' : ∀ o, upd H1 D o s = some (.lst (bs.map V.ref)) := fun o => sD o _ _ hs
    have c0 : ∀ t, cou P (A.take 0) b t = 0 := fun t => by rw [List.take_zero]; exact cou_nil
    walk_at "run"
    simp only [hPi, true_and]
    try (walk_at "run")
    simp only [hs', seqO_l, opt_some, List.length_map, hlen]
    try (walk_at "run")
    refine ⟨⟨rng_small (by omega) (by omega), rng_small (by omega) (by omega)⟩, ?_⟩
    refine for_dn (P := fun i σ H' => ∃ v7 v8, σ = [some (.int P), some (.ref s), some (.int b), some (.int e), some (.ref D), some (.int (b + (t : Int))), some (.int ((b + (t : Int)) % P)), v7, v8] ∧ H' = upd H1 D (.lst (rowF n fun k => if n - i < k then half P A b t k else ((cou P (A.take k) b t : Nat) : Int)))) ⟨v7, v8, rfl, ?_⟩ (fun i σ H' N2 hi ⟨v7, v8, eσ, eH⟩ hN2 => ?_) (fun σ H' ⟨v7, v8, eσ, eH⟩ => ?_)
    · rw [Nat.sub_zero]
      congr 2
      exact rowF_congr fun k hk => by rw [if_neg (by omega)]
    · subst eσ eH
      have hi' : i < n := by omega
      generalize hk : n - (i + 1) = k at *
      have hkn : k < n := by omega
      have ek : (n : Int) + (i : Int) * (-1) = ((k + 1 : Nat) : Int) := by omega
      have ek1 : ((k + 1 : Nat) : Int) - 1 = (k : Int) := by omega
      have hni : n - i = k + 1 := by omega
      rw [ek, hni]
      obtain ⟨bk, hb⟩ : ∃ x, bs[k]? = some x := ⟨_, List.getElem?_eq_getElem (by omega)⟩
      have hS := hbs k bk (A.getD k []) hb (by rw [List.getD_eq_getElem?_getD, List.getElem?_eq_getElem (by omega)]; rfl)
      have hS' : ∀ o, upd H1 D o bk = some (.lst ((A.getD k []).map V.int)) := fun o => sD o _ _ hS
      have ab := atI_ref hb
      have r1 := rowF_at (n := n) (k := k) (f := fun k' => if k + 1 < k' then half P A b t k' else ((cou P (A.take k') b t : Nat) : Int)) (by omega)
      have r2 := rowF_at (n := n) (k := k + 1) (f := fun k' => if k + 1 < k' then half P A b t k' else ((cou P (A.take k') b t : Nat) : Int)) (by omega)
      rw [if_neg (by omega)] at r1 r2
      have hix : ixN (rowF n fun k' => if k + 1 < k' then half P A b t k' else ((cou P (A.take k') b t : Nat) : Int)).length ((k + 1 : Nat) : Int) = some (k + 1) := ixN_nat (by rw [rowF_len]; omega)
      walk_at "run"
      simp only [ek1, r1, opt_some]
      try (walk_at "run")
      simp only [hs', seqO_l, opt_some, ab]
      try (walk_at "run")
      simp only [hS', seqO_l, opt_some, flat_iv, inV_iv, flatV, true_and]
      try (walk_at "run")
      have done : ∀ v8 : Option V, ∀ f : Nat → Int, (∀ k', k' ≤ n → f k' = if k < k' then half P A b t k' else ((cou P (A.take k') b t : Nat) : Int)) → N2 [some (.int P), some (.ref s), some (.int b), some (.int e), some (.ref D), some (.int (b + (t : Int))), some (.int ((b + (t : Int)) % P)), some (.int ((k + 1 : Nat) : Int)), v8] (upd H1 D (.lst (rowF n f))) := fun v8 f hf => by
        refine hN2 _ _ ⟨_, _, rfl, ?_⟩
        congr 2
        exact rowF_congr hf
      by_cases c1 : (b + (t : Int)) % P ∈ A.getD k []
      · simp only [c1, decide_true, if_true]
        try (walk_at "run")
        simp only [r2, opt_some]
        try (walk_at "run")
        by_cases c2 : ((cou P (A.take (k + 1)) b t : Nat) : Int) < ((cou P (A.take k) b t : Nat) : Int) + 1
        · simp only [c2, decide_true, if_true]
          try (walk_at "run")
          simp only [hix, opt_some]
          rw [rowF_set (by omega)]
          refine done _ _ fun k' hk' => ?_
          by_cases e1 : k' = k + 1
          · subst e1
            rw [if_pos rfl, if_pos (by omega)]
            unfold half
            simp only []
            rw [if_pos c1]
            omega
          · rw [if_neg e1]
            by_cases e2 : k + 1 < k'
            · rw [if_pos e2, if_pos (by omega)]
            · rw [if_neg e2, if_neg (by omega)]
        · simp only [c2, decide_false, Bool.false_eq_true, if_false]
          try (walk_at "run")
          refine done _ _ fun k' hk' => ?_
          by_cases e2 : k + 1 < k'
          · rw [if_pos e2, if_pos (by omega)]
          · rw [if_neg e2]
            by_cases e1 : k' = k + 1
            · subst e1
              rw [if_pos (by omega)]
              unfold half
              simp only []
              rw [if_pos c1]
              omega
            · rw [if_neg (by omega)]
      · simp only [c1, decide_false, Bool.false_eq_true, if_false]
        try (walk_at "run")
        refine done _ _ fun k' hk' => ?_
        by_cases e2 : k + 1 < k'
        · rw [if_pos e2, if_pos (by omega)]
        · rw [if_neg e2]
          by_cases e1 : k' = k + 1
          · subst e1
            rw [if_pos (by omega)]
            unfold half
            simp only []
            rw [if_neg c1]
            omega
          · rw [if_neg (by omega)]
    · subst eσ eH
      have hrow : rowF n (fun k => if n - ((n : Int) - 0).toNat < k then half P A b t k else ((cou P (A.take k) b t : Nat) : Int)) = rowF n (half P A b t) := rowF_congr fun k hk => by
        by_cases h0 : k = 0
        · subst h0
          rw [if_neg (by omega), c0]; rfl
        · rw [if_pos (by omega)]
      try rw [hrow]
      try (walk_at "run")
      simp only [hs', seqO_l, opt_some, List.length_map, hlen]
      try (walk_at "run")
      refine ⟨⟨rng_small (by decide) (by decide), rng_small (by omega) (by omega)⟩, ?_⟩
      refine for_rng (P := fun i σ H' => ∃ v7, σ = [some (.int P), some (.ref s), some (.int b), some (.int e), some (.ref D), some (.int (b + (t : Int))), some (.int ((b + (t : Int)) % P)), v7, v8] ∧ H' = upd H1 D (.lst (rowF n fun k => if k ≤ i then ((cou P (A.take k) b (t + 1) : Nat) : Int) else half P A b t k))) ⟨v7, rfl, ?_⟩ (fun i σ H' N2 hi ⟨v7, eσ, eH⟩ hN2 => ?_) (fun σ H' ⟨v7, eσ, eH⟩ => ?_)
      · congr 2
        refine rowF_congr fun k hk => ?_
        by_cases h0 : k = 0
        · subst h0
          rw [if_pos (Nat.le_refl _), c0]
          first
            | rfl
            | (rw [if_neg (by omega), c0])
        · rw [if_neg (by omega)]
          try (rw [if_pos (by omega)])
      · subst eσ eH
        have hin : i < n := by omega
        have ek : (1 : Int) + (i : Int) = ((i + 1 : Nat) : Int) := by omega
        have ek1 : ((i + 1 : Nat) : Int) - 1 = (i : Int) := by omega
        rw [ek]
        have r1 := rowF_at (n := n) (k := i) (f := fun k => if k ≤ i then ((cou P (A.take k) b (t + 1) : Nat) : Int) else half P A b t k) (by omega)
        have r2 := rowF_at (n := n) (k := i + 1) (f := fun k => if k ≤ i then ((cou P (A.take k) b (t + 1) : Nat) : Int) else half P A b t k) (by omega)
        rw [if_pos (Nat.le_refl _)] at r1
        rw [if_neg (by omega)] at r2
        have hix : ixN (rowF n fun k => if k ≤ i then ((cou P (A.take k) b (t + 1) : Nat) : Int) else half P A b t k).length ((i + 1 : Nat) : Int) = some (i + 1) := ixN_nat (by rw [rowF_len]; omega)
        have ch := cou_half ok b t i (by omega)
        walk_at "run"
        simp only [ek1, r1, r2, opt_some]
        try (walk_at "run")
        by_cases c2 : half P A b t (i + 1) < ((cou P (A.take i) b (t + 1) : Nat) : Int)
        · simp only [c2, decide_true, if_true]
          try (walk_at "run")
          simp only [ek1, r1, opt_some]
          try (walk_at "run")
          simp only [hix, opt_some]
          rw [rowF_set (by omega)]
          refine hN2 _ _ ⟨_, rfl, ?_⟩
          congr 2
          refine rowF_congr fun k hk => ?_
          by_cases e1 : k = i + 1
          · subst e1
            rw [if_pos rfl, if_pos (Nat.le_refl _)]
            omega
          · rw [if_neg e1]
            by_cases e2 : k ≤ i
            · rw [if_pos e2, if_pos (by omega)]
            · rw [if_neg e2, if_neg (by omega)]
        · simp only [c2, decide_false, Bool.false_eq_true, if_false]
          try (walk_at "run")
          refine hN2 _ _ ⟨_, rfl, ?_⟩
          congr 2
          refine rowF_congr fun k hk => ?_
          by_cases e2 : k ≤ i
          · rw [if_pos e2, if_pos (by omega)]
          · rw [if_neg e2]
            by_cases e1 : k = i + 1
            · subst e1
              rw [if_pos (Nat.le_refl _)]
              omega
            · rw [if_neg (by omega)]
      · subst eσ eH
        refine hN _ _ ⟨_, _, _, _, rfl, ?_⟩
        congr 2
        refine rowF_congr fun k hk => ?_
        rw [if_pos (by omega)]
  · subst eσ eH
    have hs' : ∀ o, upd H1 D o s = some (.lst (bs.map V.ref)) := fun o => sD o _ _ hs
    have r1 := rowF_at (n := n) (k := n) (f := fun k => ((cou P (A.take k) b (e - b).toNat : Nat) : Int)) (Nat.le_refl _)
    rw [List.take_of_length_le (by omega)] at r1
    walk_at "run"
    simp only [hs', seqO_l, opt_some, List.length_map, hlen, r1]
    exact q _ (sD _)
end
end Ly

/-! Sf4 -/
set_option Elab.async false
set_option linter.all false
set_option maxRecDepth 100000
set_option maxHeartbeats 4000000
namespace Ly
open PySem PySem.Spec PyProof.Rows L2 M
local macro_rules | `(tactic| walk_at "run") => `(tactic| (try simp only [r_seq, r_next, r_cont, r_break, r_asg, r_name, r_sub, r_drop, r_ret, r_retN, r_if, r_ite, r_never, r_var, r_c, r_bin, r_un, r_tB, r_T, r_chain, r_and, r_or, r_not, r_andV, r_orV, r_notV, r_nil, r_cons, r_lst, r_tup, r_cb, r_call, r_lm, r_sm, r_fld, r_prop, r_meth, r_setF, r_aug, r_slice, r_no, r_some, r_revS, r_listR, r_g2, r_yes, r_for, r_comp, r_iter, r_iter', r_iterT, r_iterS, r_rng1, r_rng2, r_rngD, r_enum, r_zip, set0, setS, List.getElem?_cons_zero, List.getElem?_cons_succ, opt_some, opt_none, v_add_i, v_add_s, v_add_l, v_sub, v_mul_i, v_mul_l, v_mod, v_div, v_shl, v_shr, v_band, v_neg, v_lt, v_lt_s, v_le, v_le_s, v_gt, v_ge, v_eq_i, v_ne_i, v_eq_s, v_ne_s, v_in_l, v_in_s, v_idx, v_idx_s, v_slice, v_len, v_len_s, v_list, v_tuple, v_int, v_abs, v_max, v_min, v_maxL, v_sum, v_append, v_insert, v_popAt, v_pop, v_join, v_toB, v_tru_b, v_aug, v_set, v_ins, ints_bind, strs_bind, lst?_eq, tup?_eq, seq?_eq, lstO_l, lstO_f, lstW_l, tupO_t, seqO_l, seqO_t, insO_i, upd_same, upd_old, Option.isSome_some, List.length_map, wipe_one, Int.zero_add, Int.toNat_natCast, true_and, at3_0, at3_1, at3_2, ix3_0, ix3_1, List.set_cons_zero, List.set_cons_succ, List.length_cons, List.length_nil, upd2, Nat.zero_add, v_own, v_iter, r_iterV, at4_0, at4_1, at4_2, at4_3, Nat.reduceAdd, opt_some]))
local macro_rules | `(tactic| walk_at "runs") => `(tactic| (try simp only [r_seq, r_next, r_cont, r_break, r_asg, r_name, r_sub, r_drop, r_ret, r_retN, r_if, r_ite, r_never, r_var, r_c, r_bin, r_un, r_tB, r_T, r_chain, r_and, r_or, r_not, r_andV, r_orV, r_notV, r_nil, r_cons, r_lst, r_tup, r_cb, r_call, r_lm, r_sm, r_fld, r_prop, r_meth, r_setF, r_aug, r_slice, r_no, r_some, r_revS, r_listR, r_g2, r_yes, r_for, r_comp, r_iter, r_iter', r_iterT, r_iterS, r_rng1, r_rng2, r_rngD, r_enum, r_zip, set0, setS, List.getElem?_cons_zero, List.getElem?_cons_succ, opt_some, opt_none, v_add_i, v_add_s, v_add_l, v_sub, v_mul_i, v_mul_l, v_mod, v_div, v_shl, v_shr, v_band, v_neg, v_lt, v_lt_s, v_le, v_le_s, v_gt, v_ge, v_eq_i, v_ne_i, v_eq_s, v_ne_s, v_in_l, v_in_s, v_idx, v_idx_s, v_slice, v_len, v_len_s, v_list, v_tuple, v_int, v_abs, v_max, v_min, v_maxL, v_sum, v_append, v_insert, v_popAt, v_pop, v_join, v_toB, v_tru_b, v_aug, v_set, v_ins, ints_bind, strs_bind, lst?_eq, tup?_eq, seq?_eq, lstO_l, lstO_f, lstW_l, tupO_t, seqO_l, seqO_t, insO_i, upd_same, upd_old, Option.isSome_some, List.length_map, wipe_one, Int.zero_add, Int.toNat_natCast, true_and, at3_0, at3_1, at3_2, ix3_0, ix3_1, List.set_cons_zero, List.set_cons_succ, List.length_cons, List.length_nil, upd2, Nat.zero_add, v_own, v_iter, r_iterV, at4_0, at4_1, at4_2, at4_3, Nat.reduceAdd, opt_some, *]))
/-- lists of ints, none of them in F -/
def Pt (F : List Addr) (H : Hp) (bs : List Addr) (A : List (List Int)) : Prop := bs.length = A.length ∧ ∀ (i : Nat) (b : Addr) (S : List Int), bs[i]? = some b → A[i]? = some S → IL H b S ∧ b ∉ F
section
variable {F : List Addr} {H H' : Hp} {bs cs : List Addr} {A B : List (List Int)}
theorem Pt.app (h : Pt F H bs A) (k : Pt F H cs B) : Pt F H (bs ++ cs) (A ++ B) := by
  refine ⟨by rw [List.length_append, List.length_append, h.1, k.1], fun j b S e eS => ?_⟩
  rw [List.getElem?_append] at e eS
  rw [← h.1] at eS
  by_cases hj : j < bs.length
  · rw [if_pos hj] at e eS
    exact h.2 j b S e eS
  · rw [if_neg hj] at e eS
    exact k.2 _ b S e eS
theorem Pt.take (h : Pt F H bs A) (n : Nat) : Pt F H (bs.take n) (A.take n) := by
  refine ⟨by rw [List.length_take, List.length_take, h.1], fun j b S e eS => ?_⟩
  by_cases hj : j < n
  · rw [List.getElem?_take_of_lt hj] at e eS
    exact h.2 j b S e eS
  · rw [List.getElem?_eq_none (by rw [List.length_take]; omega)] at e; cases e
theorem Pt.fr (h : Pt F H bs A) (s : Frame F H H') : Pt F H' bs A := ⟨h.1, fun j b S e eS => ⟨s _ _ (h.2 j b S e eS).2 (h.2 j b S e eS).1, (h.2 j b S e eS).2⟩⟩
theorem Pt.same (h : Pt F H bs A) (s : Same H H') : Pt F H' bs A := h.fr fun b o _ e => s b o e
theorem Pt.one {b : Addr} {S : List Int} (h : IL H b S) (hb : b ∉ F) : Pt F H [b] [S] := by
  refine ⟨rfl, fun j c T e eS => ?_⟩
  have hj : j = 0 := by have := (List.getElem?_eq_some_iff.mp e).1; simp at this; exact this
  subst hj
  cases e
  cases eS
  exact ⟨h, hb⟩
theorem Pt.llf {a : Addr} (h : Pt F H bs A) (ha : H a = some (.lst (bs.map V.ref))) (n : a ∉ F) : LLF F H a A := ⟨n, bs, ha, h.1, h.2⟩
theorem LLF.pt {a : Addr} (h : LLF F H a A) : ∃ bs, H a = some (.lst (bs.map V.ref)) ∧ Pt F H bs A := by
  obtain ⟨_, bs, h1, h2, h3⟩ := h
  exact ⟨bs, h1, h2, h3⟩
theorem Frame.same (s : Same H H') : Frame F H H' := fun b o _ e => s b o e
end
theorem codes_at {P : Nat} (h0 : 0 < P) (h4 : P ≤ 4) : atI [V.int 1, V.int 3, V.int 7, V.int 15] ((P : Int) - 1) = some (.int ((2 ^ P - 1 : Nat) : Int)) := by
  have : P = 1 ∨ P = 2 ∨ P = 3 ∨ P = 4 := by omega
  rcases this with rfl | rfl | rfl | rfl <;> rfl
theorem many_at {v : Int} (h0 : 0 ≤ v) (h4 : v < 4) : ∃ m : Nat, m ≤ 3 ∧ atI [V.int 1, V.int 2, V.int 3, V.int 0] v = some (.int (m : Int)) := by
  have : v = 0 ∨ v = 1 ∨ v = 2 ∨ v = 3 := by omega
  rcases this with rfl | rfl | rfl | rfl
  · exact ⟨1, by decide, rfl⟩
  · exact ⟨2, by decide, rfl⟩
  · exact ⟨3, by decide, rfl⟩
  · exact ⟨0, by decide, rfl⟩
theorem Dr.a {H : Hp} {a l : Addr} (h : Dr H a l) : H a ≠ none := by
  obtain ⟨_, _, _, _, _, _, h, _⟩ := h
  rw [h]; simp
theorem Dr.l {H : Hp} {a l : Addr} (h : Dr H a l) : H l ≠ none := by
  obtain ⟨_, _, _, _, _, _, _, h⟩ := h
  have h' : H l = _ := h
  rw [h']; simp
theorem Dr.same {H H' : Hp} {a l : Addr} (h : Dr H a l) (s : Same H H') : Dr H' a l := h.ch (F := []) (fun b o _ e => s b o e) (by simp) (by simp)
section
variable {c : CA} {vs : List V} {H : Hp} {Q : VK} {E : XK}
theorem sem__law_entries (h : sp__law_entries c vs H Q E) : t__law_entries c E (De Q) (start ["_law_state", "_law_places", "_law_many", "_law_shift", "_law_codes", "_law_sets", "_law_entry", "_law_code"] vs) H := by
  obtain ⟨a, l, P, many, sh, F, rfl, dr, hP, p4, m3, h0, dF, q⟩ := h
  show t__law_entries c E _ [some (.ref a), some (.int P), some (.int many), some (.int sh), none, none, none, none] H
  unfold t__law_entries
  walk_at "run"
  refine ⟨by decide, fun L hL => ?_⟩
  walk_at "run"
  simp only [codes_at hP p4, opt_some]
  have c1 : 1 ≤ 2 ^ P - 1 ∧ 2 ^ P - 1 ≤ 15 := by
    have : P = 1 ∨ P = 2 ∨ P = 3 ∨ P = 4 := by omega
    rcases this with rfl | rfl | rfl | rfl <;> decide
  generalize hcd : 2 ^ P - 1 = cd at *
  try (walk_at "run")
  refine ⟨by decide, fun D hD => ?_⟩
  have s1 := same_upd (o := .lst [V.int 1, V.int 3, V.int 7, V.int 15]) hL
  have hDH : H D = none := none_back s1 hD
  have s2 := s1.trans (same_upd (o := .lst []) hD)
  try (walk_at "run")
  refine ⟨rng_small (by omega) (by omega), ?_⟩
  refine for_rng (P := fun i σ H' => ∃ v6 v7 bs ks, σ = [some (.ref a), some (.int P), some (.int many), some (.int sh), some (.int cd), some (.ref D), v6, v7] ∧ Ch [a] H H' ∧ Dr H' a l ∧ H' D = some (.lst (bs.map V.ref)) ∧ ks.length = i ∧ OkC P ks ∧ Pt (D :: F) H' bs (stL P ks) ∧ ∀ b ∈ bs, H b = none)
    ⟨none, none, [], [], rfl, Ch.of s2, dr.same s2, upd_same, rfl, (fun k hk => by cases hk), ⟨rfl, fun j b S e => by cases e⟩, (fun b hb => by cases hb)⟩ (fun i σ H' N hi ⟨v6, v7, bs, ks, eσ, ch, dr', hD', hl, ok, pt, fr⟩ hN => ?_) (fun σ H' ⟨v6, v7, bs, ks, eσ, ch, dr', hD', hl, ok, pt, fr⟩ => ?_)
  · subst eσ
    have naD : D ∉ [a] := fun z => by rw [List.mem_singleton] at z; rw [z] at hDH; exact dr.a hDH
    walk_at "run"
    refine ⟨a, l, (cd : Int), rfl, dr', by omega, by omega, fun H2 v v0 v1 ch2 dr2 => ?_⟩
    have pcd : (0 : Int) < cd := by omega
    try (walk_at "run")
    simp only [pcd, true_and]
    try (walk_at "run")
    simp only [ch2.fr _ _ naD hD', lstO_l, opt_some]
    have ecd : ∃ k : Nat, k < cd ∧ (v + sh + (i : Int)) % (cd : Int) = (k : Int) := ⟨((v + sh + (i : Int)) % (cd : Int)).toNat, by
      have := Int.emod_lt_of_pos (v + sh + (i : Int)) pcd
      have := Int.emod_nonneg (v + sh + (i : Int)) (show (cd : Int) ≠ 0 by omega)
      omega, by
      have := Int.emod_nonneg (v + sh + (i : Int)) (show (cd : Int) ≠ 0 by omega)
      omega⟩
    obtain ⟨k, kl, ek⟩ := ecd
    have ek1 : (k : Int) + 1 = ((k + 1 : Nat) : Int) := by omega
    simp only [ek, ek1]
    refine ⟨P, k + 1, rfl, p4, fun H3 p s3 np hp => ?_⟩
    have hD3 := s3 _ _ (ch2.fr _ _ naD hD')
    try (walk_at "run")
    simp only [hD3, lstW_l, opt_some, List.length_map]
    have npD : p ≠ D := fun e => by rw [e, ch2.fr _ _ naD hD'] at np; cases np
    have npH : H p = none := ch.dom _ (ch2.dom _ np)
    have hlb : bs.length = i := by rw [pt.1, List.length_map, hl]
    have chA : Ch [a] H3 (upd H3 D (.lst (bs.map V.ref ++ [.ref p]))) → True := fun _ => trivial
    have frF : Frame [D] H3 (upd H3 D (.lst (bs.map V.ref ++ [.ref p]))) := frame_upd
    refine ⟨small_line (by omega), hN _ _ ⟨_, _, bs ++ [p], ks ++ [k + 1], rfl, ⟨fun b o hb e => ?_, fun b e => ?_⟩, ?_, ?_, by rw [List.length_append, hl]; rfl, ?_, ?_, ?_⟩⟩
    · rw [upd_ne (fun z => by rw [z, hDH] at e; cases e)]
      exact s3 _ _ (ch2.fr _ _ hb (ch.fr _ _ hb e))
    · have : b ≠ D := fun z => by rw [z, upd_same] at e; cases e
      rw [upd_ne this] at e
      exact ch.dom _ (ch2.dom _ (none_back s3 e))
    · have d3 := dr2.same s3
      refine d3.ch frF (fun z => ?_) (fun z => ?_)
      · exact naD (by rw [List.mem_singleton] at z ⊢; exact z.symm)
      · rw [List.mem_singleton] at z
        rw [z] at dr
        exact dr.l hDH
    · rw [upd_same, List.map_append]; rfl
    · intro k' hk'
      rcases List.mem_append.mp hk' with h | h
      · exact ok _ h
      · rw [List.mem_singleton] at h
        subst h
        omega
    · have pt3 : Pt (D :: F) (upd H3 D (.lst (bs.map V.ref ++ [.ref p]))) bs (stL P ks) := by
        refine ⟨pt.1, fun j b S e1 e2 => ?_⟩
        obtain ⟨g1, g2⟩ := pt.2 j b S e1 e2
        refine ⟨?_, g2⟩
        have nb : b ≠ D := fun z => g2 (by rw [z]; exact List.mem_cons_self ..)
        have nba : b ∉ [a] := fun z => by
          rw [List.mem_singleton] at z
          have := fr b (List.mem_of_getElem? e1)
          rw [z] at this
          exact dr.a this
        show upd _ _ _ _ = _
        rw [upd_ne nb]
        exact s3 _ _ (ch2.fr _ _ nba g1)
      rw [show stL P (ks ++ [k + 1]) = stL P ks ++ [stOf P (k + 1)] by rw [stL, List.map_append]; rfl]
      refine pt3.app (Pt.one ?_ ?_)
      · show upd _ _ _ _ = _
        rw [upd_ne npD]
        exact hp
      · intro z
        rcases List.mem_cons.mp z with z | z
        · exact npD z
        · exact dF.nin npH z
    · intro b hb
      rcases List.mem_append.mp hb with h | h
      · exact fr _ h
      · rw [List.mem_singleton] at h
        rw [h]; exact npH
  · subst eσ
    walk_at "run"
    have pt' : Pt F H' bs (stL P ks) := ⟨pt.1, fun j b S e1 e2 => ⟨(pt.2 j b S e1 e2).1, fun z => (pt.2 j b S e1 e2).2 (List.mem_cons_of_mem _ z)⟩⟩
    refine q H' D ks ch dr' hDH ok ?_ (pt'.llf hD' (dF.nin hDH))
    rw [hl]
    try omega
theorem sem__law_other (h : sp__law_other c vs H Q E) : t__law_other c E (De Q) (start ["_law_state", "_law_places", "_law_page_here", "_law_kind", "_law_fresh"] vs) H := by
  obtain ⟨a, l, pg, P, ks, F, rfl, dr, hP, p4, haF, dF, hpg, ok, l3, q⟩ := h
  show t__law_other c E _ [some (.ref a), some (.int P), some (.ref pg), none, none] H
  unfold t__law_other
  have aF : ∀ b ∈ [a], b ∈ F := fun b hb => by rw [List.mem_singleton] at hb; rw [hb]; exact haF
  walk_at "run"
  refine ⟨a, l, 3, rfl, dr, by decide, by decide, fun H1 kind k0 k1 ch1 dr1 => ?_⟩
  try (walk_at "run")
  refine ⟨by decide, fun L hL => ?_⟩
  have t1 := same_upd (o := .lst [V.int 1, V.int 2, V.int 3, V.int 0]) hL
  try (walk_at "run")
  refine ⟨a, l, 4, rfl, dr1.same t1, by decide, by decide, fun H2 v v0 v1 ch2 dr2 => ?_⟩
  have nLa : L ∉ [a] := fun z => by rw [List.mem_singleton] at z; rw [z] at hL; exact dr1.a hL
  have hL2 := ch2.fr _ _ nLa (upd_same (H := H1) (a := L) (o := .lst [V.int 1, V.int 2, V.int 3, V.int 0]))
  obtain ⟨m, m3, hm⟩ := many_at v0 v1
  try (walk_at "run")
  simp only [hL2, seqO_l, opt_some, hm]
  have chA : Ch [a] H H2 := ch1.trans ((Ch.of t1).trans ch2)
  have dF2 : Dom F H2 := dF.ch chA
  refine ⟨a, l, P, m, 2, F, rfl, dr2, hP, p4, m3, by decide, dF2, fun H3 p ks2 ch3 dr3 np ok2 l2 hp => ?_⟩
  have chB := chA.trans ch3
  have hpg3 := hpg.ch ((chB.mono aF).fr)
  obtain ⟨bs, hb1, ptb⟩ := hpg3.pt
  obtain ⟨cs, hc1, ptc⟩ := hp.pt
  have lb : bs.length = ks.length := by rw [ptb.1]; exact List.length_map ..
  have lc : cs.length = m := by rw [ptc.1, List.length_map, l2]
  have dF3 : Dom F H3 := dF2.ch ch3
  try (walk_at "run")
  by_cases c1 : kind = 1
  · simp only [c1, decide_true, if_true]
    try (walk_at "run")
    simp only [hb1, seqO_l, opt_some, List.length_map, lb]
    try (walk_at "run")
    by_cases c3 : (ks.length : Int) < 3
    · simp only [c3, decide_true, if_true]
      try (walk_at "run")
      simp only [hc1, lstO_l, opt_some]
      have e1 : cutV (cs.map V.ref) none (some (1 : Int)) = (cs.take 1).map V.ref := by
        rw [List.map_take]
        exact cut_min (k := 1)
      rw [e1]
      intro n hn
      have t4 := same_upd (o := .lst ((cs.take 1).map V.ref)) hn
      try (walk_at "run")
      simp only [t4 _ _ hb1, upd_same, lstW_l, opt_some, List.length_map]
      refine ⟨by
        rw [List.length_take]
        exact Nat.le_of_lt (small_line (by omega)), fun n2 hn2 => ?_⟩
      have t5 := t4.trans (same_upd (o := .lst (bs.map V.ref ++ (cs.take 1).map V.ref)) hn2)
      rw [show bs.map V.ref ++ (cs.take 1).map V.ref = (bs ++ cs.take 1).map V.ref by rw [List.map_append]] at t5 ⊢
      refine q _ n2 (ks ++ ks2.take 1) (chB.trans (Ch.of t5)) (dr3.same t5) (fun k hk => ?_) ?_ ?_
      · rcases List.mem_append.mp hk with h | h
        · exact ok k h
        · exact ok2 k (List.mem_of_mem_take h)
      · rw [List.length_append, List.length_take]
        omega
      · have pa := (ptb.same t5).app ((ptc.same t5).take 1)
        rw [show stL P (ks ++ ks2.take 1) = stL P ks ++ (stL P ks2).take 1 by rw [stL, List.map_append, List.map_take]]
        exact pa.llf upd_same (dF3.nin (none_back t4 hn2))
    · simp only [c3, decide_false, Bool.false_eq_true, if_false]
      try (walk_at "run")
      rw [if_neg (by decide)]
      exact q _ p ks2 chB dr3 ok2 (by omega) hp
  · simp only [c1, decide_false, Bool.false_eq_true, if_false]
    try (walk_at "run")
    by_cases c2 : kind = 2
    · simp only [c2, decide_true, if_true]
      try (walk_at "run")
      simp only [hb1, seqO_l, opt_some]
      intro n hn
      have ts := same_upd (o := .lst (bs.map V.ref)) hn
      exact q _ n ks (chB.trans (Ch.of ts)) (dr3.same ts) ok l3 ((ptb.same ts).llf upd_same (dF3.nin hn))
    · simp only [c2, decide_false, Bool.false_eq_true, if_false]
      try (walk_at "run")
      exact q _ p ks2 chB dr3 ok2 (by omega) hp
end
end Ly

/-! Sf5 -/
set_option Elab.async false
set_option linter.all false
set_option maxRecDepth 100000
set_option maxHeartbeats 4000000
namespace Ly
open PySem PySem.Spec PyProof.Rows L2 M
local macro_rules | `(tactic| walk_at "run") => `(tactic| (try simp only [r_seq, r_next, r_cont, r_break, r_asg, r_name, r_sub, r_drop, r_ret, r_retN, r_if, r_ite, r_never, r_var, r_c, r_bin, r_un, r_tB, r_T, r_chain, r_and, r_or, r_not, r_andV, r_orV, r_notV, r_nil, r_cons, r_lst, r_tup, r_cb, r_call, r_lm, r_sm, r_fld, r_prop, r_meth, r_setF, r_aug, r_slice, r_no, r_some, r_revS, r_listR, r_g2, r_yes, r_for, r_comp, r_iter, r_iter', r_iterT, r_iterS, r_rng1, r_rng2, r_rngD, r_enum, r_zip, set0, setS, List.getElem?_cons_zero, List.getElem?_cons_succ, opt_some, opt_none, v_add_i, v_add_s, v_add_l, v_sub, v_mul_i, v_mul_l, v_mod, v_div, v_shl, v_shr, v_band, v_neg, v_lt, v_lt_s, v_le, v_le_s, v_gt, v_ge, v_eq_i, v_ne_i, v_eq_s, v_ne_s, v_in_l, v_in_s, v_idx, v_idx_s, v_slice, v_len, v_len_s, v_list, v_tuple, v_int, v_abs, v_max, v_min, v_maxL, v_sum, v_append, v_insert, v_popAt, v_pop, v_join, v_toB, v_tru_b, v_aug, v_set, v_ins, ints_bind, strs_bind, lst?_eq, tup?_eq, seq?_eq, lstO_l, lstO_f, lstW_l, tupO_t, seqO_l, seqO_t, insO_i, upd_same, upd_old, Option.isSome_some, List.length_map, wipe_one, Int.zero_add, Int.toNat_natCast, true_and, at3_0, at3_1, at3_2, ix3_0, ix3_1, List.set_cons_zero, List.set_cons_succ, List.length_cons, List.length_nil, upd2, Nat.zero_add, v_own, v_iter, r_iterV, at4_0, at4_1, at4_2, at4_3, Nat.reduceAdd, opt_some]))
local macro_rules | `(tactic| walk_at "runs") => `(tactic| (try simp only [r_seq, r_next, r_cont, r_break, r_asg, r_name, r_sub, r_drop, r_ret, r_retN, r_if, r_ite, r_never, r_var, r_c, r_bin, r_un, r_tB, r_T, r_chain, r_and, r_or, r_not, r_andV, r_orV, r_notV, r_nil, r_cons, r_lst, r_tup, r_cb, r_call, r_lm, r_sm, r_fld, r_prop, r_meth, r_setF, r_aug, r_slice, r_no, r_some, r_revS, r_listR, r_g2, r_yes, r_for, r_comp, r_iter, r_iter', r_iterT, r_iterS, r_rng1, r_rng2, r_rngD, r_enum, r_zip, set0, setS, List.getElem?_cons_zero, List.getElem?_cons_succ, opt_some, opt_none, v_add_i, v_add_s, v_add_l, v_sub, v_mul_i, v_mul_l, v_mod, v_div, v_shl, v_shr, v_band, v_neg, v_lt, v_lt_s, v_le, v_le_s, v_gt, v_ge, v_eq_i, v_ne_i, v_eq_s, v_ne_s, v_in_l, v_in_s, v_idx, v_idx_s, v_slice, v_len, v_len_s, v_list, v_tuple, v_int, v_abs, v_max, v_min, v_maxL, v_sum, v_append, v_insert, v_popAt, v_pop, v_join, v_toB, v_tru_b, v_aug, v_set, v_ins, ints_bind, strs_bind, lst?_eq, tup?_eq, seq?_eq, lstO_l, lstO_f, lstW_l, tupO_t, seqO_l, seqO_t, insO_i, upd_same, upd_old, Option.isSome_some, List.length_map, wipe_one, Int.zero_add, Int.toNat_natCast, true_and, at3_0, at3_1, at3_2, ix3_0, ix3_1, List.set_cons_zero, List.set_cons_succ, List.length_cons, List.length_nil, upd2, Nat.zero_add, v_own, v_iter, r_iterV, at4_0, at4_1, at4_2, at4_3, Nat.reduceAdd, opt_some, *]))
theorem sum_zs {pcs : List (List Nat)} (h : ∀ ks ∈ pcs, ks.length ≤ 3) : ((pcs.map zOf).map (·.length)).sum ≤ 3 * pcs.length := by
  induction pcs with
  | nil => exact Nat.zero_le _
  | cons x r ih =>
    rw [List.map_cons, List.map_cons, List.sum_cons, List.length_cons, zOf_len]
    have h1 := h x (List.mem_cons_self ..)
    have h2 := ih fun ks hk => h ks (List.mem_cons_of_mem _ hk)
    omega
section
variable {c : CA} {vs : List V} {H : Hp} {Q : VK} {E : XK}
theorem sem__law_binder (h : sp__law_binder c vs H Q E) : t__law_binder c E (De Q) (start ["_law_calendar", "_law_pages", "_law_binder_here", "_law_page_here"] vs) H := by
  obtain ⟨k, pg, P, pcs, rfl, hP, p4, hk, ⟨_, bs, hpg, hlen, hbs⟩, ok, l4, q⟩ := h
  show t__law_binder c E _ [some (.ref k), some (.ref pg), none, none] H
  unfold t__law_binder
  have lkI : ∀ B : BD, (B.fs).lookup ("insert" : Str) = none := fun B => lk3_n (by decide +kernel) (by decide +kernel) (by decide +kernel)
  walk_at "run"
  intro x dx hx hdx ne
  have hdx' : (upd H dx (.own x)) x = none := by rw [upd_ne ne.symm]; exact hx
  have sx : Same H (upd (upd H dx (.own x)) x (.ins c.Binder dx [])) := (same_upd hdx).trans (same_upd hdx')
  refine ⟨x, dx, k, everyW P, rfl, upd_same, iscal_same hk sx, okW_every hP p4, fun H1 B fr ex ek f1 f2 f3 fl hB => ⟨rfl, ?_⟩⟩
  have s1 : Same H H1 := fun b o e => fr b o (by rw [List.mem_singleton]; exact ne_of_none e hx) (sx _ _ e)
  have back : ∀ b, upd (upd H dx (.own x)) x (.ins c.Binder dx []) b = none → H b = none := fun b e => none_back sx e
  try (walk_at "run")
  simp only [s1 _ _ hpg, lstO_l, opt_some]
  refine for_lst (P := fun i σ H' => ∃ v3 B, σ = [some (.ref k), some (.ref pg), some (.ref x), v3] ∧ Same H H' ∧ B.x = x ∧ B.k = k ∧ (∀ b ∈ B.fp, H b = none) ∧ H B.lv = none ∧ IsB c H' B (everyW P) ((pcs.take i).map zOf))
    ⟨none, B, rfl, s1, ex, ek, fun b hb => ?_, back _ f1, by rw [List.take_zero]; exact hB⟩ (fun i σ H' ⟨_, _, _, s, _⟩ => lst?_of (s _ _ hpg)) (fun i y σ H' N hy ⟨v3, B, eσ, s, ex, ek, fp, nlv, hB⟩ hN => ?_) (fun σ H' ⟨v3, B, eσ, s, ex, ek, fp, nlv, hB⟩ => ?_)
  · rcases List.mem_cons.mp hb with e | hb
    · rw [e, ex]; exact hx
    · rcases List.mem_cons.mp hb with e | hb
      · rw [e]; exact back _ f2
      · exact back _ (f3 b hb)
  · subst eσ
    rw [List.getElem?_map] at hy
    cases hb : bs[i]? with
    | none => rw [hb] at hy; cases hy
    | some b =>
      rw [hb] at hy
      cases hy
      have hi : i < pcs.length := by rw [← hlen]; exact (List.getElem?_eq_some_iff.mp hb).1
      have hpi : pcs[i]? = some pcs[i] := List.getElem?_eq_getElem hi
      have okp := ok _ (List.mem_of_getElem? hpi)
      have hll := ll_same (hbs i b _ hb hpi).ll s
      have tl : ((pcs.take i).map zOf).length = i := by rw [List.length_map, List.length_take]; omega
      subst ex
      walk_at "run"
      simp only [hB.hx, insO_i, opt_some, lkI, true_and]
      try (walk_at "run")
      show (ins? c.Binder H' (.ref B.x) fun _ _ _ => _)
      rw [v_ins]
      simp only [hB.hx, insO_i, opt_some]
      refine ⟨B, everyW P, _, rfl, hB, ?_⟩
      rw [tl]
      refine ⟨by omega, by omega, ?_⟩
      try (walk_at "run")
      refine ⟨P, b, pcs[i], rfl, hP, p4, hll, okp.1, by omega, fun H2 s2 => ?_⟩
      have hB2 := hB.same s2
      refine ⟨B, everyW P, _, i, zOf pcs[i], rfl, hB2, by rw [tl]; exact Nat.le_refl _, by rw [tl]; omega, okZ_of hP p4 okp.1 (by omega), ?_, fun H3 B' mu hB' => ?_⟩
      · have h1 := sum_zs (pcs := pcs.take i) fun ks hk => (ok ks (List.mem_of_mem_take hk)).2
        rw [List.length_take] at h1
        rw [zOf_len]
        omega
      have ez : ((pcs.take i).map zOf).take i ++ [zOf pcs[i]] ++ ((pcs.take i).map zOf).drop i = (pcs.take (i + 1)).map zOf := by
        rw [List.take_of_length_le (by rw [tl]; exact Nat.le_refl _), List.drop_of_length_le (by rw [tl]; exact Nat.le_refl _), List.append_nil, List.take_add_one, hpi, List.map_append]
        rfl
      rw [ez] at hB'
      have sB : ∀ b, H2 b = none → H b = none := fun b e => none_back (s.trans s2) e
      refine hN _ _ ⟨_, B', rfl, fun b o e => ?_, mu.x, mu.k.trans ek, fun b hb => ?_, ?_, hB'⟩
      · refine mu.fr b o (fun z => ?_) (s2 _ _ (s _ _ e))
        rw [fp b z] at e; cases e
      · rcases List.mem_cons.mp hb with e | hb
        · rw [e, mu.x]; exact hx
        · rcases List.mem_cons.mp hb with e | hb
          · rw [e, mu.pl]; exact fp _ (List.mem_cons_of_mem _ (List.mem_cons_self ..))
          · rcases mu.ls b hb with h | h
            · exact fp _ (List.mem_cons_of_mem _ (List.mem_cons_of_mem _ h))
            · exact sB _ h
      · rcases mu.lv with h | h
        · rw [h]; exact nlv
        · exact sB _ h
  · subst eσ
    rw [List.length_map, hlen, List.take_length] at hB
    walk_at "run"
    subst ex
    exact q H' B s ek fp nlv hB
theorem seg_codes {P : Nat} {pcs : List (List Nat)} {f m : Nat} : segC P pcs f m = stL P ((pcs.drop f).take m).flatten := by
  unfold segC seg
  rw [← List.map_drop, ← List.map_take]
  generalize (pcs.drop f).take m = X
  induction X with
  | nil => rfl
  | cons x r ih => rw [List.map_cons, List.flatten_cons, List.flatten_cons, ih]; exact (List.map_append ..).symm
theorem stOf_ok : ∀ P ∈ [1, 2, 3, 4], ∀ k ∈ List.range 16, (1 ≤ k ∧ k < 2 ^ P) → stOf P k ≠ [] ∧ ∀ s ∈ stOf P k, 0 ≤ s ∧ s < P := by decide +kernel
theorem okS_st {P k : Nat} (h0 : 0 < P) (h4 : P ≤ 4) (h1 : 1 ≤ k) (h2 : k < 2 ^ P) : OkS P (stOf P k) := by
  have hp : P ∈ [1, 2, 3, 4] := by
    have : P = 1 ∨ P = 2 ∨ P = 3 ∨ P = 4 := by omega
    rcases this with rfl | rfl | rfl | rfl <;> simp
  have h16 : k < 16 := Nat.lt_of_lt_of_le h2 (by
    have : P = 1 ∨ P = 2 ∨ P = 3 ∨ P = 4 := by omega
    rcases this with rfl | rfl | rfl | rfl <;> decide)
  exact stOf_ok P hp k (List.mem_range.mpr h16) ⟨h1, h2⟩
theorem stL_ok {P : Nat} {ks : List Nat} (h0 : 0 < P) (h4 : P ≤ 4) (h : OkC P ks) : OkP P (stL P ks) := fun S hS => by
  obtain ⟨k, hk, rfl⟩ := List.mem_map.mp hS
  exact okS_st h0 h4 (h k hk).1 (h k hk).2
theorem as_codes {P : Nat} {pcs : List (List Nat)} (h0 : 0 < P) (h4 : P ≤ 4) (ok : AllOk P pcs) : As (everyW P) (pcs.map zOf) = pcs.map (stL P) := by
  show List.map _ _ = _
  rw [List.map_map]
  exact List.map_congr_left fun ks hk => pageA_of h0 h4 (ok ks hk).1
theorem flat_ok {P : Nat} {pcs : List (List Nat)} (ok : AllOk P pcs) : OkC P pcs.flatten ∧ pcs.flatten.length ≤ 3 * pcs.length := by
  induction pcs with
  | nil => exact ⟨(fun k hk => by cases hk), Nat.le_refl _⟩
  | cons x r ih =>
    have h1 := ok x (List.mem_cons_self ..)
    have h2 := ih fun ks hk => ok ks (List.mem_cons_of_mem _ hk)
    refine ⟨fun k hk => ?_, by rw [List.flatten_cons, List.length_append, List.length_cons]; omega⟩
    rw [List.flatten_cons] at hk
    rcases List.mem_append.mp hk with h | h
    · exact h1.1 k h
    · exact h2.1 k h
end
end Ly

/-! Sf6 -/
set_option Elab.async false
set_option linter.all false
set_option maxRecDepth 100000
set_option maxHeartbeats 4000000
namespace Ly
open PySem PySem.Spec PyProof.Rows L2 M
local macro_rules | `(tactic| walk_at "run") => `(tactic| (try simp only [r_seq, r_next, r_cont, r_break, r_asg, r_name, r_sub, r_drop, r_ret, r_retN, r_if, r_ite, r_never, r_var, r_c, r_bin, r_un, r_tB, r_T, r_chain, r_and, r_or, r_not, r_andV, r_orV, r_notV, r_nil, r_cons, r_lst, r_tup, r_cb, r_call, r_lm, r_sm, r_fld, r_prop, r_meth, r_setF, r_aug, r_slice, r_no, r_some, r_revS, r_listR, r_g2, r_yes, r_for, r_comp, r_iter, r_iter', r_iterT, r_iterS, r_rng1, r_rng2, r_rngD, r_enum, r_zip, set0, setS, List.getElem?_cons_zero, List.getElem?_cons_succ, opt_some, opt_none, v_add_i, v_add_s, v_add_l, v_sub, v_mul_i, v_mul_l, v_mod, v_div, v_shl, v_shr, v_band, v_neg, v_lt, v_lt_s, v_le, v_le_s, v_gt, v_ge, v_eq_i, v_ne_i, v_eq_s, v_ne_s, v_in_l, v_in_s, v_idx, v_idx_s, v_slice, v_len, v_len_s, v_list, v_tuple, v_int, v_abs, v_max, v_min, v_maxL, v_sum, v_append, v_insert, v_popAt, v_pop, v_join, v_toB, v_tru_b, v_aug, v_set, v_ins, ints_bind, strs_bind, lst?_eq, tup?_eq, seq?_eq, lstO_l, lstO_f, lstW_l, tupO_t, seqO_l, seqO_t, insO_i, upd_same, upd_old, Option.isSome_some, List.length_map, wipe_one, Int.zero_add, Int.toNat_natCast, true_and, at3_0, at3_1, at3_2, ix3_0, ix3_1, List.set_cons_zero, List.set_cons_succ, List.length_cons, List.length_nil, upd2, Nat.zero_add, v_own, v_iter, r_iterV, at4_0, at4_1, at4_2, at4_3, Nat.reduceAdd, opt_some]))
local macro_rules | `(tactic| walk_at "runs") => `(tactic| (try simp only [r_seq, r_next, r_cont, r_break, r_asg, r_name, r_sub, r_drop, r_ret, r_retN, r_if, r_ite, r_never, r_var, r_c, r_bin, r_un, r_tB, r_T, r_chain, r_and, r_or, r_not, r_andV, r_orV, r_notV, r_nil, r_cons, r_lst, r_tup, r_cb, r_call, r_lm, r_sm, r_fld, r_prop, r_meth, r_setF, r_aug, r_slice, r_no, r_some, r_revS, r_listR, r_g2, r_yes, r_for, r_comp, r_iter, r_iter', r_iterT, r_iterS, r_rng1, r_rng2, r_rngD, r_enum, r_zip, set0, setS, List.getElem?_cons_zero, List.getElem?_cons_succ, opt_some, opt_none, v_add_i, v_add_s, v_add_l, v_sub, v_mul_i, v_mul_l, v_mod, v_div, v_shl, v_shr, v_band, v_neg, v_lt, v_lt_s, v_le, v_le_s, v_gt, v_ge, v_eq_i, v_ne_i, v_eq_s, v_ne_s, v_in_l, v_in_s, v_idx, v_idx_s, v_slice, v_len, v_len_s, v_list, v_tuple, v_int, v_abs, v_max, v_min, v_maxL, v_sum, v_append, v_insert, v_popAt, v_pop, v_join, v_toB, v_tru_b, v_aug, v_set, v_ins, ints_bind, strs_bind, lst?_eq, tup?_eq, seq?_eq, lstO_l, lstO_f, lstW_l, tupO_t, seqO_l, seqO_t, insO_i, upd_same, upd_old, Option.isSome_some, List.length_map, wipe_one, Int.zero_add, Int.toNat_natCast, true_and, at3_0, at3_1, at3_2, ix3_0, ix3_1, List.set_cons_zero, List.set_cons_succ, List.length_cons, List.length_nil, upd2, Nat.zero_add, v_own, v_iter, r_iterV, at4_0, at4_1, at4_2, at4_3, Nat.reduceAdd, opt_some, *]))
theorem cut_mid {xs : List V} {i j : Nat} (hi : i ≤ xs.length) (hj : j ≤ xs.length) : cutV xs (some (i : Int)) (some (j : Int)) = (xs.drop i).take (j - i) := by
  unfold cutV
  rw [HT.sIx_nat, HT.sIx_nat, Nat.min_eq_left hi, Nat.min_eq_left hj]
theorem pt_fr1 {F : List Addr} {H H' : Hp} {bs : List Addr} {A : List (List Int)} {D : Addr} {o : HO} (h : Pt (D :: F) H bs A) : Pt (D :: F) (upd H D o) bs A := by
  refine ⟨h.1, fun j b S e eS => ⟨?_, (h.2 j b S e eS).2⟩⟩
  show upd _ _ _ _ = _
  rw [upd_ne (fun z => (h.2 j b S e eS).2 (by rw [z]; exact List.mem_cons_self ..))]
  exact (h.2 j b S e eS).1
section
variable {c : CA} {vs : List V} {H : Hp} {Q : VK} {E : XK}
theorem sem__law_counts (h : sp__law_counts c vs H Q E) : t__law_counts c E (De Q) (start ["_law_places", "_law_binder_here", "_law_pages", "_law_begin_here", "_law_end", "_law_rows", "_law_first", "_law_row", "_law_last", "_law_sets", "_law_page_here", "_law_told", "_law_due"] vs) H := by
  obtain ⟨B, pg, P, pcs, b, e, F, rfl, hP, p4, hB, ⟨_, bs, hpg, hlen, hbs⟩, ok, l5, hbe, sb, se, dF, q⟩ := h
  show t__law_counts c E _ [some (.int P), some (.ref B.x), some (.ref pg), some (.int b), some (.int e), none, none, none, none, none, none, none, none] H
  unfold t__law_counts
  have lkP : (B.fs).lookup ("part_count" : Str) = none := lk3_n (by decide +kernel) (by decide +kernel) (by decide +kernel)
  generalize hnn : (e - b).toNat = nn at *
  walk_at "run"
  refine ⟨by decide, fun D hD => ?_⟩
  have hpg0 := upd_old' (o := .lst []) hD hpg
  try (walk_at "run")
  simp only [hpg0, seqO_l, opt_some, List.length_map, hlen]
  try (walk_at "run")
  refine ⟨rng_small (by omega) (by omega), ?_⟩
  refine for_rng (P := fun f σ H' => ∃ v6 v7 v8 v9 v10 v11 v12 rs, σ = [some (.int P), some (.ref B.x), some (.ref pg), some (.int b), some (.int e), some (.ref D), v6, v7, v8, v9, v10, v11, v12] ∧ Same H H' ∧ H' D = some (.lst (rs.map V.ref)) ∧ Pt (D :: F) H' rs ((tabT P pcs b nn).take f))
    ⟨none, none, none, none, none, none, none, [], rfl, same_upd hD, upd_same, rfl, fun j b S e => by cases e⟩ (fun f σ H' N hf ⟨v6, v7, v8, v9, v10, v11, v12, rs, eσ, sm, hD', pt⟩ hN => ?_) (fun σ H' ⟨v6, v7, v8, v9, v10, v11, v12, rs, eσ, sm, hD', pt⟩ => ?_)
  · subst eσ
    have hf' : f ≤ pcs.length := by omega
    try (walk_at "run")
    refine ⟨by decide, fun R hR => ?_⟩
    have hpgR := upd_old' (o := .lst []) hR (sm _ _ hpg)
    have nDR : D ≠ R := ne_of_none hD' hR
    have hRH : H R = none := none_back sm hR
    try (walk_at "run")
    simp only [hpgR, seqO_l, opt_some, List.length_map, hlen]
    try (walk_at "run")
    refine ⟨⟨rng_small (by omega) (by omega), rng_small (by omega) (by omega)⟩, ?_⟩
    have erow : (tabT P pcs b nn)[f]? = some (rowT P pcs b nn f) := by
      unfold tabT
      rw [List.getElem?_map, List.getElem?_range (by omega)]; rfl
    refine for_rng (P := fun j σ H2 => ∃ v8 v9 v10 v11 v12, σ = [some (.int P), some (.ref B.x), some (.ref pg), some (.int b), some (.int e), some (.ref D), some (.int f), some (.ref R), v8, v9, v10, v11, v12] ∧ Same H' H2 ∧ H2 R = some (.lst (((rowT P pcs b nn f).take j).map V.int)))
      ⟨v8, v9, v10, v11, v12, rfl, same_upd hR, upd_same⟩ (fun j σ H2 N2 hj ⟨v8, v9, v10, v11, v12, eσ, s2, hR2⟩ hN2 => ?_) (fun σ H2 ⟨v8, v9, v10, v11, v12, eσ, s2, hR2⟩ => ?_)
    · subst eσ
      have hj' : f + j ≤ pcs.length := by omega
      have el : (f : Int) + (j : Int) = ((f + j : Nat) : Int) := by omega
      rw [el]
      have smA := sm.trans s2
      have hpg2 := smA _ _ hpg
      try (walk_at "run")
      refine ⟨by decide, fun S0 hS0 => ?_⟩
      have hpg3 := upd_old' (o := .lst []) hS0 hpg2
      try (walk_at "run")
      simp only [hpg3, lstO_l, opt_some]
      rw [cut_mid (xs := bs.map V.ref) (i := f) (j := f + j) (by rw [List.length_map]; omega) (by rw [List.length_map]; omega)]
      have ec : ((bs.map V.ref).drop f).take (f + j - f) = ((bs.drop f).take j).map V.ref := by rw [List.map_take, List.map_drop, Nat.add_sub_cancel_left]
      rw [ec]
      intro sl hsl
      have s3 := (same_upd (o := .lst []) hS0).trans (same_upd (o := .lst (((bs.drop f).take j).map V.ref)) hsl)
      have hlS : ((bs.drop f).take j).length = j := by rw [List.length_take, List.length_drop]; omega
      try (walk_at "run")
      refine for_lst (P := fun m σ H3 => ∃ s v10 cs, σ = [some (.int P), some (.ref B.x), some (.ref pg), some (.int b), some (.int e), some (.ref D), some (.int f), some (.ref R), some (.int ((f + j : Nat) : Int)), some (.ref s), v10, v11, v12] ∧ Same H2 H3 ∧ H3 sl = some (.lst (((bs.drop f).take j).map V.ref)) ∧ H3 s = some (.lst (cs.map V.ref)) ∧ Pt [] H3 cs (stL P ((pcs.drop f).take m).flatten))
        ⟨S0, v10, [], rfl, s3, upd_same, upd_old' hsl upd_same, ?_⟩ (fun m σ H3 ⟨_, _, _, _, _, z, _⟩ => lst?_of z) (fun m y σ H3 N3 hy ⟨s, v10, cs, eσ, s3, hsl3, hs3, pt3⟩ hN3 => ?_) (fun σ H3 ⟨s, v10, cs, eσ, s3, hsl3, hs3, pt3⟩ => ?_)
      · rw [List.take_zero]
        exact ⟨rfl, fun j b S e => by cases e⟩
      · subst eσ
        rw [List.getElem?_map] at hy
        cases hb : ((bs.drop f).take j)[m]? with
        | none => rw [hb] at hy; cases hy
        | some b' =>
          rw [hb] at hy
          cases hy
          have hm : m < j := by
            have := (List.getElem?_eq_some_iff.mp hb).1
            omega
          rw [List.getElem?_take_of_lt hm, List.getElem?_drop] at hb
          have hpm : pcs[f + m]? = some pcs[f + m] := List.getElem?_eq_getElem (by omega)
          have hpage := (hbs (f + m) b' _ hb hpm).ch (H' := H3) (fun b o _ e => s3 _ _ (smA _ _ e))
          obtain ⟨ds, hd1, ptd⟩ := hpage.pt
          have okm := ok _ (List.mem_of_getElem? hpm)
          have lcs : cs.length ≤ 15 := by
            rw [pt3.1, List.length_map]
            have h1 := (flat_ok (pcs := (pcs.drop f).take m) fun ks hk => ok ks (List.mem_of_mem_drop (List.mem_of_mem_take hk))).2
            rw [List.length_take, List.length_drop] at h1
            omega
          have lds : ds.length ≤ 3 := by
            rw [ptd.1, List.length_map]
            exact okm.2
          try (walk_at "run")
          simp only [hs3, hd1, lstW_l, opt_some, List.length_map]
          refine ⟨Nat.le_of_lt (small_line (by omega)), fun n hn => ?_⟩
          have s4 := same_upd (o := .lst (cs.map V.ref ++ ds.map V.ref)) hn
          refine hN3 _ _ ⟨n, _, cs ++ ds, rfl, s3.trans s4, s4 _ _ hsl3, by rw [upd_same, List.map_append], ?_⟩
          have ef : (pcs.drop f).take (m + 1) = (pcs.drop f).take m ++ [pcs[f + m]] := by
            rw [List.take_add_one, List.getElem?_drop, hpm]; rfl
          rw [ef, List.flatten_append, stL, List.map_append]
          refine (pt3.same s4).app ?_
          have := ptd.same s4
          simpa using this
      · subst eσ
        rw [List.length_map, hlS] at pt3
        have okS : AllOk P ((pcs.drop f).take j) := fun ks hk => ok ks (List.mem_of_mem_drop (List.mem_of_mem_take hk))
        obtain ⟨okf, lf⟩ := flat_ok okS
        have lf2 : ((pcs.drop f).take j).flatten.length ≤ 16 := by
          rw [List.length_take, List.length_drop] at lf
          omega
        have hB3 := hB.same (smA.trans s3)
        have epc : (pcs.map zOf).length = pcs.length := List.length_map ..
        try (walk_at "run")
        simp only [hB3.hx, insO_i, opt_some, lkP, true_and]
        try (walk_at "run")
        refine ⟨B, everyW P, _, f, f + j, b, e, rfl, hB3, by omega, by rw [epc]; exact hj', hbe, sb, se, fun H4 s4 => ?_⟩
        rw [everyW_len, as_codes hP p4 ok, hnn, Nat.add_sub_cancel_left]
        have eSeg : seg (pcs.map (stL P)) f j = stL P ((pcs.drop f).take j).flatten := seg_codes
        have ll4 : LL H4 s (stL P ((pcs.drop f).take j).flatten) := ⟨cs, s4 _ _ hs3, pt3.1, fun i b S e1 e2 => s4 _ _ (pt3.2 i b S e1 e2).1⟩
        try (walk_at "run")
        refine ⟨P, s, _, b, e, rfl, hP, ll4, stL_ok hP p4 okf, by rw [List.length_map]; exact lf2, sb, se, fun H5 s5 => ?_⟩
        rw [hnn, eSeg]
        generalize hcv : ((cou P (stL P ((pcs.drop f).take j).flatten) b nn : Nat) : Int) = cv
        have s35 := s3.trans (s4.trans s5)
        try (walk_at "run")
        refine ⟨by decide, fun T hT => ?_⟩
        have s6 := same_upd (o := .lst [V.int cv]) hT
        try (walk_at "run")
        refine ⟨T, [cv], rfl, upd_same, ?_⟩
        try (walk_at "run")
        simp only [decide_true, Bool.not_true, Bool.false_eq_true, if_false]
        try (walk_at "run")
        try simp only [decide_true, Bool.not_true, Bool.false_eq_true, if_false]
        have hR6 := s6 _ _ (s35 _ _ hR2)
        try (walk_at "run")
        simp only [hR6, lstO_l, lstW_l, opt_some, List.length_map]
        have lr : ((rowT P pcs b nn f).take j).length ≤ 100 := by
          rw [List.length_take]
          omega
        refine ⟨small_line (by omega), hN2 _ _ ⟨_, _, _, _, _, rfl, fun b' o e' => ?_, ?_⟩⟩
        · rw [upd_ne (fun z => by rw [z, hR] at e'; cases e')]
          exact s6 _ _ (s35 _ _ (s2 _ _ e'))
        · rw [upd_same]
          have er : (rowT P pcs b nn f)[j]? = some cv := by
            unfold rowT
            rw [List.getElem?_map, List.getElem?_range (by omega)]
            show some ((cou P (segC P pcs f j) b nn : Nat) : Int) = some cv
            rw [seg_codes, hcv]
          rw [List.take_add_one, er, List.map_append]
          rfl
    · subst eσ
      have lrow : (rowT P pcs b nn f).length = pcs.length + 1 - f := by unfold rowT; rw [List.length_map, List.length_range]
      have hR2' : IL H2 R (rowT P pcs b nn f) := by
        rw [List.take_of_length_le (by omega)] at hR2
        exact hR2
      have hD2 := s2 _ _ hD'
      have lrs : rs.length ≤ 100 := by
        rw [pt.1, List.length_take]
        omega
      try (walk_at "run")
      simp only [hD2, lstO_l, lstW_l, opt_some, List.length_map]
      refine ⟨small_line (by omega), hN _ _ ⟨_, _, _, _, _, _, _, rs ++ [R], rfl, fun b' o e' => ?_, ?_, ?_⟩⟩
      · rw [upd_ne (fun z => by rw [z, hD] at e'; cases e')]
        exact s2 _ _ (sm _ _ e')
      · rw [upd_same, List.map_append]; rfl
      · rw [List.take_add_one, erow]
        refine Pt.app (pt_fr1 (H' := H) (pt.same s2)) (Pt.one ?_ ?_)
        · show upd _ _ _ _ = _
          rw [upd_ne nDR.symm]
          exact hR2'
        · intro z
          rcases List.mem_cons.mp z with z | z
          · exact nDR z.symm
          · exact dF.nin hRH z
  · subst eσ
    have lt : (tabT P pcs b nn).length = pcs.length + 1 := by unfold tabT; rw [List.length_map, List.length_range]
    rw [List.take_of_length_le (by omega)] at pt
    try (walk_at "run")
    refine q H' D sm ⟨dF.nin hD, rs, hD', pt.1, fun i b' S e1 e2 => ⟨(pt.2 i b' S e1 e2).1, fun z => (pt.2 i b' S e1 e2).2 (List.mem_cons_of_mem _ z)⟩⟩
end
end Ly

/-! Sf7 -/
set_option Elab.async false
set_option linter.all false
set_option maxRecDepth 100000
set_option maxHeartbeats 4000000
namespace Ly
open PySem PySem.Spec PyProof.Rows L2 M
local macro_rules | `(tactic| walk_at "run") => `(tactic| (try simp only [r_seq, r_next, r_cont, r_break, r_asg, r_name, r_sub, r_drop, r_ret, r_retN, r_if, r_ite, r_never, r_var, r_c, r_bin, r_un, r_tB, r_T, r_chain, r_and, r_or, r_not, r_andV, r_orV, r_notV, r_nil, r_cons, r_lst, r_tup, r_cb, r_call, r_lm, r_sm, r_fld, r_prop, r_meth, r_setF, r_aug, r_slice, r_no, r_some, r_revS, r_listR, r_g2, r_yes, r_for, r_comp, r_iter, r_iter', r_iterT, r_iterS, r_rng1, r_rng2, r_rngD, r_enum, r_zip, set0, setS, List.getElem?_cons_zero, List.getElem?_cons_succ, opt_some, opt_none, v_add_i, v_add_s, v_add_l, v_sub, v_mul_i, v_mul_l, v_mod, v_div, v_shl, v_shr, v_band, v_neg, v_lt, v_lt_s, v_le, v_le_s, v_gt, v_ge, v_eq_i, v_ne_i, v_eq_s, v_ne_s, v_in_l, v_in_s, v_idx, v_idx_s, v_slice, v_len, v_len_s, v_list, v_tuple, v_int, v_abs, v_max, v_min, v_maxL, v_sum, v_append, v_insert, v_popAt, v_pop, v_join, v_toB, v_tru_b, v_aug, v_set, v_ins, ints_bind, strs_bind, lst?_eq, tup?_eq, seq?_eq, lstO_l, lstO_f, lstW_l, tupO_t, seqO_l, seqO_t, insO_i, upd_same, upd_old, Option.isSome_some, List.length_map, wipe_one, Int.zero_add, Int.toNat_natCast, true_and, at3_0, at3_1, at3_2, ix3_0, ix3_1, List.set_cons_zero, List.set_cons_succ, List.length_cons, List.length_nil, upd2, Nat.zero_add, v_own, v_iter, r_iterV, at4_0, at4_1, at4_2, at4_3, Nat.reduceAdd, opt_some]))
local macro_rules | `(tactic| walk_at "runs") => `(tactic| (try simp only [r_seq, r_next, r_cont, r_break, r_asg, r_name, r_sub, r_drop, r_ret, r_retN, r_if, r_ite, r_never, r_var, r_c, r_bin, r_un, r_tB, r_T, r_chain, r_and, r_or, r_not, r_andV, r_orV, r_notV, r_nil, r_cons, r_lst, r_tup, r_cb, r_call, r_lm, r_sm, r_fld, r_prop, r_meth, r_setF, r_aug, r_slice, r_no, r_some, r_revS, r_listR, r_g2, r_yes, r_for, r_comp, r_iter, r_iter', r_iterT, r_iterS, r_rng1, r_rng2, r_rngD, r_enum, r_zip, set0, setS, List.getElem?_cons_zero, List.getElem?_cons_succ, opt_some, opt_none, v_add_i, v_add_s, v_add_l, v_sub, v_mul_i, v_mul_l, v_mod, v_div, v_shl, v_shr, v_band, v_neg, v_lt, v_lt_s, v_le, v_le_s, v_gt, v_ge, v_eq_i, v_ne_i, v_eq_s, v_ne_s, v_in_l, v_in_s, v_idx, v_idx_s, v_slice, v_len, v_len_s, v_list, v_tuple, v_int, v_abs, v_max, v_min, v_maxL, v_sum, v_append, v_insert, v_popAt, v_pop, v_join, v_toB, v_tru_b, v_aug, v_set, v_ins, ints_bind, strs_bind, lst?_eq, tup?_eq, seq?_eq, lstO_l, lstO_f, lstW_l, tupO_t, seqO_l, seqO_t, insO_i, upd_same, upd_old, Option.isSome_some, List.length_map, wipe_one, Int.zero_add, Int.toNat_natCast, true_and, at3_0, at3_1, at3_2, ix3_0, ix3_1, List.set_cons_zero, List.set_cons_succ, List.length_cons, List.length_nil, upd2, Nat.zero_add, v_own, v_iter, r_iterV, at4_0, at4_1, at4_2, at4_3, Nat.reduceAdd, opt_some, *]))
theorem cell_at {H : Hp} {bs : List Addr} {T : List (List Int)} {n f j : Nat} (h3 : ∀ (i : Nat) (b : Addr) (S : List Int), bs[i]? = some b → T[i]? = some S → IL H b S) (hl : bs.length = T.length) (t : Tri T n) (hf : f < n) (hj : j < n - f) :
    ∃ b, atI (bs.map V.ref) (f : Int) = some (.ref b) ∧ seqO (H b) = some ((T.getD f []).map V.int) ∧ atI ((T.getD f []).map V.int) (j : Int) = some (.int (getT T f j)) := by
  have hT : f < T.length := by rw [t.len]; exact hf
  obtain ⟨b, hb⟩ : ∃ b, bs[f]? = some b := ⟨_, List.getElem?_eq_getElem (by omega)⟩
  have eS : T[f]? = some (T.getD f []) := by rw [List.getD_eq_getElem?_getD, List.getElem?_eq_getElem hT]; rfl
  have hI := h3 f b _ hb eS
  refine ⟨b, atI_ref hb, by rw [hI]; rfl, ?_⟩
  have := atI_map (ns := T.getD f []) (i := (j : Int)) (by omega) (by rw [t.row f hf]; omega)
  rw [Int.toNat_natCast] at this
  exact this
section
variable {c : CA} {vs : List V} {H : Hp} {Q : VK} {E : XK}
theorem sem__law_replaced (h : sp__law_replaced c vs H Q E) : t__law_replaced c E (De Q) (start ["_law_before", "_law_after", "_law_at", "_law_most", "_law_first", "_law_last", "_law_old", "_law_step"] vs) H := by
  obtain ⟨x, y, T, U, n, at_, m, rfl, ⟨bs, hx, lx, hbx⟩, ⟨cs, hy, ly, hby⟩, tT, tU, n1, hc, q⟩ := h
  show t__law_replaced c E _ [some (.ref x), some (.ref y), some (.int at_), some (.int m), none, none, none, none] H
  unfold t__law_replaced
  have lbs : bs.length = n := by rw [lx, tT.len]
  walk_at "run"
  simp only [hx, seqO_l, opt_some, List.length_map, lbs]
  try (walk_at "run")
  refine ⟨rng_small (by omega) (by omega), ?_⟩
  refine for_rng (P := fun f σ H' => ∃ v4 v5 v6 v7, σ = [some (.ref x), some (.ref y), some (.int at_), some (.int m), v4, v5, v6, v7] ∧ H = H') ⟨none, none, none, none, rfl, rfl⟩ (fun f σ H' N hf ⟨v4, v5, v6, v7, eσ, eH⟩ hN => ?_) (fun σ H' ⟨v4, v5, v6, v7, eσ, eH⟩ => ?_)
  · subst eσ eH
    have hf' : f < n := by omega
    walk_at "run"
    simp only [hx, seqO_l, opt_some, List.length_map, lbs]
    try (walk_at "run")
    refine ⟨⟨rng_small (by omega) (by omega), rng_small (by omega) (by omega)⟩, ?_⟩
    refine for_rng (P := fun j σ H' => ∃ v5 v6 v7, σ = [some (.ref x), some (.ref y), some (.int at_), some (.int m), some (.int f), v5, v6, v7] ∧ H = H') ⟨v5, v6, v7, rfl, rfl⟩ (fun j σ H' N2 hj ⟨v5, v6, v7, eσ, eH⟩ hN2 => ?_) (fun σ H' ⟨v5, v6, v7, eσ, eH⟩ => ?_)
    · subst eσ eH
      have hj' : j < n - f := by omega
      obtain ⟨b, b1, b2, b3⟩ := cell_at hbx lx tT hf' hj'
      obtain ⟨d, d1, d2, d3⟩ := cell_at hby ly tU hf' hj'
      have ej : (f : Int) + (j : Int) - (f : Int) = (j : Int) := by omega
      obtain ⟨⟨c1, c2⟩, c3⟩ := hc f (f + j) (by omega) (by omega)
      rw [Nat.add_sub_cancel_left] at c1 c2 c3
      generalize getT T f j = tv at *
      generalize getT U f j = uv at *
      walk_at "run"
      simp only [hx, hy, seqO_l, opt_some, b1, b2, b3, d1, d2, d3, ej]
      try (walk_at "run")
      try simp only [hx, hy, seqO_l, opt_some, b1, b2, b3, d1, d2, d3, ej]
      try (walk_at "run")
      try simp only [hx, hy, seqO_l, opt_some, b1, b2, b3, d1, d2, d3, ej]
      try (walk_at "run")
      generalize hst : (if uv - tv < 0 then -(uv - tv) else uv - tv) = st
      have st1 : ¬ (m : Int) < st := by rw [← hst]; split <;> omega
      simp only [st1, decide_false, Bool.false_eq_true, if_false]
      try (walk_at "run")
      by_cases z : 0 < st
      · simp only [z, decide_true, if_true]
        try (walk_at "run")
        have hin : f ≤ at_ ∧ at_ < f + j := by
          apply Classical.byContradiction
          intro hh
          have := c3 hh
          rw [← hst] at z
          split at z <;> omega
        have i1 : (f : Int) ≤ (at_ : Int) := by omega
        have i2 : (at_ : Int) < (f : Int) + (j : Int) := by omega
        simp only [i1, i2, decide_true, if_true, Bool.not_true, Bool.false_eq_true, if_false]
        try (walk_at "run")
        try simp only [i1, i2, decide_true, if_true, Bool.not_true, Bool.false_eq_true, if_false]
        exact hN2 _ _ ⟨_, _, _, rfl, rfl⟩
      · simp only [z, decide_false, Bool.false_eq_true, if_false]
        try (walk_at "run")
        exact hN2 _ _ ⟨_, _, _, rfl, rfl⟩
    · subst eσ eH
      exact hN _ _ ⟨_, _, _, _, rfl, rfl⟩
  · subst eσ eH
    walk_at "run"
    exact q
theorem sem__law_grown (h : sp__law_grown c vs H Q E) : t__law_grown c E (De Q) (start ["_law_before", "_law_after", "_law_at", "_law_most", "_law_first", "_law_last", "_law_base", "_law_step"] vs) H := by
  obtain ⟨x, y, T, U, n, at_, m, rfl, ⟨bs, hx, lx, hbx⟩, ⟨cs, hy, ly, hby⟩, tT, tU, n1, hc, q⟩ := h
  show t__law_grown c E _ [some (.ref x), some (.ref y), some (.int at_), some (.int m), none, none, none, none] H
  unfold t__law_grown
  have lbs : bs.length = n := by rw [lx, tT.len]
  walk_at "run"
  simp only [hx, seqO_l, opt_some, List.length_map, lbs]
  try (walk_at "run")
  refine ⟨rng_small (by omega) (by omega), ?_⟩
  refine for_rng (P := fun f σ H' => ∃ v4 v5 v6 v7, σ = [some (.ref x), some (.ref y), some (.int at_), some (.int m), v4, v5, v6, v7] ∧ H = H') ⟨none, none, none, none, rfl, rfl⟩ (fun f σ H' N hf ⟨v4, v5, v6, v7, eσ, eH⟩ hN => ?_) (fun σ H' ⟨v4, v5, v6, v7, eσ, eH⟩ => ?_)
  · subst eσ eH
    have hf' : f < n := by omega
    walk_at "run"
    simp only [hx, seqO_l, opt_some, List.length_map, lbs]
    try (walk_at "run")
    refine ⟨⟨rng_small (by omega) (by omega), rng_small (by omega) (by omega)⟩, ?_⟩
    refine for_rng (P := fun j σ H' => ∃ v5 v6 v7, σ = [some (.ref x), some (.ref y), some (.int at_), some (.int m), some (.int f), v5, v6, v7] ∧ H = H') ⟨v5, v6, v7, rfl, rfl⟩ (fun j σ H' N2 hj ⟨v5, v6, v7, eσ, eH⟩ hN2 => ?_) (fun σ H' ⟨v5, v6, v7, eσ, eH⟩ => ?_)
    · subst eσ eH
      have hj' : j < n - f := by omega
      obtain ⟨b, b1, b2, b3⟩ := cell_at hbx lx tT hf' hj'
      obtain ⟨d, d1, d2, d3⟩ := cell_at (j := j) hby ly tU (show f < n + 1 by omega) (by omega)
      obtain ⟨g, g1, g2, g3⟩ := cell_at (j := j + 1) hby ly tU (show f < n + 1 by omega) (by omega)
      obtain ⟨k, k1, k2, k3⟩ := cell_at (j := j) hby ly tU (show f + 1 < n + 1 by omega) (by omega)
      have ej : (f : Int) + (j : Int) - (f : Int) = (j : Int) := by omega
      have ej1 : (f : Int) + (j : Int) + 1 - (f : Int) = ((j + 1 : Nat) : Int) := by omega
      have ef1 : (f : Int) + 1 = ((f + 1 : Nat) : Int) := by omega
      obtain ⟨c1, c2, c3⟩ := hc f (f + j) (by omega) (by omega)
      rw [Nat.add_sub_cancel_left] at c1 c2 c3
      rw [show f + j + 1 - f = j + 1 by omega] at c1
      have gd : g = d := by rw [g1] at d1; cases d1; rfl
      subst gd
      have fin : ∀ v7 : Option V, N2 [some (.ref x), some (.ref y), some (.int at_), some (.int m), some (.int f), some (.int ((f : Int) + (j : Int))), some (.int (getT T f j)), v7] H := fun v7 => hN2 _ _ ⟨_, _, _, rfl, rfl⟩
      have s1 : (f : Int) ≤ (at_ : Int) → (at_ : Int) ≤ (f : Int) + (j : Int) → (getT U f (j + 1) - getT T f j < 0) = False := fun h1 h2 => by have := c1 (by omega) (by omega); simp; omega
      have s2 : (f : Int) ≤ (at_ : Int) → (at_ : Int) ≤ (f : Int) + (j : Int) → ((m : Int) < getT U f (j + 1) - getT T f j) = False := fun h1 h2 => by have := c1 (by omega) (by omega); simp; omega
      have s3 : (f : Int) + (j : Int) ≤ (at_ : Int) → getT U f j = getT T f j := fun h => c2 (by omega)
      have s4 : (at_ : Int) ≤ (f : Int) → getT U (f + 1) j = getT T f j := fun h => c3 (by omega)
      walk_at "run"
      by_cases a1 : (f : Int) ≤ (at_ : Int) <;> by_cases a2 : (at_ : Int) ≤ (f : Int) + (j : Int) <;> by_cases a3 : (f : Int) + (j : Int) ≤ (at_ : Int) <;> by_cases a4 : (at_ : Int) ≤ (f : Int)
      all_goals
        first
          | (exfalso; omega)
          | (try simp only [hx, hy, seqO_l, opt_some, b1, b2, b3, d1, d2, d3, g3, k1, k2, k3, ej, ej1, ef1, s1, s2, s3, s4, a1, a2, a3, a4, decide_true, decide_false, if_true, if_false, Bool.not_true, Bool.not_false, Bool.false_eq_true]
             try (walk_at "run")
             try simp only [hx, hy, seqO_l, opt_some, b1, b2, b3, d1, d2, d3, g3, k1, k2, k3, ej, ej1, ef1, s1, s2, s3, s4, a1, a2, a3, a4, decide_true, decide_false, if_true, if_false, Bool.not_true, Bool.not_false, Bool.false_eq_true]
             try (walk_at "run")
             try simp only [hx, hy, seqO_l, opt_some, b1, b2, b3, d1, d2, d3, g3, k1, k2, k3, ej, ej1, ef1, s1, s2, s3, s4, a1, a2, a3, a4, decide_true, decide_false, if_true, if_false, Bool.not_true, Bool.not_false, Bool.false_eq_true]
             try (walk_at "run")
             try simp only [hx, hy, seqO_l, opt_some, b1, b2, b3, d1, d2, d3, g3, k1, k2, k3, ej, ej1, ef1, s1, s2, s3, s4, a1, a2, a3, a4, decide_true, decide_false, if_true, if_false, Bool.not_true, Bool.not_false, Bool.false_eq_true]
             try (walk_at "run")
             try simp only [hx, hy, seqO_l, opt_some, b1, b2, b3, d1, d2, d3, g3, k1, k2, k3, ej, ej1, ef1, s1, s2, s3, s4, a1, a2, a3, a4, decide_true, decide_false, if_true, if_false, Bool.not_true, Bool.not_false, Bool.false_eq_true]
             try (walk_at "run")
             try simp only [hx, hy, seqO_l, opt_some, b1, b2, b3, d1, d2, d3, g3, k1, k2, k3, ej, ej1, ef1, s1, s2, s3, s4, a1, a2, a3, a4, decide_true, decide_false, if_true, if_false, Bool.not_true, Bool.not_false, Bool.false_eq_true]
             try (walk_at "run")
             try simp only [hx, hy, seqO_l, opt_some, b1, b2, b3, d1, d2, d3, g3, k1, k2, k3, ej, ej1, ef1, s1, s2, s3, s4, a1, a2, a3, a4, decide_true, decide_false, if_true, if_false, Bool.not_true, Bool.not_false, Bool.false_eq_true]
             try (walk_at "run")
             try simp only [hx, hy, seqO_l, opt_some, b1, b2, b3, d1, d2, d3, g3, k1, k2, k3, ej, ej1, ef1, s1, s2, s3, s4, a1, a2, a3, a4, decide_true, decide_false, if_true, if_false, Bool.not_true, Bool.not_false, Bool.false_eq_true]
             try (walk_at "run")
             try simp only [hx, hy, seqO_l, opt_some, b1, b2, b3, d1, d2, d3, g3, k1, k2, k3, ej, ej1, ef1, s1, s2, s3, s4, a1, a2, a3, a4, decide_true, decide_false, if_true, if_false, Bool.not_true, Bool.not_false, Bool.false_eq_true]
             try (walk_at "run")
             try simp only [hx, hy, seqO_l, opt_some, b1, b2, b3, d1, d2, d3, g3, k1, k2, k3, ej, ej1, ef1, s1, s2, s3, s4, a1, a2, a3, a4, decide_true, decide_false, if_true, if_false, Bool.not_true, Bool.not_false, Bool.false_eq_true]
             try (walk_at "run")
             try simp only [hx, hy, seqO_l, opt_some, b1, b2, b3, d1, d2, d3, g3, k1, k2, k3, ej, ej1, ef1, s1, s2, s3, s4, a1, a2, a3, a4, decide_true, decide_false, if_true, if_false, Bool.not_true, Bool.not_false, Bool.false_eq_true]
             exact fin _)
    · subst eσ eH
      exact hN _ _ ⟨_, _, _, _, rfl, rfl⟩
  · subst eσ eH
    walk_at "run"
    exact q
end
end Ly

/-! Sf8 -/
set_option Elab.async false
set_option linter.all false
set_option maxRecDepth 100000
set_option maxHeartbeats 4000000
namespace M
theorem seg_ext {A B : List (List (List Int))} {f g m : Nat} (h : ∀ k, k < m → A[f + k]? = B[g + k]?) : seg A f m = seg B g m := by
  unfold seg
  congr 1
  refine List.ext_getElem? fun k => ?_
  by_cases hk : k < m
  · rw [List.getElem?_take_of_lt hk, List.getElem?_take_of_lt hk, List.getElem?_drop, List.getElem?_drop]
    exact h k hk
  · rw [List.getElem?_eq_none (by rw [List.length_take]; omega), List.getElem?_eq_none (by rw [List.length_take]; omega)]
theorem ins_lo {A : List (List (List Int))} {X : List (List Int)} {s f m : Nat} (hs : s ≤ A.length) (h : f + m ≤ s) : seg (A.take s ++ [X] ++ A.drop s) f m = seg A f m := by
  refine seg_ext fun k hk => ?_
  have hl : (A.take s).length = s := by rw [List.length_take]; omega
  rw [List.append_assoc, List.getElem?_append, if_pos (by rw [hl]; omega), List.getElem?_take_of_lt (by omega)]
theorem ins_hi {A : List (List (List Int))} {X : List (List Int)} {s f m : Nat} (hs : s ≤ A.length) (h : s ≤ f) : seg (A.take s ++ [X] ++ A.drop s) (f + 1) m = seg A f m := by
  refine seg_ext fun k hk => ?_
  have hl : (A.take s ++ [X]).length = s + 1 := by rw [List.length_append, List.length_take]; show min s A.length + 1 = _; omega
  rw [List.getElem?_append, if_neg (by rw [hl]; omega), hl, List.getElem?_drop]
  congr 1
  omega
theorem insx_at {A : List (List (List Int))} {X : List (List Int)} {s : Nat} (hs : s ≤ A.length) : seg (A.take s ++ [X] ++ A.drop s) s 1 = X := by
  have hl : (A.take s).length = s := by rw [List.length_take]; omega
  have hlt : s < (A.take s ++ [X] ++ A.drop s).length := by
    rw [List.length_append, List.length_append, hl]; show s < s + 1 + _; omega
  rw [seg_one hlt]
  have : (A.take s ++ [X] ++ A.drop s)[s]? = some X := by
    rw [List.append_assoc, List.getElem?_append, if_neg (by omega), hl, Nat.sub_self]; rfl
  rw [List.getElem?_eq_getElem hlt] at this
  exact Option.some.inj this
end M
namespace Ly
open PySem PySem.Spec PyProof.Rows L2 M
theorem tab_len {P : Nat} {pcs : List (List Nat)} {b : Int} {n : Nat} : (tabT P pcs b n).length = pcs.length + 1 := by unfold tabT; rw [List.length_map, List.length_range]
theorem tab_row {P : Nat} {pcs : List (List Nat)} {b : Int} {n f : Nat} (h : f < pcs.length + 1) : (tabT P pcs b n).getD f [] = rowT P pcs b n f := by
  unfold tabT
  rw [List.getD_eq_getElem?_getD, List.getElem?_map, List.getElem?_range h]; rfl
theorem tab_tri {P : Nat} {pcs : List (List Nat)} {b : Int} {n : Nat} : Tri (tabT P pcs b n) (pcs.length + 1) := by
  refine ⟨tab_len, fun f hf => ?_⟩
  rw [tab_row hf]
  unfold rowT
  rw [List.length_map, List.length_range]
theorem tab_get {P : Nat} {pcs : List (List Nat)} {b : Int} {n f j : Nat} (h : f < pcs.length + 1) (hj : j < pcs.length + 1 - f) : getT (tabT P pcs b n) f j = ((cou P (segC P pcs f j) b n : Nat) : Int) := by
  unfold getT
  rw [tab_row h]
  unfold rowT
  rw [List.getD_eq_getElem?_getD, List.getElem?_map, List.getElem?_range hj]; rfl
theorem okP_seg {P : Nat} {pcs : List (List Nat)} (h0 : 0 < P) (h4 : P ≤ 4) (ok : AllOk P pcs) (f m : Nat) : OkP P (segC P pcs f m) := by
  rw [seg_codes]
  exact stL_ok h0 h4 (flat_ok fun ks hk => ok ks (List.mem_of_mem_drop (List.mem_of_mem_take hk))).1
theorem law_rep {P : Nat} {pcs : List (List Nat)} {ks : List Nat} {b : Int} {n at_ : Nat} (h0 : 0 < P) (h4 : P ≤ 4) (ok : AllOk P pcs) (okk : OkC P ks) (ha : at_ < pcs.length) (f l : Nat) (hfl : f ≤ l) (hl : l < pcs.length + 1) :
    (getT (tabT P (pcs.set at_ ks) b n) f (l - f) - getT (tabT P pcs b n) f (l - f) ≤ (max ks.length pcs[at_].length : Nat) ∧ getT (tabT P pcs b n) f (l - f) - getT (tabT P (pcs.set at_ ks) b n) f (l - f) ≤ (max ks.length pcs[at_].length : Nat)) ∧ (¬ (f ≤ at_ ∧ at_ < l) → getT (tabT P (pcs.set at_ ks) b n) f (l - f) = getT (tabT P pcs b n) f (l - f)) := by
  rw [tab_get (by rw [List.length_set]; omega) (by rw [List.length_set]; omega), tab_get (by omega) (by omega)]
  have em : (pcs.set at_ ks).map (stL P) = (pcs.map (stL P)).set at_ (stL P ks) := List.map_set
  unfold segC
  rw [em]
  by_cases hin : f ≤ at_ ∧ at_ < l
  · obtain ⟨h1, h2⟩ := hin
    have e : ∀ A : List (List (List Int)), seg A f (l - f) = seg A f (at_ - f) ++ seg A at_ 1 ++ seg A (at_ + 1) (l - at_ - 1) := fun A => by
      have a1 := seg_add A f (at_ - f) (l - at_)
      have a2 := seg_add A at_ 1 (l - at_ - 1)
      rw [show f + (at_ - f) = at_ by omega, show at_ - f + (l - at_) = l - f by omega] at a1
      rw [show 1 + (l - at_ - 1) = l - at_ by omega] at a2
      rw [a1, a2, List.append_assoc]
    rw [e, e, seg_set (by omega), seg_set (s := at_ + 1) (by omega), seg_one (by rw [List.length_set, List.length_map]; exact ha), seg_one (by rw [List.length_map]; exact ha), List.getElem_set_self, List.getElem_map]
    have okX := okP_seg h0 h4 ok f (at_ - f)
    have okY := okP_seg h0 h4 ok (at_ + 1) (l - at_ - 1)
    have okA : OkP P (stL P pcs[at_]) := stL_ok h0 h4 (ok _ (List.getElem_mem ha)).1
    have okK : OkP P (stL P ks) := stL_ok h0 h4 okk
    unfold segC at okX okY
    have c1 := cou_put (A := seg (pcs.map (stL P)) f (at_ - f)) (B := seg (pcs.map (stL P)) (at_ + 1) (l - at_ - 1)) (stL P ks) okK okY b n
    have c2 := cou_put (A := seg (pcs.map (stL P)) f (at_ - f)) (B := seg (pcs.map (stL P)) (at_ + 1) (l - at_ - 1)) (stL P pcs[at_]) okA okY b n
    rw [List.length_map] at c1 c2
    refine ⟨by omega, fun h => absurd ⟨h1, h2⟩ h⟩
  · rw [seg_set (by omega)]
    refine ⟨by omega, fun _ => rfl⟩
theorem law_grow {P : Nat} {pcs : List (List Nat)} {ks : List Nat} {b : Int} {n s : Nat} (h0 : 0 < P) (h4 : P ≤ 4) (ok : AllOk P pcs) (okk : OkC P ks) (hs : s ≤ pcs.length) (f l : Nat) (hfl : f ≤ l) (hl : l < pcs.length + 1) :
    (f ≤ s → s ≤ l → getT (tabT P pcs b n) f (l - f) ≤ getT (tabT P (pcs.take s ++ [ks] ++ pcs.drop s) b n) f (l + 1 - f) ∧ getT (tabT P (pcs.take s ++ [ks] ++ pcs.drop s) b n) f (l + 1 - f) ≤ getT (tabT P pcs b n) f (l - f) + ks.length) ∧
    (l ≤ s → getT (tabT P (pcs.take s ++ [ks] ++ pcs.drop s) b n) f (l - f) = getT (tabT P pcs b n) f (l - f)) ∧ (s ≤ f → getT (tabT P (pcs.take s ++ [ks] ++ pcs.drop s) b n) (f + 1) (l - f) = getT (tabT P pcs b n) f (l - f)) := by
  have len : (pcs.take s ++ [ks] ++ pcs.drop s).length = pcs.length + 1 := by
    rw [List.length_append, List.length_append, List.length_take, List.length_drop]; show min s pcs.length + 1 + _ = _; omega
  have em : (pcs.take s ++ [ks] ++ pcs.drop s).map (stL P) = (pcs.map (stL P)).take s ++ [stL P ks] ++ (pcs.map (stL P)).drop s := by
    rw [List.map_append, List.map_append, List.map_take, List.map_drop]; rfl
  have hs' : s ≤ (pcs.map (stL P)).length := by rw [List.length_map]; exact hs
  refine ⟨fun h1 h2 => ?_, fun h => ?_, fun h => ?_⟩
  · rw [tab_get (by omega) (by omega), tab_get (by omega) (by omega)]
    unfold segC
    rw [em]
    have e : ∀ A : List (List (List Int)), seg A f (l + 1 - f) = seg A f (s - f) ++ seg A s 1 ++ seg A (s + 1) (l - s) := fun A => by
      have a1 := seg_add A f (s - f) (l + 1 - s)
      have a2 := seg_add A s 1 (l - s)
      rw [show f + (s - f) = s by omega, show s - f + (l + 1 - s) = l + 1 - f by omega] at a1
      rw [show 1 + (l - s) = l + 1 - s by omega] at a2
      rw [a1, a2, List.append_assoc]
    have e2 : seg (pcs.map (stL P)) f (l - f) = seg (pcs.map (stL P)) f (s - f) ++ seg (pcs.map (stL P)) s (l - s) := by
      have a1 := seg_add (pcs.map (stL P)) f (s - f) (l - s)
      rw [show f + (s - f) = s by omega, show s - f + (l - s) = l - f by omega] at a1
      exact a1
    rw [e, e2, ins_lo hs' (by omega), insx_at hs', ins_hi hs' (Nat.le_refl _)]
    have okY := okP_seg h0 h4 ok s (l - s)
    have okK : OkP P (stL P ks) := stL_ok h0 h4 okk
    unfold segC at okY
    have c1 := cou_put (A := seg (pcs.map (stL P)) f (s - f)) (B := seg (pcs.map (stL P)) s (l - s)) (stL P ks) okK okY b n
    rw [List.length_map] at c1
    omega
  · rw [tab_get (by omega) (by omega), tab_get (by omega) (by omega)]
    unfold segC
    rw [em, ins_lo hs' (by omega)]
  · rw [tab_get (by omega) (by omega), tab_get (by omega) (by omega)]
    unfold segC
    rw [em, ins_hi hs' h]
/-! ### the law's standing facts -/
theorem isB_frame {c : CA} {H H' : Hp} {B : BD} {ws zs : List Str} {F : List Addr} (h : IsB c H B ws zs) (hF : ∀ b ∈ F, Fk H b) (ap : ∀ b ∈ F, b ∉ B.need) (s : Frame F H H') : IsB c H' B ws zs := by
  have no : ∀ b ∈ B.need, b ∉ F := fun b hb h => ap b h hb
  have m1 : B.x ∈ B.need := List.mem_cons_self ..
  have m2 : B.lv ∈ B.need := by simp [BD.need]
  have m3 : B.l ∈ B.need := by simp [BD.need]
  have m4 : B.pl ∈ B.need := by simp [BD.need]
  have m5 : ∀ b ∈ B.Ls, b ∈ B.need := fun b hb => by simp [BD.need, hb]
  refine ⟨s _ _ (no _ m1) h.hx, s _ _ (fun hm => ?_) h.hk, s _ _ (no _ m3) h.hl, s _ _ (no _ m4) h.hp, s _ _ (no _ m2) h.hv, ⟨h.lev.pos, h.lev.top, h.lev.few, fun j a e => (h.lev.ok j a e).frame s (no _ (m5 _ (List.mem_of_getElem? e))) hF⟩, h.okz, h.okw, h.len, h.n12, h.nd⟩
  rcases hF _ hm with ⟨xs, e⟩ | ⟨C, dy, a, b', r, e⟩
  · rw [h.hk] at e; cases e
  · rw [h.hk] at e; cases e
theorem IsB.dom {c : CA} {H : Hp} {B : BD} {ws zs : List Str} (h : IsB c H B ws zs) : ∀ b ∈ B.need, H b ≠ none := fun b hb => by
  simp only [BD.need, List.mem_cons] at hb
  rcases hb with e | e | e | e | e
  · rw [e, h.hx]; simp
  · rw [e, h.hv]; simp
  · rw [e, h.hl]; simp
  · rw [e, h.hp]; simp
  · obtain ⟨xs, hx⟩ := h.lsl e
    rw [hx]; simp
theorem fp_need {B : BD} : ∀ b ∈ B.fp, b ∈ B.need := fun b hb => by
  simp only [BD.fp, List.mem_cons] at hb
  simp only [BD.need, List.mem_cons]
  rcases hb with e | e | e
  · exact .inl e
  · exact .inr (.inr (.inr (.inl e)))
  · exact .inr (.inr (.inr (.inr e)))
structure Core (c : CA) (H : Hp) (a l : Addr) (P : Nat) (B1 B2 : BD) (zs1 zs2 : List Str) : Prop where
  dr : Dr H a l
  b1 : IsB c H B1 (everyW P) zs1
  b2 : IsB c H B2 (everyW P) zs2
  l2 : l ∉ B2.fp
  a1 : a ∉ B1.need
  a2 : a ∉ B2.need
  ap : ∀ b ∈ B2.fp, b ∉ B1.need
section
variable {c : CA} {H H' : Hp} {a l : Addr} {P : Nat} {B1 B2 B' : BD} {zs1 zs2 zs' : List Str}
theorem Core.same (h : Core c H a l P B1 B2 zs1 zs2) (s : Same H H') : Core c H' a l P B1 B2 zs1 zs2 := ⟨h.dr.same s, h.b1.same s, h.b2.same s, h.l2, h.a1, h.a2, h.ap⟩
theorem Dr.fk {H : Hp} {a l : Addr} (h : Dr H a l) : ∀ b ∈ [a], Fk H b := fun b hb => by
  rw [List.mem_singleton] at hb
  subst hb
  obtain ⟨_, _, _, _, _, _, h, _⟩ := h
  exact .inl ⟨_, h⟩
theorem Core.ch (h : Core c H a l P B1 B2 zs1 zs2) (s : Ch [a] H H') (d : Dr H' a l) : Core c H' a l P B1 B2 zs1 zs2 :=
  ⟨d, isB_frame h.b1 h.dr.fk (fun b hb => by rw [List.mem_singleton] at hb; rw [hb]; exact h.a1) s.fr, isB_frame h.b2 h.dr.fk (fun b hb => by rw [List.mem_singleton] at hb; rw [hb]; exact h.a2) s.fr, h.l2, h.a1, h.a2, h.ap⟩
theorem Core.domF (h : Core c H a l P B1 B2 zs1 zs2) : Dom (a :: B2.fp) H := fun b hb => by
  rcases List.mem_cons.mp hb with e | hb
  · rw [e]; exact h.dr.a
  · exact h.b2.dom b (fp_need b hb)
theorem Mut.fp (mu : Mut H H' B2 B') : ∀ b ∈ B'.fp, b ∈ B2.fp ∨ H b = none := fun b hb => by
  simp only [BD.fp, List.mem_cons] at hb ⊢
  rcases hb with e | e | e
  · exact .inl (.inl (e.trans mu.x))
  · exact .inl (.inr (.inl (e.trans mu.pl)))
  · rcases mu.ls b e with h | h
    · exact .inl (.inr (.inr h))
    · exact .inr h
theorem Mut.need (mu : Mut H H' B2 B') : ∀ b ∈ B'.need, b ∈ B2.need ∨ H b = none := fun b hb => by
  simp only [BD.need, List.mem_cons] at hb ⊢
  rcases hb with e | e | e | e | e
  · exact .inl (.inl (e.trans mu.x))
  · rcases mu.lv with h | h
    · exact .inl (.inr (.inl (e.trans h)))
    · exact .inr (e ▸ h)
  · exact .inl (.inr (.inr (.inl (e.trans mu.l))))
  · exact .inl (.inr (.inr (.inr (.inl (e.trans mu.pl)))))
  · rcases mu.ls b e with h | h
    · exact .inl (.inr (.inr (.inr (.inr h))))
    · exact .inr h
theorem Core.mut (h : Core c H a l P B1 B2 zs1 zs2) (mu : Mut H H' B2 B') (hB : IsB c H' B' (everyW P) zs') : Core c H' a l P B1 B' zs1 zs' := by
  refine ⟨h.dr.ch mu.fr (fun z => h.a2 (fp_need a z)) h.l2, isB_frame h.b1 h.b2.fpk' h.ap mu.fr, hB, fun z => ?_, h.a1, fun z => ?_, fun b hb => ?_⟩
  · rcases mu.fp l z with e | e
    · exact h.l2 e
    · exact h.dr.l e
  · rcases mu.need a z with e | e
    · exact h.a2 e
    · exact h.dr.a e
  · rcases mu.fp b hb with e | e
    · exact h.ap b e
    · exact fun z => h.b1.dom b z e
theorem Mut.sub (mu : Mut H H' B2 B') : ∀ b ∈ (a :: B2.fp) ++ (a :: B'.fp), b ∈ a :: B2.fp ∨ H b = none := fun b hb => by
  rcases List.mem_append.mp hb with e | e
  · exact .inl e
  · rcases List.mem_cons.mp e with e | e
    · exact .inl (by rw [e]; exact List.mem_cons_self ..)
    · rcases mu.fp b e with e | e
      · exact .inl (List.mem_cons_of_mem _ e)
      · exact .inr e
theorem Mut.frx (mu : Mut H H' B2 B') : Frame ((a :: B2.fp) ++ (a :: B'.fp)) H H' := fun b o hb e => mu.fr b o (fun z => hb (List.mem_append_left _ (List.mem_cons_of_mem _ z))) e
theorem LLF.mut {x : Addr} {A : List (List Int)} (h : LLF (a :: B2.fp) H x A) (mu : Mut H H' B2 B') : LLF (a :: B'.fp) H' x A :=
  ((h.sub (mu.sub (a := a))).ch mu.frx).sub fun b hb => .inl (List.mem_append_right _ hb)
theorem PLF.mut {x : Addr} {A : List (List Nat)} (h : PLF (a :: B2.fp) P H x A) (mu : Mut H H' B2 B') : PLF (a :: B'.fp) P H' x A :=
  ((h.sub (mu.sub (a := a))).ch mu.frx).sub fun b hb => .inl (List.mem_append_right _ hb)
theorem PLF.nil {F : List Addr} {x : Addr} {A : List (List Nat)} (h : PLF F P H x A) : PLF [] P H x A := h.sub fun b hb => by cases hb
end
/-! ### data -/
theorem dp_ints {K : PySem.W.Frag} {H : Hp} (ns : List Int) : DpAll K H (ns.map V.int) (ns.map PyData.int) := by
  induction ns with
  | nil => exact .nil
  | cons x r ih => exact .cons (.int x) ih
def dT (T : List (List Int)) : PyData := .list (T.map fun S => .list (S.map PyData.int))
theorem dp_tab {K : PySem.W.Frag} {H : Hp} {a : Addr} {T : List (List Int)} (h : LL H a T) : Dp K H (.ref a) (dT T) := by
  obtain ⟨bs, h1, h2, h3⟩ := h
  refine .lst (.inl (.inl h1)) ?_
  clear h1
  induction T generalizing bs with
  | nil =>
    cases bs with
    | nil => exact .nil
    | cons x r => cases h2
  | cons S T ih =>
    cases bs with
    | nil => cases h2
    | cons x r =>
      refine .cons (.lst (.inl (.inl (h3 0 x S rfl rfl))) (dp_ints S)) (ih r ?_ fun i b S e1 e2 => h3 (i + 1) b S e1 e2)
      simpa using h2
theorem dp_nil {K : PySem.W.Frag} {H : Hp} {a : Addr} (h : H a = some (.lst [])) : Dp K H (.ref a) (.list []) := .lst (.inl (.inl h)) .nil
def dS (zs : List Str) : PyData := .list (zs.map PyData.str)
theorem dp_strs {K : PySem.W.Frag} {H : Hp} {a : Addr} {zs : List Str} (h : H a = some (.lst (zs.map V.str))) : Dp K H (.ref a) (dS zs) := by
  refine .lst (.inl (.inl h)) ?_
  clear h
  induction zs with
  | nil => exact .nil
  | cons x r ih => exact .cons (.str x) ih
end Ly

/-! Sf9 -/
set_option Elab.async false
set_option linter.all false
set_option maxRecDepth 100000
set_option maxHeartbeats 4000000
namespace Ly
open PySem PySem.Spec PyProof.Rows L2 M
local macro_rules | `(tactic| walk_at "run") => `(tactic| (try simp only [r_seq, r_next, r_cont, r_break, r_asg, r_name, r_sub, r_drop, r_ret, r_retN, r_if, r_ite, r_never, r_var, r_c, r_bin, r_un, r_tB, r_T, r_chain, r_and, r_or, r_not, r_andV, r_orV, r_notV, r_nil, r_cons, r_lst, r_tup, r_cb, r_call, r_lm, r_sm, r_fld, r_prop, r_meth, r_setF, r_aug, r_slice, r_no, r_some, r_revS, r_listR, r_g2, r_yes, r_for, r_comp, r_iter, r_iter', r_iterT, r_iterS, r_rng1, r_rng2, r_rngD, r_enum, r_zip, set0, setS, List.getElem?_cons_zero, List.getElem?_cons_succ, opt_some, opt_none, v_add_i, v_add_s, v_add_l, v_sub, v_mul_i, v_mul_l, v_mod, v_div, v_shl, v_shr, v_band, v_neg, v_lt, v_lt_s, v_le, v_le_s, v_gt, v_ge, v_eq_i, v_ne_i, v_eq_s, v_ne_s, v_in_l, v_in_s, v_idx, v_idx_s, v_slice, v_len, v_len_s, v_list, v_tuple, v_int, v_abs, v_max, v_min, v_maxL, v_sum, v_append, v_insert, v_popAt, v_pop, v_join, v_toB, v_tru_b, v_aug, v_set, v_ins, ints_bind, strs_bind, lst?_eq, tup?_eq, seq?_eq, lstO_l, lstO_f, lstW_l, tupO_t, seqO_l, seqO_t, insO_i, upd_same, upd_old, Option.isSome_some, List.length_map, wipe_one, Int.zero_add, Int.toNat_natCast, true_and, at3_0, at3_1, at3_2, ix3_0, ix3_1, List.set_cons_zero, List.set_cons_succ, List.length_cons, List.length_nil, upd2, Nat.zero_add, v_own, v_iter, r_iterV, at4_0, at4_1, at4_2, at4_3, Nat.reduceAdd, opt_some]))
local macro_rules | `(tactic| walk_at "runs") => `(tactic| (try simp only [r_seq, r_next, r_cont, r_break, r_asg, r_name, r_sub, r_drop, r_ret, r_retN, r_if, r_ite, r_never, r_var, r_c, r_bin, r_un, r_tB, r_T, r_chain, r_and, r_or, r_not, r_andV, r_orV, r_notV, r_nil, r_cons, r_lst, r_tup, r_cb, r_call, r_lm, r_sm, r_fld, r_prop, r_meth, r_setF, r_aug, r_slice, r_no, r_some, r_revS, r_listR, r_g2, r_yes, r_for, r_comp, r_iter, r_iter', r_iterT, r_iterS, r_rng1, r_rng2, r_rngD, r_enum, r_zip, set0, setS, List.getElem?_cons_zero, List.getElem?_cons_succ, opt_some, opt_none, v_add_i, v_add_s, v_add_l, v_sub, v_mul_i, v_mul_l, v_mod, v_div, v_shl, v_shr, v_band, v_neg, v_lt, v_lt_s, v_le, v_le_s, v_gt, v_ge, v_eq_i, v_ne_i, v_eq_s, v_ne_s, v_in_l, v_in_s, v_idx, v_idx_s, v_slice, v_len, v_len_s, v_list, v_tuple, v_int, v_abs, v_max, v_min, v_maxL, v_sum, v_append, v_insert, v_popAt, v_pop, v_join, v_toB, v_tru_b, v_aug, v_set, v_ins, ints_bind, strs_bind, lst?_eq, tup?_eq, seq?_eq, lstO_l, lstO_f, lstW_l, tupO_t, seqO_l, seqO_t, insO_i, upd_same, upd_old, Option.isSome_some, List.length_map, wipe_one, Int.zero_add, Int.toNat_natCast, true_and, at3_0, at3_1, at3_2, ix3_0, ix3_1, List.set_cons_zero, List.set_cons_succ, List.length_cons, List.length_nil, upd2, Nat.zero_add, v_own, v_iter, r_iterV, at4_0, at4_1, at4_2, at4_3, Nat.reduceAdd, opt_some, *]))
theorem lay_ints (S : List Int) : PyData.canLayAll0 (S.map PyData.int) = true ∧ PyData.depthAll (S.map PyData.int) = 0 := by
  induction S with
  | nil => exact ⟨rfl, rfl⟩
  | cons x r ih =>
    refine ⟨?_, ?_⟩
    · show (PyData.canLay0 (.int x) && PyData.canLayAll0 (r.map PyData.int)) = true
      rw [ih.1]; rfl
    · show max (PyData.depth (.int x)) (PyData.depthAll (r.map PyData.int)) = 0
      rw [ih.2]; rfl
theorem lay_rows (T : List (List Int)) : PyData.canLayAll0 (T.map fun S => PyData.list (S.map PyData.int)) = true ∧ PyData.depthAll (T.map fun S => PyData.list (S.map PyData.int)) ≤ 1 := by
  induction T with
  | nil => exact ⟨rfl, Nat.zero_le _⟩
  | cons x r ih =>
    obtain ⟨h1, h2⟩ := lay_ints x
    refine ⟨?_, ?_⟩
    · show (PyData.canLayAll0 (x.map PyData.int) && PyData.canLayAll0 (r.map _)) = true
      rw [ih.1, h1]; rfl
    · show max (PyData.depthAll (x.map PyData.int) + 1) (PyData.depthAll (r.map _)) ≤ 1
      rw [h2]
      have := ih.2
      omega
theorem shaped_tab (T : List (List Int)) : SeqAt.shaped (dT T) = true := by
  obtain ⟨h1, h2⟩ := lay_rows T
  show (PyData.canLayAll0 _ && decide (PyData.depthAll _ + 1 ≤ 64)) = true
  rw [h1, decide_eq_true (by omega)]
  rfl
theorem shaped_nil : SeqAt.shaped (.list []) = true := by decide
theorem lay_strs (zs : List Str) (h : ∀ z ∈ zs, PyData.canLay0 (.str z) = true) : PyData.canLayAll0 (zs.map PyData.str) = true ∧ PyData.depthAll (zs.map PyData.str) = 0 := by
  induction zs with
  | nil => exact ⟨rfl, rfl⟩
  | cons x r ih =>
    obtain ⟨h1, h2⟩ := ih fun z hz => h z (List.mem_cons_of_mem _ hz)
    refine ⟨?_, ?_⟩
    · show (PyData.canLay0 (.str x) && PyData.canLayAll0 (r.map PyData.str)) = true
      rw [h1, h x (List.mem_cons_self ..)]; rfl
    · show max (PyData.depth (.str x)) (PyData.depthAll (r.map PyData.str)) = 0
      rw [h2]; rfl
theorem shaped_strs (zs : List Str) (h : ∀ z ∈ zs, PyData.canLay0 (.str z) = true) : SeqAt.shaped (dS zs) = true := by
  obtain ⟨h1, h2⟩ := lay_strs zs h
  show (PyData.canLayAll0 _ && decide (PyData.depthAll _ + 1 ≤ 64)) = true
  rw [h1, h2]; rfl
theorem eqv_refl' {d : PyData} (h : SeqAt.shaped d = true) : PyData.eqv d d = true := SeqAt.eqv_refl d (SeqAt.canLay_of_shaped h)
theorem eqv_tab_nil {T : List (List Int)} (h : 0 < T.length) : PyData.eqv (dT T) (.list []) = false := by
  cases T with
  | nil => cases h
  | cons x r => rfl
theorem zOf_lay {ks : List Nat} {P : Nat} (h4 : P ≤ 4) (h : OkC P ks) : PyData.canLay0 (.str (zOf ks)) = true := by
  show ((ks.map (96 + ·)).toArray.all (· < 0x110000)) = true
  rw [Array.all_eq_true]
  intro i hi
  have hp : 2 ^ P ≤ 16 := by
    have : P = 0 ∨ P = 1 ∨ P = 2 ∨ P = 3 ∨ P = 4 := by omega
    rcases this with rfl | rfl | rfl | rfl | rfl <;> decide
  have hm : (ks.map (96 + ·)).toArray[i] ∈ ks.map (96 + ·) := by
    rw [List.getElem_toArray]
    exact List.getElem_mem _
  obtain ⟨k, hk, e⟩ := List.mem_map.mp hm
  have := (h k hk).2
  rw [← e]
  exact decide_eq_true (by omega)
def sp_law (c : CA) : Sp := fun vs H Q _ => ∃ (s : Addr) (ns : List Int), vs = [.ref s] ∧ SqL c.K H s (ns.map V.int) ∧ ∀ H', Q (.bl true) H'
theorem two_at {v : Int} (h0 : 0 ≤ v) (h4 : v < 4) : ∃ P : Nat, 0 < P ∧ P ≤ 4 ∧ atI [V.int 2, V.int 3, V.int 1, V.int 4] v = some (.int (P : Int)) := by
  have : v = 0 ∨ v = 1 ∨ v = 2 ∨ v = 3 := by omega
  rcases this with rfl | rfl | rfl | rfl
  · exact ⟨2, by decide, by decide, rfl⟩
  · exact ⟨3, by decide, by decide, rfl⟩
  · exact ⟨1, by decide, by decide, rfl⟩
  · exact ⟨4, by decide, by decide, rfl⟩
theorem many1_at {v : Int} (h0 : 0 ≤ v) (h4 : v < 4) : ∃ m : Nat, 0 < m ∧ m ≤ 4 ∧ atI [V.int 3, V.int 2, V.int 4, V.int 1] v = some (.int (m : Int)) := by
  have : v = 0 ∨ v = 1 ∨ v = 2 ∨ v = 3 := by omega
  rcases this with rfl | rfl | rfl | rfl
  · exact ⟨3, by decide, by decide, rfl⟩
  · exact ⟨2, by decide, by decide, rfl⟩
  · exact ⟨4, by decide, by decide, rfl⟩
  · exact ⟨1, by decide, by decide, rfl⟩
theorem size_at {v : Int} (h0 : 0 ≤ v) (h4 : v < 4) : ∃ m : Nat, m ≤ 3 ∧ atI [V.int 2, V.int 1, V.int 3, V.int 0] v = some (.int (m : Int)) := by
  have : v = 0 ∨ v = 1 ∨ v = 2 ∨ v = 3 := by omega
  rcases this with rfl | rfl | rfl | rfl
  · exact ⟨2, by decide, rfl⟩
  · exact ⟨1, by decide, rfl⟩
  · exact ⟨3, by decide, rfl⟩
  · exact ⟨0, by decide, rfl⟩
theorem mod_nat {x : Int} {m : Nat} (h : 0 < m) : ∃ k : Nat, k < m ∧ x % (m : Int) = (k : Int) := ⟨(x % (m : Int)).toNat, by
  have := Int.emod_lt_of_pos x (show (0 : Int) < m by omega)
  have := Int.emod_nonneg x (show (m : Int) ≠ 0 by omega)
  omega, by
  have := Int.emod_nonneg x (show (m : Int) ≠ 0 by omega)
  omega⟩
/-- pages, told by their list -/
def PPt (F : List Addr) (P : Nat) (H : Hp) (bs : List Addr) (pcs : List (List Nat)) : Prop := bs.length = pcs.length ∧ ∀ (i : Nat) (b : Addr) (ks : List Nat), bs[i]? = some b → pcs[i]? = some ks → LLF F H b (stL P ks)
section
variable {F : List Addr} {P : Nat} {H H' : Hp} {bs cs : List Addr} {A B : List (List Nat)}
theorem PPt.app (h : PPt F P H bs A) (k : PPt F P H cs B) : PPt F P H (bs ++ cs) (A ++ B) := by
  refine ⟨by rw [List.length_append, List.length_append, h.1, k.1], fun j b S e eS => ?_⟩
  rw [List.getElem?_append] at e eS
  rw [← h.1] at eS
  by_cases hj : j < bs.length
  · rw [if_pos hj] at e eS
    exact h.2 j b S e eS
  · rw [if_neg hj] at e eS
    exact k.2 _ b S e eS
theorem PPt.take (h : PPt F P H bs A) (n : Nat) : PPt F P H (bs.take n) (A.take n) := by
  refine ⟨by rw [List.length_take, List.length_take, h.1], fun j b S e eS => ?_⟩
  by_cases hj : j < n
  · rw [List.getElem?_take_of_lt hj] at e eS
    exact h.2 j b S e eS
  · rw [List.getElem?_eq_none (by rw [List.length_take]; omega)] at e; cases e
theorem PPt.drop (h : PPt F P H bs A) (n : Nat) : PPt F P H (bs.drop n) (A.drop n) := by
  refine ⟨by rw [List.length_drop, List.length_drop, h.1], fun j b S e eS => ?_⟩
  rw [List.getElem?_drop] at e eS
  exact h.2 _ b S e eS
theorem PPt.one {b : Addr} {ks : List Nat} (h : LLF F H b (stL P ks)) : PPt F P H [b] [ks] := by
  refine ⟨rfl, fun j c T e eS => ?_⟩
  have hj : j = 0 := by have := (List.getElem?_eq_some_iff.mp e).1; simp at this; exact this
  subst hj
  cases e
  cases eS
  exact h
theorem PPt.fr (h : PPt F P H bs A) (s : Frame F H H') : PPt F P H' bs A := ⟨h.1, fun j b S e eS => (h.2 j b S e eS).ch s⟩
theorem PPt.plf {a : Addr} (h : PPt F P H bs A) (ha : H a = some (.lst (bs.map V.ref))) (n : a ∉ F) : PLF F P H a A := ⟨n, bs, ha, h.1, h.2⟩
theorem PLF.pp {a : Addr} (h : PLF F P H a A) : ∃ bs, H a = some (.lst (bs.map V.ref)) ∧ PPt F P H bs A := by
  obtain ⟨_, bs, h1, h2, h3⟩ := h
  exact ⟨bs, h1, h2, h3⟩
end
section
variable {c : CA} {vs : List V} {H : Hp} {Q : VK} {E : XK}
theorem list_binder {B : BD} {ws zs : List Str} (hB : IsB c H B ws zs) (q : ∀ H' p, Same H H' → H' p = some (.lst (zs.map V.str)) → Q (.ref p) H') : listOwnV c.Binder (sp_Binder___iter__ c) (sp_Binder___len__ c) [.ref B.x] H Q := by
  show ins? c.Binder H (.ref B.x) fun _ _ _ => _
  refine ins?_of hB.hx fun p hp => ?_
  have s1 := same_upd (o := .lst []) hp
  refine ⟨B, ws, zs, rfl, hB.same s1, fun it hit => ?_⟩
  have s2 := s1.trans (same_upd (o := ItO B.pl it 0) hit)
  have hB2 := hB.same s2
  have npi : p ≠ it := fun e => by rw [← e, upd_same] at hit; cases hit
  have npl : B.pl ≠ p := fun e => by have := hB.hp; rw [e, hp] at this; cases this
  have nil_ : B.pl ≠ it := fun e => by have := (hB.same s1).hp; rw [e, hit] at this; cases this
  have n12 := hB.n12
  refine ⟨B.pl, it, zs.map V.str, rfl, upd_same, ins?_of hB2.hx trivial, B, ws, zs, rfl, hB2, ?_⟩
  refine ⟨by omega, by omega, by omega, upd_same, ?_, lst?_of hB2.hp, npi, npl, nil_, by rw [List.length_map]; omega, q _ p (fun b o e => ?_) upd_same⟩
  · rw [upd_ne npi, upd_same]
  · have b1 : b ≠ p := fun z => by rw [z, hp] at e; cases e
    have b2 : b ≠ it := fun z => by
      have := s1 _ _ e
      rw [z, hit] at this; cases this
    rw [upd_ne b1, upd_ne b2]
    exact s2 _ _ e
theorem eqD_nil {a p : Addr} {T : List (List Int)} (h : LL H a T) (hT : 0 < T.length) (hp : H p = some (.lst [])) (q : Q (.bl false) H) : eqDV c.K (.ref a) (.ref p) H Q :=
  ⟨_, _, dp_tab h, dp_nil hp, shaped_tab T, shaped_nil, by rw [eqv_tab_nil hT]; exact q⟩
theorem neD_same {a b : Addr} {T : List (List Int)} (h : LL H a T) (k : LL H b T) (q : Q (.bl false) H) : neDV c.K (.ref a) (.ref b) H Q :=
  ⟨_, _, dp_tab h, dp_tab k, shaped_tab T, shaped_tab T, by rw [eqv_refl' (shaped_tab T)]; exact q⟩
theorem eqD_strs {a b : Addr} {zs : List Str} (hz : ∀ z ∈ zs, PyData.canLay0 (.str z) = true) (h : H a = some (.lst (zs.map V.str))) (k : H b = some (.lst (zs.map V.str))) (q : Q (.bl true) H) : eqDV c.K (.ref a) (.ref b) H Q :=
  ⟨_, _, dp_strs h, dp_strs k, shaped_strs zs hz, shaped_strs zs hz, by rw [eqv_refl' (shaped_strs zs hz)]; exact q⟩
end
end Ly

/-! SfA -/
set_option Elab.async false
set_option linter.all false
set_option maxRecDepth 100000
set_option maxHeartbeats 4000000
namespace Ly
open PySem PySem.Spec PyProof.Rows L2 M
local macro_rules | `(tactic| walk_at "run") => `(tactic| (try simp only [r_seq, r_next, r_cont, r_break, r_asg, r_name, r_sub, r_drop, r_ret, r_retN, r_if, r_ite, r_never, r_var, r_c, r_bin, r_un, r_tB, r_T, r_chain, r_and, r_or, r_not, r_andV, r_orV, r_notV, r_nil, r_cons, r_lst, r_tup, r_cb, r_call, r_lm, r_sm, r_fld, r_prop, r_meth, r_setF, r_aug, r_slice, r_no, r_some, r_revS, r_listR, r_g2, r_yes, r_for, r_comp, r_iter, r_iter', r_iterT, r_iterS, r_rng1, r_rng2, r_rngD, r_enum, r_zip, set0, setS, List.getElem?_cons_zero, List.getElem?_cons_succ, opt_some, opt_none, v_add_i, v_add_s, v_add_l, v_sub, v_mul_i, v_mul_l, v_mod, v_div, v_shl, v_shr, v_band, v_neg, v_lt, v_lt_s, v_le, v_le_s, v_gt, v_ge, v_eq_i, v_ne_i, v_eq_s, v_ne_s, v_in_l, v_in_s, v_idx, v_idx_s, v_slice, v_len, v_len_s, v_list, v_tuple, v_int, v_abs, v_max, v_min, v_maxL, v_sum, v_append, v_insert, v_popAt, v_pop, v_join, v_toB, v_tru_b, v_aug, v_set, v_ins, ints_bind, strs_bind, lst?_eq, tup?_eq, seq?_eq, lstO_l, lstO_f, lstW_l, tupO_t, seqO_l, seqO_t, insO_i, upd_same, upd_old, Option.isSome_some, List.length_map, wipe_one, Int.zero_add, Int.toNat_natCast, true_and, at3_0, at3_1, at3_2, ix3_0, ix3_1, List.set_cons_zero, List.set_cons_succ, List.length_cons, List.length_nil, upd2, Nat.zero_add, v_own, v_iter, r_iterV, at4_0, at4_1, at4_2, at4_3, Nat.reduceAdd, opt_some]))
local macro_rules | `(tactic| walk_at "runs") => `(tactic| (try simp only [r_seq, r_next, r_cont, r_break, r_asg, r_name, r_sub, r_drop, r_ret, r_retN, r_if, r_ite, r_never, r_var, r_c, r_bin, r_un, r_tB, r_T, r_chain, r_and, r_or, r_not, r_andV, r_orV, r_notV, r_nil, r_cons, r_lst, r_tup, r_cb, r_call, r_lm, r_sm, r_fld, r_prop, r_meth, r_setF, r_aug, r_slice, r_no, r_some, r_revS, r_listR, r_g2, r_yes, r_for, r_comp, r_iter, r_iter', r_iterT, r_iterS, r_rng1, r_rng2, r_rngD, r_enum, r_zip, set0, setS, List.getElem?_cons_zero, List.getElem?_cons_succ, opt_some, opt_none, v_add_i, v_add_s, v_add_l, v_sub, v_mul_i, v_mul_l, v_mod, v_div, v_shl, v_shr, v_band, v_neg, v_lt, v_lt_s, v_le, v_le_s, v_gt, v_ge, v_eq_i, v_ne_i, v_eq_s, v_ne_s, v_in_l, v_in_s, v_idx, v_idx_s, v_slice, v_len, v_len_s, v_list, v_tuple, v_int, v_abs, v_max, v_min, v_maxL, v_sum, v_append, v_insert, v_popAt, v_pop, v_join, v_toB, v_tru_b, v_aug, v_set, v_ins, ints_bind, strs_bind, lst?_eq, tup?_eq, seq?_eq, lstO_l, lstO_f, lstW_l, tupO_t, seqO_l, seqO_t, insO_i, upd_same, upd_old, Option.isSome_some, List.length_map, wipe_one, Int.zero_add, Int.toNat_natCast, true_and, at3_0, at3_1, at3_2, ix3_0, ix3_1, List.set_cons_zero, List.set_cons_succ, List.length_cons, List.length_nil, upd2, Nat.zero_add, v_own, v_iter, r_iterV, at4_0, at4_1, at4_2, at4_3, Nat.reduceAdd, opt_some, *]))
theorem r_wlist {t : TE} {σ : L2.St} {H : Hp} {Q : VK} {C : Addr} {spI spL : Sp} : wCB (listOwnV C spI spL) (tCons t tNil) σ H Q = t σ H fun x H1 => listOwnV C spI spL [x] H1 Q := rfl
theorem ins_del {α : Type} {l : List α} {s : Nat} {x : α} (h : s ≤ l.length) : (l.take s ++ [x] ++ l.drop s).take s ++ (l.take s ++ [x] ++ l.drop s).drop (s + 1) = l := by
  have hl : (l.take s).length = s := by rw [List.length_take]; omega
  have e1 : (l.take s ++ [x] ++ l.drop s).take s = l.take s := by
    rw [List.append_assoc, List.take_append_of_le_length (by omega), List.take_of_length_le (by omega)]
  have hl1 : (l.take s ++ [x]).length = s + 1 := by rw [List.length_append, hl]; rfl
  have e2 : (l.take s ++ [x] ++ l.drop s).drop (s + 1) = l.drop s := by
    rw [List.drop_append_of_le_length (by omega), List.drop_of_length_le (by omega)]; rfl
  rw [e1, e2, List.take_append_drop]
theorem ins_get {α : Type} {l : List α} {s : Nat} {x : α} (h : s ≤ l.length) : (l.take s ++ [x] ++ l.drop s)[s]? = some x := by
  have hl : (l.take s).length = s := by rw [List.length_take]; omega
  rw [List.append_assoc, List.getElem?_append, if_neg (by omega), hl, Nat.sub_self]; rfl
section
variable {c : CA} {vs : List V} {H : Hp} {Q : VK} {E : XK}
/-- the first half: pages, window, calendar, two binders -/
theorem sem_law (h : sp_law c vs H Q E) : t_law c E (De Q) (start ["_law_script", "_law_state", "_law_places", "_law_many", "_law_pages", "_law_number", "_law_size", "_law_begin_here", "_law_end", "_law_calendar", "_law_one", "_law_two", "_law_old", "_law_at", "_law_other_here", "_law_changed", "_law_new", "_law_spot", "_law_more", "_law_longer", "_law_grown_here", "_law_page_here", "_law_texts"] vs) H := by
  obtain ⟨s, ns, rfl, hs, q⟩ := h
  show t_law c E _ [some (.ref s), none, none, none, none, none, none, none, none, none, none, none, none, none, none, none, none, none, none, none, none, none, none] H
  unfold t_law
  rw [r_seq, r_asg]
  walk_at "run"
  refine ⟨s, ns, rfl, hs, fun H1 a l s1 na nl nal dr1 => ?_⟩
  try (walk_at "run")
  clear hs s1 na nl
  -- places
  refine ⟨by decide, fun L1 hL1 => ?_⟩
  try (walk_at "run")
  have t1 := same_upd (o := .lst [V.int 2, V.int 3, V.int 1, V.int 4]) hL1
  have nL1 : L1 ∉ [a] := fun z => by rw [List.mem_singleton] at z; rw [z] at hL1; exact dr1.a hL1
  refine ⟨a, l, 4, rfl, dr1.same t1, by decide, by decide, fun H2 v v0 v1 ch2 dr2 => ?_⟩
  try (walk_at "run")
  obtain ⟨P, hP, p4, hv⟩ := two_at v0 v1
  have hL2 := ch2.fr _ _ nL1 (upd_same (H := H1) (a := L1) (o := .lst [V.int 2, V.int 3, V.int 1, V.int 4]))
  simp only [hL2, seqO_l, opt_some, hv]
  clear hL2 hv v0 v1 v ch2 t1 nL1 hL1 L1 dr1
  -- many
  refine ⟨by decide, fun L1 hL1 => ?_⟩
  try (walk_at "run")
  have t1 := same_upd (o := .lst [V.int 3, V.int 2, V.int 4, V.int 1]) hL1
  have nL1 : L1 ∉ [a] := fun z => by rw [List.mem_singleton] at z; rw [z] at hL1; exact dr2.a hL1
  refine ⟨a, l, 4, rfl, dr2.same t1, by decide, by decide, fun H3 v v0 v1 ch3 dr3 => ?_⟩
  try (walk_at "run")
  obtain ⟨m, hm0, hm4, hv⟩ := many1_at v0 v1
  have hL2 := ch3.fr _ _ nL1 (upd_same (H := H2) (a := L1) (o := .lst [V.int 3, V.int 2, V.int 4, V.int 1]))
  simp only [hL2, seqO_l, opt_some, hv]
  clear hL2 hv v0 v1 v ch3 t1 nL1 hL1 L1 dr2 H2
  -- pages
  refine ⟨by decide, fun PG hPG => ?_⟩
  try (walk_at "run")
  refine ⟨rng_small (by omega) (by omega), ?_⟩
  have naP : PG ∉ [a] := fun z => by rw [List.mem_singleton] at z; rw [z] at hPG; exact dr3.a hPG
  have nlP : l ∉ [PG] := fun z => by rw [List.mem_singleton] at z; rw [← z] at hPG; exact dr3.l hPG
  have naP' : a ∉ [PG] := fun z => by rw [List.mem_singleton] at z; exact naP (by rw [List.mem_singleton]; exact z.symm)
  refine for_rng (P := fun i σ H' => ∃ v5 v6 bs pcs, σ = [some (.ref s), some (.ref a), some (.int P), some (.int m), some (.ref PG), v5, v6, none, none, none, none, none, none, none, none, none, none, none, none, none, none, none, none] ∧ Dr H' a l ∧ H' PG = some (.lst (bs.map V.ref)) ∧ PPt [PG, a] P H' bs pcs ∧ AllOk P pcs ∧ pcs.length = i)
    ⟨none, none, [], [], rfl, dr3.same (same_upd hPG), upd_same, ⟨rfl, fun j b S e => by cases e⟩, (fun ks hk => by cases hk), rfl⟩ (fun i σ H' N hi ⟨v5, v6, bs, pcs, eσ, dr, hPG', pp, ok, li⟩ hN => ?_) (fun σ H' ⟨v5, v6, bs, pcs, eσ, dr, hPG', pp, ok, li⟩ => ?_)
  · subst eσ
    have frA : ∀ {G G' : Hp}, Frame [a] G G' → Frame [PG, a] G G' := fun f b o hb e => f b o (fun z => hb (List.mem_cons_of_mem _ z)) e
    have frP : ∀ {G G' : Hp}, Frame [PG] G G' → Frame [PG, a] G G' := fun f b o hb e => f b o (fun z => hb (by rw [List.mem_singleton] at z; rw [z]; exact List.mem_cons_self ..)) e
    walk_at "run"
    refine ⟨by decide, fun L1 hL1 => ?_⟩
    try (walk_at "run")
    have t1 := same_upd (o := .lst [V.int 2, V.int 1, V.int 3, V.int 0]) hL1
    have nL1 : L1 ∉ [a] := fun z => by rw [List.mem_singleton] at z; rw [z] at hL1; exact dr.a hL1
    refine ⟨a, l, 4, rfl, dr.same t1, by decide, by decide, fun H4 v v0 v1 ch4 dr4 => ?_⟩
    try (walk_at "run")
    obtain ⟨sz, hsz, hv⟩ := size_at v0 v1
    have hL2 := ch4.fr _ _ nL1 (upd_same (H := H') (a := L1) (o := .lst [V.int 2, V.int 1, V.int 3, V.int 0]))
    simp only [hL2, seqO_l, opt_some, hv]
    have hPG4 := ch4.fr _ _ naP (t1 _ _ hPG')
    simp only [hPG4, lstO_l, opt_some]
    have dF : Dom [PG, a] H4 := fun b hb => by
      rcases List.mem_cons.mp hb with e | hb
      · rw [e, hPG4]; simp
      · rw [List.mem_singleton] at hb; rw [hb]; exact dr4.a
    refine ⟨a, l, P, sz, (i : Int), [PG, a], rfl, dr4, hP, p4, hsz, by omega, dF, fun H5 p ks ch5 dr5 np okk lk hp => ?_⟩
    try (walk_at "run")
    have hPG5 := ch5.fr _ _ naP hPG4
    have pp5 : PPt [PG, a] P H5 bs pcs := (pp.fr (Frame.same t1)).fr (frA ch4.fr) |>.fr (frA ch5.fr)
    have lbs : bs.length = i := by rw [pp.1, li]
    try (walk_at "run")
    simp only [hPG5, lstW_l, opt_some, List.length_map]
    refine ⟨small_line (by omega), hN _ _ ⟨_, _, bs ++ [p], pcs ++ [ks], rfl, dr5.ch frame_upd naP' nlP, by rw [upd_same, List.map_append]; rfl, (pp5.app (PPt.one hp)).fr (frP frame_upd), fun ks' hk => ?_, by rw [List.length_append, li]; rfl⟩⟩
    rcases List.mem_append.mp hk with h | h
    · exact ok _ h
    · rw [List.mem_singleton] at h
      rw [h]
      exact ⟨okk, by omega⟩
  · subst eσ
    have lm : pcs.length = m := li
    have pl : PLF [a] P H' PG pcs := ⟨naP, bs, hPG', pp.1, fun i b ks e1 e2 => (pp.2 i b ks e1 e2).sub fun b hb => .inl (List.mem_cons_of_mem _ hb)⟩
    clear pp hPG' li bs dr3 hPG naP nlP naP' H3
    walk_at "run"
    -- the window
    refine ⟨a, l, 25, rfl, dr, by decide, by decide, fun H4 v v0 v1 ch4 dr4 => ?_⟩
    try (walk_at "run")
    have e1 : (0 : Int) < 25 := by decide
    try (walk_at "run")
    simp only [e1, true_and]
    try (walk_at "run")
    have b0 := Int.emod_nonneg (12 + v) (show (25 : Int) ≠ 0 by decide)
    have b1 := Int.emod_lt_of_pos (12 + v) e1
    generalize hb : (12 + v) % 25 - 12 = b at *
    refine ⟨a, l, 10, rfl, dr4, by decide, by decide, fun H5 w w0 w1 ch5 dr5 => ?_⟩
    try (walk_at "run")
    have e2 : (0 : Int) < 10 := by decide
    try (walk_at "run")
    simp only [e2, true_and]
    have c0 := Int.emod_nonneg (5 + w) (show (10 : Int) ≠ 0 by decide)
    have c1 := Int.emod_lt_of_pos (5 + w) e2
    generalize he : b + (5 + w) % 10 = e at *
    have hbe : b ≤ e := by omega
    have sb : sm b := by unfold sm; omega
    have se : sm e := by unfold sm; omega
    have pl5 := (pl.ch ch4.fr).ch ch5.fr
    clear pl ch4 ch5 dr4 dr b0 b1 c0 c1 hb he v0 v1 w0 w1 v w e1 e2
    try (walk_at "run")
    -- the calendar
    refine ⟨P, rfl, hP, p4, fun H6 k s6 nk hk => ?_⟩
    try (walk_at "run")
    have pl6 := pl5.ch (Frame.same s6)
    have dr6 := dr5.same s6
    try (walk_at "run")
    refine ⟨k, PG, P, pcs, rfl, hP, p4, hk, pl6.nil, ok, by omega, fun H7 B1 s7 ek1 f1 v1 hB1 => ?_⟩
    try (walk_at "run")
    have pl7 := pl6.ch (Frame.same s7)
    have dr7 := dr6.same s7
    try (walk_at "run")
    refine ⟨k, PG, P, pcs, rfl, hP, p4, iscal_same hk s7, pl7.nil, ok, by omega, fun H8 B2 s8 ek2 f2 v2 hB2 => ?_⟩
    try (walk_at "run")
    have pl8 := pl7.ch (Frame.same s8)
    have dr8 := dr7.same s8
    have hB1' := hB1.same s8
    -- the standing facts
    have lk : ∀ {B : BD} {zs : List Str} {G : Hp}, IsB c G B (everyW P) zs → Dr G a l → a ≠ B.l := fun hB d z => by
      obtain ⟨_, _, _, _, _, _, d, _⟩ := d
      have := hB.hl
      rw [← z, d] at this
      have e2 := Option.some.inj this
      cases hw : everyW P with
      | nil => rw [hw] at e2; cases e2
      | cons x r => rw [hw] at e2; cases e2
    have core : Core c H8 a l P B1 B2 (pcs.map zOf) (pcs.map zOf) := by
      refine ⟨dr8, hB1', hB2, fun z => dr7.l (f2 _ z), fun z => ?_, fun z => ?_, fun b' hb' z => hB1.dom b' z (f2 b' hb')⟩
      · simp only [BD.need, List.mem_cons] at z
        rcases z with z | z | z | z | z
        · exact dr6.a (z ▸ f1 _ (List.mem_cons_self ..))
        · exact dr6.a (z ▸ v1)
        · exact lk hB1' dr8 z
        · exact dr6.a (z ▸ f1 _ (by simp [BD.fp]))
        · exact dr6.a (f1 _ (by simp [BD.fp, z]))
      · simp only [BD.need, List.mem_cons] at z
        rcases z with z | z | z | z | z
        · exact dr7.a (z ▸ f2 _ (List.mem_cons_self ..))
        · exact dr7.a (z ▸ v2)
        · exact lk hB2 dr8 z
        · exact dr7.a (z ▸ f2 _ (by simp [BD.fp]))
        · exact dr7.a (f2 _ (by simp [BD.fp, z]))
    have plF : PLF (a :: B2.fp) P H8 PG pcs := (pl7.sub (G := a :: B2.fp) fun b' hb' => by
      rcases List.mem_cons.mp hb' with z | z
      · exact .inl (by rw [z]; exact List.mem_singleton.mpr rfl)
      · exact .inr (f2 b' z)).ch (Frame.same s8)
    clear pl5 pl6 pl7 pl8 dr5 dr6 dr7 dr8 hB1 hB1' hB2 f1 f2 v1 v2 ek1 ek2 lk hk nk s6 s7 s8 H5 H6 H7 H4
    try (walk_at "run")
    have hA : ∀ {B : BD}, ∀ b ∈ [a], b ∈ a :: B.fp := fun b hb => by rw [List.mem_singleton] at hb; rw [hb]; exact List.mem_cons_self ..
    have lkI : ∀ B : BD, (B.fs).lookup ("insert" : Str) = none := fun B => lk3_n (by decide +kernel) (by decide +kernel) (by decide +kernel)
    have lkR : ∀ B : BD, (B.fs).lookup ("remove" : Str) = none := fun B => lk3_n (by decide +kernel) (by decide +kernel) (by decide +kernel)
    have smz : ∀ n : Nat, n ≤ 100 → n ≤ sizeLine := fun n hn => Nat.le_of_lt (small_line (by omega))
    have mi : (0 : Int) < m := by omega
    have mi1 : (0 : Int) < (m : Int) + 1 := by omega
    -- counts of one
    refine ⟨B1, PG, P, pcs, b, e, a :: B2.fp, rfl, hP, p4, core.b1, plF.nil, ok, by omega, hbe, sb, se, core.domF, fun H9 o s9 hO => ?_⟩
    replace core := core.same s9
    replace plF := plF.ch (Frame.same s9)
    clear s9 H8
    try (walk_at "run")
    -- at
    refine ⟨a, l, (m : Int), rfl, core.dr, mi, by omega, fun HA v v0 v1 chA drA => ?_⟩
    replace hO := hO.ch (chA.mono hA).fr
    replace plF := plF.ch (chA.mono hA).fr
    replace core := core.ch chA drA
    clear v0 v1 chA drA H9
    try (walk_at "run")
    obtain ⟨at_, hat, eat⟩ := mod_nat (x := 1 + v) hm0
    have hlt : at_ < pcs.length := by omega
    simp only [mi, true_and, eat]
    clear eat v
    try (walk_at "run")
    obtain ⟨bs, hPG, pp⟩ := plF.pp
    have lbs : bs.length = m := by rw [pp.1, lm]
    obtain ⟨pb, hpb⟩ : ∃ x, bs[at_]? = some x := ⟨_, List.getElem?_eq_getElem (by omega)⟩
    have hpa : pcs[at_]? = some pcs[at_] := List.getElem?_eq_getElem (by omega)
    have oka := ok _ (List.mem_of_getElem? hpa)
    simp only [hPG, seqO_l, opt_some, atI_ref hpb]
    try (walk_at "run")
    refine ⟨a, l, pb, P, pcs[at_], a :: B2.fp, rfl, core.dr, hP, p4, List.mem_cons_self .., core.domF, pp.2 at_ pb _ hpb hpa, oka.1, oka.2, fun HB oth ks' chB drB okk lkk hoth => ?_⟩
    replace hO := hO.ch (chB.mono hA).fr
    replace plF := plF.ch (chB.mono hA).fr
    replace core := core.ch chB drB
    clear chB drB pp hPG HA
    obtain ⟨bs', hPG, pp⟩ := plF.pp
    have lbs' : bs'.length = m := by rw [pp.1, lm]
    clear hpb lbs bs pb
    try (walk_at "run")
    simp only [hPG, lstO_l, opt_some]
    rw [cut_take (xs := bs'.map V.ref) (i := at_) (by rw [List.length_map]; omega)]
    intro q1 hq1
    have t1 := same_upd (o := .lst ((bs'.map V.ref).take at_)) hq1
    refine ⟨by show 1 ≤ sizeLine; decide, fun q2 hq2 => ?_⟩
    have h1' := upd_old' (H := upd HB q1 (.lst ((bs'.map V.ref).take at_))) (o := .lst [.ref oth]) hq2 upd_same
    have t2 := t1.trans (same_upd (o := .lst [.ref oth]) hq2)
    simp only [h1', lstW_l, opt_some]
    refine ⟨by rw [List.length_take, List.length_map]; exact smz _ (by omega), fun q3 hq3 => ?_⟩
    have t3 := t2.trans (same_upd (o := .lst ((bs'.map V.ref).take at_ ++ [.ref oth])) hq3)
    have ei : (at_ : Int) + 1 = ((at_ + 1 : Nat) : Int) := by omega
    try (walk_at "run")
    simp only [t3 _ _ hPG, lstO_l, opt_some, ei]
    rw [cut_drop (xs := bs'.map V.ref) (i := at_ + 1) (by rw [List.length_map]; omega)]
    intro q4 hq4
    have h3' := upd_old' (H := upd (upd (upd HB q1 (.lst ((bs'.map V.ref).take at_))) q2 (.lst [.ref oth])) q3 (.lst ((bs'.map V.ref).take at_ ++ [.ref oth]))) (o := .lst ((bs'.map V.ref).drop (at_ + 1))) hq4 upd_same
    have t4 := t3.trans (same_upd (o := .lst ((bs'.map V.ref).drop (at_ + 1))) hq4)
    simp only [h3', lstW_l, opt_some]
    refine ⟨by rw [List.length_append, List.length_take, List.length_drop, List.length_map]; exact smz _ (by show min at_ bs'.length + 1 + (bs'.length - (at_ + 1)) ≤ 100; omega), fun CH hCH => ?_⟩
    have t5 := t4.trans (same_upd (o := .lst ((bs'.map V.ref).take at_ ++ [.ref oth] ++ (bs'.map V.ref).drop (at_ + 1))) hCH)
    have e5 : (bs'.map V.ref).take at_ ++ [.ref oth] ++ (bs'.map V.ref).drop (at_ + 1) = (bs'.take at_ ++ [oth] ++ bs'.drop (at_ + 1)).map V.ref := by
      rw [List.map_append, List.map_append, List.map_take, List.map_drop]; rfl
    rw [e5] at t5 ⊢
    have es2 : pcs.set at_ ks' = pcs.take at_ ++ [ks'] ++ pcs.drop (at_ + 1) := by
      rw [List.set_eq_take_append_cons_drop, if_pos (by omega), List.append_assoc]; rfl
    have chF : PLF (a :: B2.fp) P (upd (upd (upd (upd (upd HB q1 (.lst ((bs'.map V.ref).take at_))) q2 (.lst [.ref oth])) q3 (.lst ((bs'.map V.ref).take at_ ++ [.ref oth]))) q4 (.lst ((bs'.map V.ref).drop (at_ + 1)))) CH (.lst ((bs'.take at_ ++ [oth] ++ bs'.drop (at_ + 1)).map V.ref))) CH (pcs.set at_ ks') := by
      rw [es2]
      exact ((((pp.take at_).app (PPt.one hoth)).app (pp.drop (at_ + 1))).fr (Frame.same t5)).plf upd_same (core.domF.nin (none_back t4 hCH))
    generalize upd (upd (upd (upd (upd HB q1 (.lst ((bs'.map V.ref).take at_))) q2 (.lst [.ref oth])) q3 (.lst ((bs'.map V.ref).take at_ ++ [.ref oth]))) q4 (.lst ((bs'.map V.ref).drop (at_ + 1)))) CH (.lst ((bs'.take at_ ++ [oth] ++ bs'.drop (at_ + 1)).map V.ref)) = HC at *
    replace hO := hO.ch (Frame.same t5)
    replace plF := plF.ch (Frame.same t5)
    replace core := core.same t5
    replace hoth := hoth.ch (Frame.same t5)
    clear hCH h3' hq4 t4 t3 t2 t1 h1' hq3 hq2 hq1 hPG pp t5 e5 es2 ei
    have ok2 : AllOk P (pcs.set at_ ks') := fun ks hk => by
      rcases List.mem_or_eq_of_mem_set hk with h | h
      · exact ok ks h
      · rw [h]; exact ⟨okk, lkk⟩
    have lm2 : (pcs.set at_ ks').length = m := by rw [List.length_set, lm]
    generalize hp2 : pcs.set at_ ks' = pcs2 at *
    try (walk_at "run")
    -- two[at] = page(other)
    refine ⟨P, oth, ks', rfl, hP, p4, hoth.ll, okk, by omega, fun HD sD => ?_⟩
    replace hO := hO.ch (Frame.same sD)
    replace plF := plF.ch (Frame.same sD)
    replace chF := chF.ch (Frame.same sD)
    replace core := core.same sD
    replace hoth := hoth.ch (Frame.same sD)
    clear sD
    have ez2 : (pcs.map zOf).set at_ (zOf ks') = pcs2.map zOf := by rw [← hp2, List.map_set]
    have sum2 := sum_zs (pcs := pcs2) fun ks hk => (ok2 ks hk).2
    try (walk_at "run")
    refine ins?_of core.b2.hx ?_
    refine ⟨B2, everyW P, pcs.map zOf, at_, zOf ks', rfl, core.b2, by rw [List.length_map]; omega, okZ_of hP p4 okk (by omega), by rw [ez2]; omega, fun HE B3 mu hB3 => ?_⟩
    rw [ez2] at hB3
    rw [← mu.x]
    replace hO := hO.mut mu
    replace plF := plF.mut mu
    replace chF := chF.mut mu
    replace hoth := hoth.mut mu
    replace core := core.mut mu hB3
    clear mu hB3 HD HC HB
    try (walk_at "run")
    refine ⟨B3, CH, P, pcs2, b, e, a :: B3.fp, rfl, hP, p4, core.b2, chF.nil, ok2, by omega, hbe, sb, se, core.domF, fun HF nw sF hN => ?_⟩
    replace hO := hO.ch (Frame.same sF)
    replace plF := plF.ch (Frame.same sF)
    replace chF := chF.ch (Frame.same sF)
    replace hoth := hoth.ch (Frame.same sF)
    replace core := core.same sF
    clear sF HE
    try (walk_at "run")
    -- neither is empty
    refine ⟨by decide, fun z1 hz1 => ?_⟩
    have sF := same_upd (o := .lst []) hz1
    replace hO := hO.ch (Frame.same sF)
    replace hN := hN.ch (Frame.same sF)
    replace plF := plF.ch (Frame.same sF)
    replace chF := chF.ch (Frame.same sF)
    replace hoth := hoth.ch (Frame.same sF)
    replace core := core.same sF
    refine eqD_nil hO.ll (by rw [tab_len]; omega) upd_same ?_
    clear sF
    simp only [v_toB, Bool.false_eq_true, if_false]
    generalize upd HF z1 (.lst []) = HG at *
    clear hz1
    try (walk_at "run")
    refine ⟨by decide, fun z1 hz1 => ?_⟩
    have sF := same_upd (o := .lst []) hz1
    replace hO := hO.ch (Frame.same sF)
    replace hN := hN.ch (Frame.same sF)
    replace plF := plF.ch (Frame.same sF)
    replace chF := chF.ch (Frame.same sF)
    replace hoth := hoth.ch (Frame.same sF)
    replace core := core.same sF
    refine eqD_nil hN.ll (by rw [tab_len]; omega) upd_same ?_
    clear sF
    simp only [v_toB, Bool.false_eq_true, if_false]
    generalize upd HG z1 (.lst []) = HH at *
    clear hz1
    try (walk_at "run")
    -- replaced
    obtain ⟨bs, hPG, pp⟩ := plF.pp
    have lbs : bs.length = m := by rw [pp.1, lm]
    obtain ⟨pb, hpb⟩ : ∃ x, bs[at_]? = some x := ⟨_, List.getElem?_eq_getElem (by omega)⟩
    obtain ⟨db, hpb1, ppb⟩ := (pp.2 at_ pb _ hpb hpa).pt
    obtain ⟨ob, hob1, pob⟩ := hoth.pt
    have lob : ob.length = ks'.length := by rw [pob.1, List.length_map]
    have ldb : db.length = pcs[at_].length := by rw [ppb.1, List.length_map]
    have emax : (if (pcs[at_].length : Int) > (ks'.length : Int) then (pcs[at_].length : Int) else (ks'.length : Int)) = ((max ks'.length pcs[at_].length : Nat) : Int) := by split <;> omega
    simp only [hob1, hPG, seqO_l, opt_some, List.length_map, atI_ref hpb]
    try (walk_at "run")
    simp only [hpb1, seqO_l, opt_some, List.length_map, lob, ldb]
    try (walk_at "run")
    rw [emax]
    refine ⟨o, nw, tabT P pcs b (e - b).toNat, tabT P pcs2 b (e - b).toNat, m + 1, at_, _, rfl, hO.ll, hN.ll, by rw [← lm]; exact tab_tri, by rw [← lm2]; exact tab_tri, by omega, fun f l' h1 h2 => ?_, ?_⟩
    · have := law_rep (P := P) (pcs := pcs) (ks := ks') (b := b) (n := (e - b).toNat) (at_ := at_) hP p4 ok okk (by omega) f l' h1 (by omega)
      rw [hp2] at this
      exact this
    simp only [v_tru_b, Bool.not_true, Bool.false_eq_true, if_false]
    clear emax lob ldb hob1 pob ob hpb1 ppb db hpb hPG pp lbs bs pb
    try (walk_at "run")
    -- spot
    have em1 : (m : Int) + 1 = ((m + 1 : Nat) : Int) := by omega
    have emp : (0 : Int) < ((m + 1 : Nat) : Int) := by omega
    simp only [em1]
    refine ⟨a, l, ((m + 1 : Nat) : Int), rfl, core.dr, emp, by omega, fun HI v v0 v1 chA drA => ?_⟩
    replace hO := hO.ch (chA.mono hA).fr
    replace hN := hN.ch (chA.mono hA).fr
    replace plF := plF.ch (chA.mono hA).fr
    replace chF := chF.ch (chA.mono hA).fr
    replace core := core.ch chA drA
    clear hoth v0 v1 chA drA HH
    try (walk_at "run")
    obtain ⟨sp, hsp, esp⟩ := mod_nat (x := 1 + v) (show 0 < m + 1 by omega)
    simp only [emp, true_and, esp]
    clear esp v
    try (walk_at "run")
    -- more
    refine ⟨by decide, fun L1 hL1 => ?_⟩
    have t1 := same_upd (o := .lst [V.int 1, V.int 2, V.int 3, V.int 0]) hL1
    have nL1 : L1 ∉ [a] := fun z => by rw [List.mem_singleton] at z; rw [z] at hL1; exact core.dr.a hL1
    replace hO := hO.ch (Frame.same t1)
    replace hN := hN.ch (Frame.same t1)
    replace plF := plF.ch (Frame.same t1)
    replace chF := chF.ch (Frame.same t1)
    replace core := core.same t1
    have hL0 : upd HI L1 (.lst [V.int 1, V.int 2, V.int 3, V.int 0]) L1 = some (.lst [V.int 1, V.int 2, V.int 3, V.int 0]) := upd_same
    generalize upd HI L1 (.lst [V.int 1, V.int 2, V.int 3, V.int 0]) = HJ at *
    clear t1 hL1 HI
    try (walk_at "run")
    refine ⟨a, l, 4, rfl, core.dr, by decide, by decide, fun HK v v0 v1 chA drA => ?_⟩
    have hL2 := chA.fr _ _ nL1 hL0
    replace hO := hO.ch (chA.mono hA).fr
    replace hN := hN.ch (chA.mono hA).fr
    replace plF := plF.ch (chA.mono hA).fr
    replace chF := chF.ch (chA.mono hA).fr
    replace core := core.ch chA drA
    obtain ⟨mc, hmc, hv⟩ := many_at v0 v1
    try (walk_at "run")
    simp only [hL2, seqO_l, opt_some, hv]
    clear hv hL2 hL0 nL1 v0 v1 chA drA HJ v L1
    try (walk_at "run")
    refine ⟨a, l, P, mc, 1, a :: B3.fp, rfl, core.dr, hP, p4, hmc, by decide, core.domF, fun HL mo k3 chA drA nmo ok3 l3 hmo => ?_⟩
    replace hO := hO.ch (chA.mono hA).fr
    replace hN := hN.ch (chA.mono hA).fr
    replace plF := plF.ch (chA.mono hA).fr
    replace chF := chF.ch (chA.mono hA).fr
    replace core := core.ch chA drA
    clear nmo chA drA HK
    -- longer
    obtain ⟨bs, hCHl, pp⟩ := chF.pp
    have lbs : bs.length = m := by rw [pp.1, lm2]
    try (walk_at "run")
    simp only [hCHl, lstO_l, opt_some]
    rw [cut_take (xs := bs.map V.ref) (i := sp) (by rw [List.length_map]; omega)]
    intro q1 hq1
    have t1 := same_upd (o := .lst ((bs.map V.ref).take sp)) hq1
    try (walk_at "run")
    refine ⟨by show 1 ≤ sizeLine; decide, fun q2 hq2 => ?_⟩
    have h1' := upd_old' (H := upd HL q1 (.lst ((bs.map V.ref).take sp))) (o := .lst [.ref mo]) hq2 upd_same
    have t2 := t1.trans (same_upd (o := .lst [.ref mo]) hq2)
    try (walk_at "run")
    simp only [h1', upd_same, lstW_l, opt_some]
    refine ⟨by rw [List.length_take, List.length_map]; exact smz _ (by show min sp bs.length + 1 ≤ 100; omega), fun q3 hq3 => ?_⟩
    have t3 := t2.trans (same_upd (o := .lst ((bs.map V.ref).take sp ++ [.ref mo])) hq3)
    try (walk_at "run")
    simp only [t3 _ _ hCHl, lstO_l, opt_some]
    rw [cut_drop (xs := bs.map V.ref) (i := sp) (by rw [List.length_map]; omega)]
    intro q4 hq4
    have h3' := upd_old' (H := upd (upd (upd HL q1 (.lst ((bs.map V.ref).take sp))) q2 (.lst [.ref mo])) q3 (.lst ((bs.map V.ref).take sp ++ [.ref mo]))) (o := .lst ((bs.map V.ref).drop sp)) hq4 upd_same
    have t4 := t3.trans (same_upd (o := .lst ((bs.map V.ref).drop sp)) hq4)
    try (walk_at "run")
    simp only [h3', upd_same, lstW_l, opt_some]
    refine ⟨by rw [List.length_append, List.length_take, List.length_drop, List.length_map]; exact smz _ (by show min sp bs.length + 1 + (bs.length - sp) ≤ 100; omega), fun LO hLO => ?_⟩
    have t5 := t4.trans (same_upd (o := .lst ((bs.map V.ref).take sp ++ [.ref mo] ++ (bs.map V.ref).drop sp)) hLO)
    have e5 : (bs.map V.ref).take sp ++ [.ref mo] ++ (bs.map V.ref).drop sp = (bs.take sp ++ [mo] ++ bs.drop sp).map V.ref := by
      rw [List.map_append, List.map_append, List.map_take, List.map_drop]; rfl
    rw [e5] at t5 ⊢
    have loF : PLF (a :: B3.fp) P (upd (upd (upd (upd (upd HL q1 (.lst ((bs.map V.ref).take sp))) q2 (.lst [.ref mo])) q3 (.lst ((bs.map V.ref).take sp ++ [.ref mo]))) q4 (.lst ((bs.map V.ref).drop sp))) LO (.lst ((bs.take sp ++ [mo] ++ bs.drop sp).map V.ref))) LO (pcs2.take sp ++ [k3] ++ pcs2.drop sp) :=
      ((((pp.take sp).app (PPt.one hmo)).app (pp.drop sp)).fr (Frame.same t5)).plf upd_same (core.domF.nin (none_back t4 hLO))
    generalize upd (upd (upd (upd (upd HL q1 (.lst ((bs.map V.ref).take sp))) q2 (.lst [.ref mo])) q3 (.lst ((bs.map V.ref).take sp ++ [.ref mo]))) q4 (.lst ((bs.map V.ref).drop sp))) LO (.lst ((bs.take sp ++ [mo] ++ bs.drop sp).map V.ref)) = HM at *
    replace hO := hO.ch (Frame.same t5)
    replace hN := hN.ch (Frame.same t5)
    replace plF := plF.ch (Frame.same t5)
    replace core := core.same t5
    replace hmo := hmo.ch (Frame.same t5)
    clear hLO h3' hq4 t4 t3 t2 t1 h1' hq3 hq2 hq1 hCHl pp t5 e5 chF
    have hsp2 : sp ≤ pcs2.length := by omega
    have lm3 : (pcs2.take sp ++ [k3] ++ pcs2.drop sp).length = m + 1 := by
      rw [List.length_append, List.length_append, List.length_take, List.length_drop]; show min sp pcs2.length + 1 + _ = _; omega
    have ok3' : AllOk P (pcs2.take sp ++ [k3] ++ pcs2.drop sp) := fun ks hk => by
      rw [List.mem_append, List.mem_append, List.mem_singleton] at hk
      rcases hk with (h | h) | h
      · exact ok2 ks (List.mem_of_mem_take h)
      · rw [h]; exact ⟨ok3, by omega⟩
      · exact ok2 ks (List.mem_of_mem_drop h)
    have grow := fun f l' h1 h2 => law_grow (P := P) (pcs := pcs2) (ks := k3) (b := b) (n := (e - b).toNat) (s := sp) hP p4 ok2 ok3 hsp2 f l' h1 h2
    have ez3 : (pcs2.map zOf).take sp ++ [zOf k3] ++ (pcs2.map zOf).drop sp = (pcs2.take sp ++ [k3] ++ pcs2.drop sp).map zOf := by
      rw [List.map_append, List.map_append, List.map_take, List.map_drop]; rfl
    have epop := ins_del (l := pcs2.map zOf) (s := sp) (x := zOf k3) (by rw [List.length_map]; omega)
    have eget := ins_get (l := pcs2.map zOf) (s := sp) (x := zOf k3) (by rw [List.length_map]; omega)
    rw [ez3] at epop eget
    generalize hp3 : pcs2.take sp ++ [k3] ++ pcs2.drop sp = pcs3 at *
    have sum3 : ((pcs2.map zOf).map (·.length)).sum + (zOf k3).length ≤ 16 := by rw [zOf_len]; omega
    try (walk_at "run")
    simp only [core.b2.hx, insO_i, opt_some, lkI, true_and]
    try (walk_at "run")
    refine ⟨P, mo, k3, rfl, hP, p4, hmo.ll, ok3, by omega, fun HN sF => ?_⟩
    replace hO := hO.ch (Frame.same sF)
    replace hN := hN.ch (Frame.same sF)
    replace plF := plF.ch (Frame.same sF)
    replace loF := loF.ch (Frame.same sF)
    replace hmo := hmo.ch (Frame.same sF)
    replace core := core.same sF
    clear sF
    refine ⟨B3, everyW P, pcs2.map zOf, sp, zOf k3, rfl, core.b2, by rw [List.length_map]; omega, by rw [List.length_map]; omega, okZ_of hP p4 ok3 (by omega), sum3, fun HO' B4 mu hB4 => ?_⟩
    rw [ez3] at hB4
    rw [← mu.x]
    replace hO := hO.mut mu
    replace hN := hN.mut mu
    replace plF := plF.mut mu
    replace loF := loF.mut mu
    replace hmo := hmo.mut mu
    replace core := core.mut mu hB4
    clear mu hB4 HN HM HL
    refine ⟨rfl, ?_⟩
    simp only [decide_true, Bool.not_true, v_toB, Bool.false_eq_true, if_false]
    try (walk_at "run")
    -- grown
    refine ⟨B4, LO, P, pcs3, b, e, a :: B4.fp, rfl, hP, p4, core.b2, loF.nil, ok3', by omega, hbe, sb, se, core.domF, fun HP g sF hG => ?_⟩
    replace hO := hO.ch (Frame.same sF)
    replace hN := hN.ch (Frame.same sF)
    replace plF := plF.ch (Frame.same sF)
    replace hmo := hmo.ch (Frame.same sF)
    replace core := core.same sF
    clear sF loF HO'
    try (walk_at "run")
    refine ⟨by decide, fun z1 hz1 => ?_⟩
    have sF := same_upd (o := .lst []) hz1
    replace hO := hO.ch (Frame.same sF)
    replace hN := hN.ch (Frame.same sF)
    replace hG := hG.ch (Frame.same sF)
    replace plF := plF.ch (Frame.same sF)
    replace hmo := hmo.ch (Frame.same sF)
    replace core := core.same sF
    refine eqD_nil hG.ll (by rw [tab_len]; omega) upd_same ?_
    clear sF
    simp only [v_toB, Bool.false_eq_true, if_false]
    generalize upd HP z1 (.lst []) = HQ at *
    clear hz1
    try (walk_at "run")
    obtain ⟨ob, hob1, pob⟩ := hmo.pt
    have lob : ob.length = k3.length := by rw [pob.1, List.length_map]
    simp only [hob1, seqO_l, opt_some, List.length_map, lob]
    try (walk_at "run")
    refine ⟨nw, g, tabT P pcs2 b (e - b).toNat, tabT P pcs3 b (e - b).toNat, m + 1, sp, k3.length, rfl, hN.ll, hG.ll, by rw [← lm2]; exact tab_tri, by rw [← lm3]; exact tab_tri, by omega, fun f l' h1 h2 => grow f l' h1 (by omega), ?_⟩
    simp only [v_tru_b, Bool.not_true, Bool.false_eq_true, if_false]
    clear grow hG hN hob1 pob lob ob
    try (walk_at "run")
    -- one counts as before
    refine ⟨B1, PG, P, pcs, b, e, a :: B4.fp, rfl, hP, p4, core.b1, plF.nil, ok, by omega, hbe, sb, se, core.domF, fun HR g2 sF hG => ?_⟩
    replace hO := hO.ch (Frame.same sF)
    replace plF := plF.ch (Frame.same sF)
    replace hmo := hmo.ch (Frame.same sF)
    replace core := core.same sF
    clear sF HQ
    try (walk_at "run")
    refine neD_same hG.ll hO.ll ?_
    simp only [v_toB, Bool.false_eq_true, if_false]
    clear hG
    try (walk_at "run")
    -- remove
    simp only [core.b2.hx, insO_i, opt_some, lkR, true_and]
    try (walk_at "run")
    refine ⟨B4, everyW P, pcs3.map zOf, sp, zOf k3, rfl, core.b2, eget, fun HS B5 mu hB5 => ?_⟩
    rw [epop] at hB5
    rw [← mu.x]
    replace hO := hO.mut mu
    replace plF := plF.mut mu
    replace hmo := hmo.mut mu
    replace core := core.mut mu hB5
    clear mu hB5 HR
    try (walk_at "run")
    refine ⟨P, mo, k3, rfl, hP, p4, hmo.ll, ok3, by omega, fun HT sF => ?_⟩
    replace hO := hO.ch (Frame.same sF)
    replace plF := plF.ch (Frame.same sF)
    replace core := core.same sF
    clear sF HS hmo
    try (walk_at "run")
    simp only [decide_true, Bool.not_true, Bool.false_eq_true, if_false]
    try (walk_at "run")
    -- two[at] = page(pages[at])
    obtain ⟨bs5, hPG, pp⟩ := plF.pp
    have lbs5 : bs5.length = m := by rw [pp.1, lm]
    obtain ⟨pb, hpb⟩ : ∃ x, bs5[at_]? = some x := ⟨_, List.getElem?_eq_getElem (by omega)⟩
    simp only [hPG, seqO_l, opt_some, atI_ref hpb]
    try (walk_at "run")
    refine ⟨P, pb, pcs[at_], rfl, hP, p4, (pp.2 at_ pb _ hpb hpa).ll, oka.1, by omega, fun HU sF => ?_⟩
    replace hO := hO.ch (Frame.same sF)
    replace plF := plF.ch (Frame.same sF)
    replace core := core.same sF
    clear sF HT pp hPG hpb
    have ez4 : (pcs2.map zOf).set at_ (zOf pcs[at_]) = pcs.map zOf := by
      rw [← List.map_set, ← hp2, List.set_set, List.set_getElem_self]
    have sum4 := sum_zs (pcs := pcs) fun ks hk => (ok ks hk).2
    try (walk_at "run")
    refine ins?_of core.b2.hx ?_
    refine ⟨B5, everyW P, pcs2.map zOf, at_, zOf pcs[at_], rfl, core.b2, by rw [List.length_map]; omega, okZ_of hP p4 oka.1 (by omega), by rw [ez4]; omega, fun HV B6 mu hB6 => ?_⟩
    rw [ez4] at hB6
    rw [← mu.x]
    replace hO := hO.mut mu
    replace plF := plF.mut mu
    replace core := core.mut mu hB6
    clear mu hB6 HU
    try (walk_at "run")
    refine ⟨B6, PG, P, pcs, b, e, a :: B6.fp, rfl, hP, p4, core.b2, plF.nil, ok, by omega, hbe, sb, se, core.domF, fun HW g3 sF hG => ?_⟩
    replace hO := hO.ch (Frame.same sF)
    replace plF := plF.ch (Frame.same sF)
    replace core := core.same sF
    clear sF HV
    try (walk_at "run")
    refine neD_same hG.ll hO.ll ?_
    simp only [v_toB, Bool.false_eq_true, if_false]
    clear hG hO
    try (walk_at "run")
    -- texts
    obtain ⟨bs6, hPG, pp⟩ := plF.pp
    have lbs6 : bs6.length = pcs.length := pp.1
    simp only [hPG, lstO_l, opt_some]
    intro D hD
    refine lc_inv (P := fun i H' => (∀ b o, b ≠ D → HW b = some o → H' b = some o) ∧ H' D = some (.lst (((pcs.take i).map zOf).map V.str))) ⟨fun b o nb e => by rw [upd_ne nb]; exact e, upd_same⟩ (fun i H' N hi ⟨s', hD'⟩ hN => ?_) (fun H' ⟨s', hD'⟩ => ?_)
    · have hi' : i < bs6.length := by
        have : i < (bs6.map V.ref).length := hi
        rw [List.length_map] at this
        exact this
      have sD : Same HW H' := fun b o e => s' b o (ne_of_none e hD) e
      have hb : bs6[i]? = some bs6[i] := List.getElem?_eq_getElem hi'
      have hpi : pcs[i]? = some (pcs[i]'(by omega)) := List.getElem?_eq_getElem (by omega)
      have okp := ok _ (List.mem_of_getElem? hpi)
      refine ⟨lst?_of (sD _ _ hPG), ?_⟩
      show opt _ _
      rw [List.getElem?_map, hb]
      show opt (some (V.ref bs6[i])) _
      walk_at "run"
      refine ⟨P, bs6[i], pcs[i]'(by omega), rfl, hP, p4, ll_same (pp.2 i _ _ hb hpi).ll sD, okp.1, by omega, fun H2 s2 => ?_⟩
      refine ⟨_, s2 _ _ hD', ?_, hN _ ⟨fun b o nb e => ?_, ?_⟩⟩
      · rw [List.length_map, List.length_map, List.length_take]
        exact small_line (by omega)
      · rw [upd_ne nb]
        exact s2 _ _ (s' b o nb e)
      · rw [upd_same, List.take_add_one, hpi, List.map_append, List.map_append]; rfl
    · have sD : Same HW H' := fun b o e => s' b o (ne_of_none e hD) e
      refine ⟨lst?_of (sD _ _ hPG), ?_⟩
      have hD2 : H' D = some (.lst ((pcs.map zOf).map V.str)) := by
        have e : (fiL PG (bs6.map V.ref)).n = pcs.length := by show (bs6.map V.ref).length = _; rw [List.length_map, lbs6]
        rw [e, List.take_length] at hD'
        exact hD'
      replace core := core.same sD
      have lay : ∀ z ∈ pcs.map zOf, PyData.canLay0 (.str z) = true := fun z hz => by
        obtain ⟨ks, hk, rfl⟩ := List.mem_map.mp hz
        exact zOf_lay p4 (ok ks hk).1
      clear hD' s' sD
      try (walk_at "run")
      refine list_binder core.b1 fun HX x1 sX hx1 => ?_
      try (walk_at "run")
      refine eqD_strs lay hx1 (sX _ _ hD2) ?_
      simp only [v_toB, if_true]
      try (walk_at "run")
      refine list_binder (core.b2.same sX) fun HY y1 sY hy1 => ?_
      try (walk_at "run")
      refine eqD_strs lay hy1 (sY _ _ (sX _ _ hD2)) ?_
      exact q HY
end
end Ly

/-! Fx -/
set_option Elab.async false
set_option linter.all false
set_option maxRecDepth 100000
set_option maxHeartbeats 4000000
/-! facts of the head, by a check of our own over a small part of the heap -/
namespace Fx
open PySem PySem.Spec PyProof.Rows L2 He
def lookG (g : Addr → Option Obj) (x : Str) : List Addr := match g mainGlobals with
  | some ⟨_, _, .dict es _, _⟩ => es.toList.flatMap fun e => match e.key with
    | .str y _ => if y = x then refV e.val else []
    | _ => []
  | _ => []
/-- a def's code, a class's names -/
def st1 (g : Addr → Option Obj) (a : Addr) : List Addr := match g a with
  | some ⟨_, _, .func fd, _⟩ => refV fd.code
  | some ⟨_, _, .cls cd, _⟩ => [cd.ns]
  | _ => []
/-- what stands in a dict -/
def st2 (g : Addr → Option Obj) (a : Addr) : List Addr := match g a with
  | some ⟨_, _, .dict es _, _⟩ => es.toList.flatMap fun e => refV e.val
  | _ => []
/-- a def's code, a record's fields -/
def st3 (g : Addr → Option Obj) (a : Addr) : List Addr := match g a with
  | some ⟨_, _, .func fd, _⟩ => refV fd.code
  | some ⟨_, _, .fields vs, _⟩ => vs.toList.flatMap refV
  | _ => []
def fl (f : Addr → List Addr) : List Addr → List Addr
  | [] => []
  | a :: r => f a ++ fl f r
/-- the roots, what they lead to -/
def asX (g : Addr → Option Obj) (xs : List Str) (n : Nat) : List Addr := mainGlobals :: cStatics :: ((xs.flatMap (lookG g)).flatMap fun a => a :: (fl (fun b => b :: fl (fun c => c :: fl (fun d => d :: st1 g d) (st3 g c)) (st2 g b)) (st1 g a)))
/-- the def in a property's, a staticmethod's record -/
def wfA (K : PySem.W.Frag) (C : Addr) (T : String) (m : Str) : Addr := match PySem.W.recIn K (ma K C m) T with
  | some (.ref f :: _) => f
  | _ => 0
def recB (K : PySem.W.Frag) (C : Addr) (T : String) (m : Str) : Bool := match PySem.W.recIn K (ma K C m) T with
  | some (.ref _ :: _) => true
  | _ => false
theorem recB_ok {K : PySem.W.Frag} {C : Addr} {T : String} {m : Str} (h : recB K C T m = true) : ∃ rest, PySem.W.recIn K (ma K C m) T = some (.ref (wfA K C T m) :: rest) := by
  unfold recB at h
  unfold wfA
  split at h
  · rename_i f r e
    exact ⟨r, by rw [e]⟩
  · cases h
def propB (K : PySem.W.Frag) (C : Addr) (f : Str) : Bool := eqO (PySem.W.findIn K (.ref C) f) (some (some (.ref (ma K C f)))) && (eqO (PySem.W.specialIn K (.ref (ma K C f)) "__get__") (some (some (.builtin "property.__get__"))) && (decide (PySem.W.takesIn K (.ref (ma K C f)) = some true) && recB K C "property" f))
theorem propB_ok {K : PySem.W.Frag} {C : Addr} {f : Str} (h : propB K C f = true) : PropOf K C f (ma K C f) (wfA K C "property" f) := by
  obtain ⟨h1, h⟩ := ba h
  obtain ⟨h2, h⟩ := ba h
  obtain ⟨h3, h4⟩ := ba h
  exact ⟨eqO_ok h1, eqO_ok h2, of_decide_eq_true h3, recB_ok h4⟩
def statB (K : PySem.W.Frag) (C : Addr) (m : Str) : Bool := (match PySem.W.findCls K (.ref C) (.type "type") m with
    | some (.get (.builtin g) (.ref p) .none (.ref D)) => decide (g = "staticmethod.__get__") && (decide (p = ma K C m) && decide (D = C))
    | _ => false) && recB K C "staticmethod" m
theorem statB_ok {K : PySem.W.Frag} {C : Addr} {m : Str} (h : statB K C m = true) : PySem.W.findCls K (.ref C) (.type "type") m = some (.get (.builtin "staticmethod.__get__") (.ref (ma K C m)) .none (.ref C)) ∧ ∃ rest, PySem.W.recIn K (ma K C m) "staticmethod" = some (.ref (wfA K C "staticmethod" m) :: rest) := by
  obtain ⟨h1, h2⟩ := ba h
  refine ⟨?_, recB_ok h2⟩
  clear h2
  split at h1
  · rename_i g p D e
    obtain ⟨k1, k⟩ := ba h1
    obtain ⟨k2, k3⟩ := ba k
    rw [e, of_decide_eq_true k1, of_decide_eq_true k2, of_decide_eq_true k3]
  · cases h1
def readB (K : PySem.W.Frag) (C : Addr) : Bool := PySem.W.readsIn K C (.type "type") && eqO (PySem.W.specialIn K (.ref C) "__getattribute__") (some (some (.builtin "type.__getattribute__")))
theorem readB_ok {K : PySem.W.Frag} {C : Addr} (h : readB K C = true) : ClX.CRead K C (.type "type") := by
  obtain ⟨h1, h2⟩ := ba h
  exact ⟨h1, eqO_ok h2⟩
def conB (K : PySem.W.Frag) (C : Addr) (f : Str) (i : Int) : Bool := match PySem.W.findCls K (.ref C) (.type "type") f with
  | some (.val (.int j _)) => decide (j = i)
  | _ => false
theorem conB_ok {K : PySem.W.Frag} {C : Addr} {f : Str} {i : Int} (h : conB K C f i = true) : ∃ u, ClX.CVal K C (.type "type") f (.int i) u := by
  unfold conB at h
  split at h
  · rename_i j t e
    have ej := of_decide_eq_true h
    subst ej
    exact ⟨_, e, ⟨t, rfl⟩⟩
  · cases h
def hasB (K : PySem.W.Frag) (C : Addr) (m : Str) : Bool := eqO (PySem.W.findIn K (.ref C) m) (some (some (.ref (ma K C m)))) && PySem.W.isFn K (.ref (ma K C m))
theorem hasB_ok {K : PySem.W.Frag} {C : Addr} {m : Str} (h : hasB K C m = true) : PySem.W.findIn K (.ref C) m = some (some (.ref (ma K C m))) ∧ PySem.W.isFn K (.ref (ma K C m)) = true := by
  obtain ⟨h1, h2⟩ := ba h
  exact ⟨eqO_ok h1, h2⟩
/-- a def: where it stands -/
structure DefA where
  ad : PySem.W.Frag → Addr
  name : Str
  qual : Str
  params : Arguments
  body : List Stmt
  scope : Scope
def DefA.val (d : DefA) : FnW := some (d.name, d.qual, d.params, .stmts d.body, d.scope, mainGlobals, [], builtinsNs)
def fnWA (K : PySem.W.Frag) (a : Addr) : FnW := match K.lookup a with
  | some ⟨_, _, .func fd, _⟩ => some (fd.name, fd.qualname, fd.params, fd.body, fd.scope, fd.globals, fd.closure, fd.builtins)
  | _ => none
def DefA.ok (K : PySem.W.Frag) (d : DefA) : Bool := PySem.W.keepIn K (.ref (d.ad K)) && (match K.lookup (d.ad K) with
  | some ⟨_, _, .func fd, _⟩ => PySem.W.codeIn K fd.code d.qual && (dflB K fd.defaults [] && kwdB K fd.kwdefaults [])
  | _ => false)
theorem DefA.funD {K : PySem.W.Frag} {d : DefA} (e : fnWA K (d.ad K) = d.val) (c : d.ok K = true) : ∃ fd, FunD K d.name d.qual d.params d.body d.scope [] [] (d.ad K) fd := by
  obtain ⟨kp, c2⟩ := ba c
  unfold fnWA at e
  cases q : K.lookup (d.ad K) with
  | none =>
    rw [q] at c2
    cases c2
  | some o =>
    obtain ⟨oc, od, dt, osl⟩ := o
    rw [q] at c2 e
    cases dt with
    | func fd =>
      obtain ⟨n1, n2, n3, n4, n5, n6, n7, n8, n9, n10, n11, n12, n13, n14, n15⟩ := fd
      have e2 : (some (n1, n2, n3, n4, n5, n6, n7, n15) : FnW) = some (d.name, d.qual, d.params, .stmts d.body, d.scope, mainGlobals, [], builtinsNs) := e
      simp only [Option.some.injEq, Prod.mk.injEq] at e2
      obtain ⟨h1, h2, h3, h4, h5, h6, h7, h8⟩ := e2
      subst h1 h2 h3 h4 h5 h6 h7 h8
      have c3 : (PySem.W.codeIn K n13 d.qual && (dflB K n8 [] && kwdB K n9 [])) = true := c2
      obtain ⟨k1, k2⟩ := ba c3
      obtain ⟨k3, k4⟩ := ba k2
      exact ⟨_, ⟨oc, od, n8, n9, n10, n11, n12, n13, n14, osl, rfl, q, k1, dflB_ok k3, kwdB_ok k4⟩, kp⟩
    | _ => cases c2
/-! ### the Hook -/
abbrev Ck : Type := PySem.W.Frag → Bool
def obsA (ck : List Ck) (fn : List DefA) (K : PySem.W.Frag) : AlD := ((ck.all fun f => f K) && fn.all fun d => d.ok K, fn.map fun d => fnWA K (d.ad K))
def valA (fn : List DefA) : AlD := (true, fn.map DefA.val)
def SaysA (ck : List Ck) (fn : List DefA) (K : PySem.W.Frag) : Prop := obsA ck fn K = valA fn
def obsAG (xs : List Str) (n : Nat) (ck : List Ck) (fn : List DefA) (g : Addr → Option Obj) : AlD := obsA ck fn (frG g (asX g xs n))
def hookA (xs : List Str) (n : Nat) (ck : List Ck) (fn : List DefA) : PySem.W.Hook where
  α := AlD
  obs := fun s => obsAG xs n ck fn s.heap.get?
  val := fun _ => valA fn
  says := fun _ h => ∃ K : PySem.W.Frag, K.In h ∧ SaysA ck fn K
  of := fun _ _ e => ⟨_, frG_in, e⟩
  keeps := fun _ _ _ ⟨K, hK, c⟩ k => ⟨K, PySem.W.Frag.In.keeps hK k, c⟩
theorem obsAG_eq {xs : List Str} {n : Nat} {ck : List Ck} {fn : List DefA} {g : Addr → Option Obj} {s : Shared} (h : ∀ a, g a = s.heap.get? a) : obsAG xs n ck fn g = (hookA xs n ck fn).obs s := by
  have e : g = s.heap.get? := funext h
  rw [e] <;> rfl
section
variable {ck : List Ck} {fn : List DefA} {K : PySem.W.Frag}
theorem SaysA.fact (c : SaysA ck fn K) (i : Nat) {f : Ck} (h : ck[i]? = some f := by rfl) : f K = true := by
  have c1 := (ba (show ((ck.all fun f => f K) && fn.all fun d => d.ok K) = true from congrArg (fun z : AlD => z.1) c)).1
  exact List.all_eq_true.mp c1 f (List.mem_of_getElem? h)
theorem SaysA.def_ (c : SaysA ck fn K) (i : Nat) {d : DefA} (h : fn[i]? = some d := by rfl) : ∃ fd, FunD K d.name d.qual d.params d.body d.scope [] [] (d.ad K) fd := by
  have c2 := (ba (show ((ck.all fun f => f K) && fn.all fun d => d.ok K) = true from congrArg (fun z : AlD => z.1) c)).2
  have e : fn.map (fun d => fnWA K (d.ad K)) = fn.map DefA.val := congrArg (fun z : AlD => z.2) c
  have e2 : (fn.map fun d => fnWA K (d.ad K))[i]? = (fn.map DefA.val)[i]? := by rw [e]
  rw [List.getElem?_map, List.getElem?_map, h] at e2
  exact DefA.funD (Option.some.inj e2) (List.all_eq_true.mp c2 d (List.mem_of_getElem? h))
end
end Fx

/-! Gl -/
set_option Elab.async false
set_option linter.all false
set_option maxRecDepth 100000
set_option maxHeartbeats 4000000
namespace Ly
open PySem PySem.Spec PyProof.Rows L2 M
def topS (i : Nat) : Stmt := PySem.Challenge.pw_datelessrolls_k79_binder_reach.main.body.getD i (.Pass ⟨0, 0, 0, 0⟩)
def inC (s : Stmt) (j : Nat) : Stmt := match s with
  | .ClassDef _ _ _ b _ _ _ _ _ _ _ => b.getD j (.Pass ⟨0, 0, 0, 0⟩)
  | _ => .Pass ⟨0, 0, 0, 0⟩
theorem dund_mul : PySem.dunder Operator.Mult.info.2 = ("__mul__" : Str) := by decide +kernel
structure Txt (c : CA) (mg : Str → Option Value) : Prop where
  c_MOST_PLACES : ∃ t, mg "MOST_PLACES" = some (.int 6 t)
  m_len : mg "len" = none
  m_range : mg "range" = none
  m_int : mg "int" = none
  m_max : mg "max" = none
  g_check_stretch : mg "check_stretch" = some (.ref (He.ga c.K "check_stretch"))
  g_landing : mg "landing" = some (.ref (He.ga c.K "landing"))
  g_at_place : mg "at_place" = some (.ref (He.ga c.K "at_place"))
  g_carried_to : mg "carried_to" = some (.ref (He.ga c.K "carried_to"))
  g_carried_came : mg "carried_came" = some (.ref (He.ga c.K "carried_came"))
  m_list : mg "list" = none
  m_sum : mg "sum" = none
  g_peel : mg "peel" = some (.ref (He.ga c.K "peel"))
  g_came_list : mg "came_list" = some (.ref (He.ga c.K "came_list"))
  g_step_came : mg "step_came" = some (.ref (He.ga c.K "step_came"))
  g_heights_of : mg "heights_of" = some (.ref (He.ga c.K "heights_of"))
  k_Cast_MOST_BALLS : ∃ u, ClX.CVal c.K c.Cast (.type "type") "MOST_BALLS" (.int 16) u
  rd_Cast : ClX.CRead c.K c.Cast (.type "type")
  g_Cast : mg "Cast" = some (.ref c.Cast)
  k_Cast_MOST_PLACES : ∃ u, ClX.CVal c.K c.Cast (.type "type") "MOST_PLACES" (.int 6) u
  c_MOST_HEIGHT : ∃ t, mg "MOST_HEIGHT" = some (.int 96 t)
  m_tuple : mg "tuple" = none
  n_Cast__heights : NoAttr c.K c.Cast "_heights"
  cl_Cast : Cls c.K c.Cast
  g_check_places : mg "check_places" = some (.ref (He.ga c.K "check_places"))
  mk_Cast : Mk c.K c.Cast (He.ma c.K c.Cast "__init__")
  pr_Cast_heights : PropOf c.K c.Cast "heights" (He.ma c.K c.Cast "heights") (Fx.wfA c.K c.Cast "property" "heights")
  g_count_between : mg "count_between" = some (.ref (He.ga c.K "count_between"))
  pr_Cast_places : PropOf c.K c.Cast "places" (He.ma c.K c.Cast "places") (Fx.wfA c.K c.Cast "property" "places")
  g_check_like : mg "check_like" = some (.ref (He.ga c.K "check_like"))
  pr_Cast_balls : PropOf c.K c.Cast "balls" (He.ma c.K c.Cast "balls") (Fx.wfA c.K c.Cast "property" "balls")
  g_product_heights : mg "product_heights" = some (.ref (He.ga c.K "product_heights"))
  c_LETTERS : ∃ t, mg "LETTERS" = some (.str "abcdefghijklmnopqrstuvwxyz" t)
  m_enumerate : mg "enumerate" = none
  n_Calendar__words : NoAttr c.K c.Calendar "_words"
  cl_Calendar : Cls c.K c.Calendar
  g_is_rising : mg "is_rising" = some (.ref (He.ga c.K "is_rising"))
  c_MOST_EVERY : ∃ t, mg "MOST_EVERY" = some (.int 4 t)
  mk_Calendar : Mk c.K c.Calendar (He.ma c.K c.Calendar "__init__")
  g_Calendar : mg "Calendar" = some (.ref c.Calendar)
  c_MOST_PAGE : ∃ t, mg "MOST_PAGE" = some (.int 16 t)
  pr_Calendar_signs : PropOf c.K c.Calendar "signs" (He.ma c.K c.Calendar "signs") (Fx.wfA c.K c.Calendar "property" "signs")
  g_check_page : mg "check_page" = some (.ref (He.ga c.K "check_page"))
  mt_Calendar_stands : Meth c.K c.Calendar "stands" (He.ma c.K c.Calendar "stands")
  pr_Calendar_places : PropOf c.K c.Calendar "places" (He.ma c.K c.Calendar "places") (Fx.wfA c.K c.Calendar "property" "places")
  g_sets_of : mg "sets_of" = some (.ref (He.ga c.K "sets_of"))
  g_came_of : mg "came_of" = some (.ref (He.ga c.K "came_of"))
  c_MOST_BALLS : ∃ t, mg "MOST_BALLS" = some (.int 16 t)
  sf_Cast : PySem.W.selfFirst c.K c.Cast = true
  hs_Cast___mul__ : PySem.W.findIn c.K (.ref c.Cast) "__mul__" = some (some (.ref (He.ma c.K c.Cast "__mul__"))) ∧ PySem.W.isFn c.K (.ref (He.ma c.K c.Cast "__mul__")) = true
  g_pair_product : mg "pair_product" = some (.ref (He.ga c.K "pair_product"))
  c_MOST_PAGES : ∃ t, mg "MOST_PAGES" = some (.int 12 t)
  n_Binder__levels : NoAttr c.K c.Binder "_levels"
  cl_Binder : Cls c.K c.Binder
  n_Binder__page_list : NoAttr c.K c.Binder "_page_list"
  n_Binder_calendar : NoAttr c.K c.Binder "calendar"
  g_check_entries : mg "check_entries" = some (.ref (He.ga c.K "check_entries"))
  g_cast_of : mg "cast_of" = some (.ref (He.ga c.K "cast_of"))
  g_product_levels : mg "product_levels" = some (.ref (He.ga c.K "product_levels"))
  g_check_number : mg "check_number" = some (.ref (He.ga c.K "check_number"))
  st_Cast_none : PySem.W.findCls c.K (.ref c.Cast) (.type "type") "none" = some (.get (.builtin "staticmethod.__get__") (.ref (He.ma c.K c.Cast "none")) .none (.ref c.Cast)) ∧ ∃ rest, PySem.W.recIn c.K (He.ma c.K c.Cast "none") "staticmethod" = some (.ref (Fx.wfA c.K c.Cast "staticmethod" "none") :: rest)
  mt_Binder_part : Meth c.K c.Binder "part" (He.ma c.K c.Binder "part")
  mt_Cast_count : Meth c.K c.Cast "count" (He.ma c.K c.Cast "count")
  m_iter : mg "iter" = none
  m_abs : mg "abs" = none
  m_bool : mg "bool" = none
  m_isinstance : mg "isinstance" = none
  g__law_draw : mg "_law_draw" = some (.ref (He.ga c.K "_law_draw"))
  g__law_stands : mg "_law_stands" = some (.ref (He.ga c.K "_law_stands"))
  mk_Binder : Mk c.K c.Binder (He.ma c.K c.Binder "__init__")
  g_Binder : mg "Binder" = some (.ref c.Binder)
  mt_Binder_insert : Meth c.K c.Binder "insert" (He.ma c.K c.Binder "insert")
  hs_Binder___len__ : PySem.W.findIn c.K (.ref c.Binder) "__len__" = some (some (.ref (He.ma c.K c.Binder "__len__"))) ∧ PySem.W.isFn c.K (.ref (He.ma c.K c.Binder "__len__")) = true
  g__law_page : mg "_law_page" = some (.ref (He.ga c.K "_law_page"))
  g__law_entries : mg "_law_entries" = some (.ref (He.ga c.K "_law_entries"))
  mt_Binder_part_count : Meth c.K c.Binder "part_count" (He.ma c.K c.Binder "part_count")
  g__law_best : mg "_law_best" = some (.ref (He.ga c.K "_law_best"))
  g__law_numbers : mg "_law_numbers" = some (.ref (He.ga c.K "_law_numbers"))
  g__law_begin : mg "_law_begin" = some (.ref (He.ga c.K "_law_begin"))
  st_Calendar_every : PySem.W.findCls c.K (.ref c.Calendar) (.type "type") "every" = some (.get (.builtin "staticmethod.__get__") (.ref (He.ma c.K c.Calendar "every")) .none (.ref c.Calendar)) ∧ ∃ rest, PySem.W.recIn c.K (He.ma c.K c.Calendar "every") "staticmethod" = some (.ref (Fx.wfA c.K c.Calendar "staticmethod" "every") :: rest)
  rd_Calendar : ClX.CRead c.K c.Calendar (.type "type")
  g__law_binder : mg "_law_binder" = some (.ref (He.ga c.K "_law_binder"))
  g__law_counts : mg "_law_counts" = some (.ref (He.ga c.K "_law_counts"))
  g__law_other : mg "_law_other" = some (.ref (He.ga c.K "_law_other"))
  nq_Binder : PySem.W.noSeq c.K c.Binder = true
  hs_Binder___setitem__ : PySem.W.findIn c.K (.ref c.Binder) "__setitem__" = some (some (.ref (He.ma c.K c.Binder "__setitem__"))) ∧ PySem.W.isFn c.K (.ref (He.ma c.K c.Binder "__setitem__")) = true
  g__law_replaced : mg "_law_replaced" = some (.ref (He.ga c.K "_law_replaced"))
  g__law_grown : mg "_law_grown" = some (.ref (He.ga c.K "_law_grown"))
  mt_Binder_remove : Meth c.K c.Binder "remove" (He.ma c.K c.Binder "remove")
  hs_Binder___iter__ : PySem.W.findIn c.K (.ref c.Binder) "__iter__" = some (some (.ref (He.ma c.K c.Binder "__iter__"))) ∧ PySem.W.isFn c.K (.ref (He.ma c.K c.Binder "__iter__")) = true
section
variable {P : Program} {w : World} {c : CA} {mg : Str → Option Value} {base : Heap}
abbrev n_check_places : List Str := ["places"]
abbrev s_check_places : Stmt := topS 23
theorem sc_check_places : FnScope ["places"] ["places"] (defScope s_check_places) := ⟨rfl, rfl, rfl, by decide +kernel, rfl, by decide +kernel, by decide +kernel⟩
theorem der_check_places {f : Addr} {cdv : Value} {A : Around} {outer : List Env} {s : Shared} {H : Hp} {E : XK} (T : Txt c mg) (hr : Room 0 (A.deeper (envOfC "check_places" (defScope s_check_places) s.heap.objs.size f cdv)))  :
    PSs (cxOf (L2.CX P w) P w c.K mg base ["places"] "check_places" (defScope s_check_places) f cdv A outer s H E) (defBody s_check_places) (t_check_places c E) := by
  have sc := sc_check_places
  have hu := hr.units
  have po := po_cx (CX := L2.CX P w) (P := P) (w := w) (K := c.K) (mg := mg) (base := base) (N := ["places"]) (qual := "check_places") (scope := defScope s_check_places) (f := f) (cd := cdv) (A := A) (outer := outer) (s := s) (H := H) (E := E)
  have px := px_cx (P := P) (w := w) (K := c.K) (mg := mg) (base := base) (N := ["places"]) (qual := "check_places") (scope := defScope s_check_places) (f := f) (cd := cdv) (A := A) (outer := outer) (s := s) (H := H) (E := E)
  obtain ⟨_, hc_MOST_PLACES⟩ := T.c_MOST_PLACES
  exact (pss_one (ps_if (t_not (t_chain op_leV op_leV d_int (d_var 0) (d_glob hc_MOST_PLACES ⟨_, rfl⟩)))
  (pss_one ps_never)
  pss_nil))
theorem ok_check_places (T : Txt c mg) (F : ∃ fd, FunD c.K "check_places" "check_places" (defArgs s_check_places) (defBody s_check_places) (defScope s_check_places) [] [] (He.ga c.K "check_places") fd)  : Fn P w c.K mg base 1 (He.ga c.K "check_places") ["places"] (sp_check_places c) := by
  obtain ⟨fd, F⟩ := F
  exact Fn.mk' (t := fun E => t_check_places c E) F sc_check_places (fun vs H Q E h => by obtain ⟨_, rfl, _⟩ := h; rfl) (fun _ _ _ _ _ _ us hl => match us, hl with | [_], _ => rfl) (fun cdv A outer s H E hr => der_check_places T hr ) (fun vs H Q E h => sem_check_places h)
abbrev n_check_stretch : List Str := ["begin", "end"]
abbrev s_check_stretch : Stmt := topS 24
theorem sc_check_stretch : FnScope ["begin", "end"] ["begin", "end"] (defScope s_check_stretch) := ⟨rfl, rfl, rfl, by decide +kernel, rfl, by decide +kernel, by decide +kernel⟩
theorem der_check_stretch {f : Addr} {cdv : Value} {A : Around} {outer : List Env} {s : Shared} {H : Hp} {E : XK} (T : Txt c mg) (hr : Room 0 (A.deeper (envOfC "check_stretch" (defScope s_check_stretch) s.heap.objs.size f cdv)))  :
    PSs (cxOf (L2.CX P w) P w c.K mg base ["begin", "end"] "check_stretch" (defScope s_check_stretch) f cdv A outer s H E) (defBody s_check_stretch) (t_check_stretch c E) := by
  have sc := sc_check_stretch
  have hu := hr.units
  have po := po_cx (CX := L2.CX P w) (P := P) (w := w) (K := c.K) (mg := mg) (base := base) (N := ["begin", "end"]) (qual := "check_stretch") (scope := defScope s_check_stretch) (f := f) (cd := cdv) (A := A) (outer := outer) (s := s) (H := H) (E := E)
  have px := px_cx (P := P) (w := w) (K := c.K) (mg := mg) (base := base) (N := ["begin", "end"]) (qual := "check_stretch") (scope := defScope s_check_stretch) (f := f) (cd := cdv) (A := A) (outer := outer) (s := s) (H := H) (E := E)
  exact (pss_one (ps_if (t_cmp op_ltV (d_var 1) (d_var 0))
  (pss_one ps_never)
  pss_nil))
theorem ok_check_stretch (T : Txt c mg) (F : ∃ fd, FunD c.K "check_stretch" "check_stretch" (defArgs s_check_stretch) (defBody s_check_stretch) (defScope s_check_stretch) [] [] (He.ga c.K "check_stretch") fd)  : Fn P w c.K mg base 1 (He.ga c.K "check_stretch") ["begin", "end"] (sp_check_stretch c) := by
  obtain ⟨fd, F⟩ := F
  exact Fn.mk' (t := fun E => t_check_stretch c E) F sc_check_stretch (fun vs H Q E h => by obtain ⟨_, _, rfl, _⟩ := h; rfl) (fun _ _ _ _ _ _ us hl => match us, hl with | [_, _], _ => rfl) (fun cdv A outer s H E hr => der_check_stretch T hr ) (fun vs H Q E h => sem_check_stretch h)
abbrev n_at_place : List Str := ["values", "place", "index"]
abbrev s_at_place : Stmt := topS 29
theorem sc_at_place : FnScope ["values", "place", "index"] ["values", "place"] (defScope s_at_place) := ⟨rfl, rfl, rfl, by decide +kernel, rfl, by decide +kernel, by decide +kernel⟩
theorem der_at_place {f : Addr} {cdv : Value} {A : Around} {outer : List Env} {s : Shared} {H : Hp} {E : XK} (T : Txt c mg) (hr : Room 0 (A.deeper (envOfC "at_place" (defScope s_at_place) s.heap.objs.size f cdv)))  :
    PSs (cxOf (L2.CX P w) P w c.K mg base ["values", "place", "index"] "at_place" (defScope s_at_place) f cdv A outer s H E) (defBody s_at_place) (t_at_place c E) := by
  have sc := sc_at_place
  have hu := hr.units
  have po := po_cx (CX := L2.CX P w) (P := P) (w := w) (K := c.K) (mg := mg) (base := base) (N := ["values", "place", "index"]) (qual := "at_place") (scope := defScope s_at_place) (f := f) (cd := cdv) (A := A) (outer := outer) (s := s) (H := H) (E := E)
  have px := px_cx (P := P) (w := w) (K := c.K) (mg := mg) (base := base) (N := ["values", "place", "index"]) (qual := "at_place") (scope := defScope s_at_place) (f := f) (cd := cdv) (A := A) (outer := outer) (s := s) (H := H) (E := E)
  exact (pss_cons (ps_set (i := 2) sc.nd rfl (by first | exact .inl rfl | exact .inr rfl) (d_bin op_modV (d_var 1) (d_cb c_len T.m_len boot_len (a_cons (d_var 0) a_nil))))
  (pss_one (ps_ret (d_bin op_subV (d_bin op_addV (d_idx (d_var 0) (d_var 2)) (d_var 1)) (d_var 2)))))
theorem ok_at_place (T : Txt c mg) (F : ∃ fd, FunD c.K "at_place" "at_place" (defArgs s_at_place) (defBody s_at_place) (defScope s_at_place) [] [] (He.ga c.K "at_place") fd)  : Fn P w c.K mg base 1 (He.ga c.K "at_place") ["values", "place"] (sp_at_place c) := by
  obtain ⟨fd, F⟩ := F
  exact Fn.mk' (t := fun E => t_at_place c E) F sc_at_place (fun vs H Q E h => by obtain ⟨_, _, _, rfl, _⟩ := h; rfl) (fun _ _ _ _ _ _ us hl => match us, hl with | [_, _], _ => rfl) (fun cdv A outer s H E hr => der_at_place T hr ) (fun vs H Q E h => sem_at_place h)
abbrev n_landing : List Str := ["heights", "place"]
abbrev s_landing : Stmt := topS 30
theorem sc_landing : FnScope ["heights", "place"] ["heights", "place"] (defScope s_landing) := ⟨rfl, rfl, rfl, by decide +kernel, rfl, by decide +kernel, by decide +kernel⟩
theorem der_landing {f : Addr} {cdv : Value} {A : Around} {outer : List Env} {s : Shared} {H : Hp} {E : XK} (T : Txt c mg) (hr : Room 0 (A.deeper (envOfC "landing" (defScope s_landing) s.heap.objs.size f cdv)))  :
    PSs (cxOf (L2.CX P w) P w c.K mg base ["heights", "place"] "landing" (defScope s_landing) f cdv A outer s H E) (defBody s_landing) (t_landing c E) := by
  have sc := sc_landing
  have hu := hr.units
  have po := po_cx (CX := L2.CX P w) (P := P) (w := w) (K := c.K) (mg := mg) (base := base) (N := ["heights", "place"]) (qual := "landing") (scope := defScope s_landing) (f := f) (cd := cdv) (A := A) (outer := outer) (s := s) (H := H) (E := E)
  have px := px_cx (P := P) (w := w) (K := c.K) (mg := mg) (base := base) (N := ["heights", "place"]) (qual := "landing") (scope := defScope s_landing) (f := f) (cd := cdv) (A := A) (outer := outer) (s := s) (H := H) (E := E)
  exact (pss_one (ps_ret (d_bin op_addV (d_var 1) (d_idx (d_var 0) (d_bin op_modV (d_var 1) (d_cb c_len T.m_len boot_len (a_cons (d_var 0) a_nil)))))))
theorem ok_landing (T : Txt c mg) (F : ∃ fd, FunD c.K "landing" "landing" (defArgs s_landing) (defBody s_landing) (defScope s_landing) [] [] (He.ga c.K "landing") fd)  : Fn P w c.K mg base 1 (He.ga c.K "landing") ["heights", "place"] (sp_landing c) := by
  obtain ⟨fd, F⟩ := F
  exact Fn.mk' (t := fun E => t_landing c E) F sc_landing (fun vs H Q E h => by obtain ⟨_, _, _, _, rfl, _⟩ := h; rfl) (fun _ _ _ _ _ _ us hl => match us, hl with | [_, _], _ => rfl) (fun cdv A outer s H E hr => der_landing T hr ) (fun vs H Q E h => sem_landing h)
abbrev n_came_list : List Str := ["heights", "places", "_", "came", "place", "index"]
abbrev s_came_list : Stmt := topS 31
theorem sc_came_list : FnScope ["heights", "places", "_", "came", "place", "index"] ["heights"] (defScope s_came_list) := ⟨rfl, rfl, rfl, by decide +kernel, rfl, by decide +kernel, by decide +kernel⟩
theorem der_came_list {f : Addr} {cdv : Value} {A : Around} {outer : List Env} {s : Shared} {H : Hp} {E : XK} (T : Txt c mg) (hr : Room 0 (A.deeper (envOfC "came_list" (defScope s_came_list) s.heap.objs.size f cdv)))  :
    PSs (cxOf (L2.CX P w) P w c.K mg base ["heights", "places", "_", "came", "place", "index"] "came_list" (defScope s_came_list) f cdv A outer s H E) (defBody s_came_list) (t_came_list c E) := by
  have sc := sc_came_list
  have hu := hr.units
  have po := po_cx (CX := L2.CX P w) (P := P) (w := w) (K := c.K) (mg := mg) (base := base) (N := ["heights", "places", "_", "came", "place", "index"]) (qual := "came_list") (scope := defScope s_came_list) (f := f) (cd := cdv) (A := A) (outer := outer) (s := s) (H := H) (E := E)
  have px := px_cx (P := P) (w := w) (K := c.K) (mg := mg) (base := base) (N := ["heights", "places", "_", "came", "place", "index"]) (qual := "came_list") (scope := defScope s_came_list) (f := f) (cd := cdv) (A := A) (outer := outer) (s := s) (H := H) (E := E)
  exact (pss_cons (ps_set (i := 1) sc.nd rfl (by first | exact .inl rfl | exact .inr rfl) (d_cb c_len T.m_len boot_len (a_cons (d_var 0) a_nil)))
  (pss_cons (by first | exact (s_setLc (i := 3) (own := [("_", 2)]) rfl sc.nd (blkOk_by (N := n_came_list) (sc := defScope s_came_list) (by decide +kernel)) rfl rfl (sw_true rfl rfl rfl (by decide +kernel)) (f_list (d_var 0)) (fun _ _ _ _ _ => (pg_name (i := 2) sc.nd rfl (by first | exact .inl rfl | exact .inr rfl))) (fun _ _ _ _ _ => pts_nil) (fun _ _ _ _ _ => d_int)) | exact (ps_set (i := 3) sc.nd rfl (by first | exact .inl rfl | exact .inr rfl) (d_comp (own := [("_", 2)]) rfl sc.nd (blkOk_by (N := n_came_list) (sc := defScope s_came_list) (by decide +kernel)) (f_list (d_var 0)) (fun _ _ _ _ _ => (pg_name (i := 2) sc.nd rfl (by first | exact .inl rfl | exact .inr rfl))) (fun _ _ _ _ _ => pts_nil) (fun _ _ _ _ _ => d_int))))
  (pss_cons (d_for po rfl (f_rng1 T.m_range (d_var 1)) (pg_name (i := 4) sc.nd rfl (by first | exact .inl rfl | exact .inr rfl))
  (pss_cons (ps_set (i := 5) sc.nd rfl (by first | exact .inl rfl | exact .inr rfl) (d_bin op_modV (d_bin op_addV (d_var 4) (d_idx (d_var 0) (d_var 4))) (d_var 1)))
  (pss_one (ps_asg (d_bin op_subV (d_var 5) (d_idx (d_var 0) (d_var 4))) (pg_sub (d_var 3) (d_var 5) set_V)))))
  (pss_one (ps_ret (d_var 3))))))
theorem ok_came_list (T : Txt c mg) (F : ∃ fd, FunD c.K "came_list" "came_list" (defArgs s_came_list) (defBody s_came_list) (defScope s_came_list) [] [] (He.ga c.K "came_list") fd)  : Fn P w c.K mg base 1 (He.ga c.K "came_list") ["heights"] (sp_came_list c) := by
  obtain ⟨fd, F⟩ := F
  exact Fn.mk' (t := fun E => t_came_list c E) F sc_came_list (fun vs H Q E h => by obtain ⟨_, _, _, rfl, _⟩ := h; rfl) (fun _ _ _ _ _ _ us hl => match us, hl with | [_], _ => rfl) (fun cdv A outer s H E hr => der_came_list T hr ) (fun vs H Q E h => sem_came_list h)
abbrev n_heights_of : List Str := ["came", "places", "_", "heights", "place"]
abbrev s_heights_of : Stmt := topS 32
theorem sc_heights_of : FnScope ["came", "places", "_", "heights", "place"] ["came"] (defScope s_heights_of) := ⟨rfl, rfl, rfl, by decide +kernel, rfl, by decide +kernel, by decide +kernel⟩
theorem der_heights_of {f : Addr} {cdv : Value} {A : Around} {outer : List Env} {s : Shared} {H : Hp} {E : XK} (T : Txt c mg) (hr : Room 0 (A.deeper (envOfC "heights_of" (defScope s_heights_of) s.heap.objs.size f cdv)))  :
    PSs (cxOf (L2.CX P w) P w c.K mg base ["came", "places", "_", "heights", "place"] "heights_of" (defScope s_heights_of) f cdv A outer s H E) (defBody s_heights_of) (t_heights_of c E) := by
  have sc := sc_heights_of
  have hu := hr.units
  have po := po_cx (CX := L2.CX P w) (P := P) (w := w) (K := c.K) (mg := mg) (base := base) (N := ["came", "places", "_", "heights", "place"]) (qual := "heights_of") (scope := defScope s_heights_of) (f := f) (cd := cdv) (A := A) (outer := outer) (s := s) (H := H) (E := E)
  have px := px_cx (P := P) (w := w) (K := c.K) (mg := mg) (base := base) (N := ["came", "places", "_", "heights", "place"]) (qual := "heights_of") (scope := defScope s_heights_of) (f := f) (cd := cdv) (A := A) (outer := outer) (s := s) (H := H) (E := E)
  exact (pss_cons (ps_set (i := 1) sc.nd rfl (by first | exact .inl rfl | exact .inr rfl) (d_cb c_len T.m_len boot_len (a_cons (d_var 0) a_nil)))
  (pss_cons (by first | exact (s_setLc (i := 3) (own := [("_", 2)]) rfl sc.nd (blkOk_by (N := n_heights_of) (sc := defScope s_heights_of) (by decide +kernel)) rfl rfl (sw_true rfl rfl rfl (by decide +kernel)) (f_list (d_var 0)) (fun _ _ _ _ _ => (pg_name (i := 2) sc.nd rfl (by first | exact .inl rfl | exact .inr rfl))) (fun _ _ _ _ _ => pts_nil) (fun _ _ _ _ _ => d_int)) | exact (ps_set (i := 3) sc.nd rfl (by first | exact .inl rfl | exact .inr rfl) (d_comp (own := [("_", 2)]) rfl sc.nd (blkOk_by (N := n_heights_of) (sc := defScope s_heights_of) (by decide +kernel)) (f_list (d_var 0)) (fun _ _ _ _ _ => (pg_name (i := 2) sc.nd rfl (by first | exact .inl rfl | exact .inr rfl))) (fun _ _ _ _ _ => pts_nil) (fun _ _ _ _ _ => d_int))))
  (pss_cons (d_for po rfl (f_rng1 T.m_range (d_var 1)) (pg_name (i := 4) sc.nd rfl (by first | exact .inl rfl | exact .inr rfl))
  (pss_one (ps_asg (d_bin op_subV (d_var 4) (d_idx (d_var 0) (d_var 4))) (pg_sub (d_var 3) (d_bin op_modV (d_idx (d_var 0) (d_var 4)) (d_var 1)) set_V))))
  (pss_one (ps_ret (d_var 3))))))
theorem ok_heights_of (T : Txt c mg) (F : ∃ fd, FunD c.K "heights_of" "heights_of" (defArgs s_heights_of) (defBody s_heights_of) (defScope s_heights_of) [] [] (He.ga c.K "heights_of") fd)  : Fn P w c.K mg base 1 (He.ga c.K "heights_of") ["came"] (sp_heights_of c) := by
  obtain ⟨fd, F⟩ := F
  exact Fn.mk' (t := fun E => t_heights_of c E) F sc_heights_of (fun vs H Q E h => by obtain ⟨_, _, _, rfl, _⟩ := h; rfl) (fun _ _ _ _ _ _ us hl => match us, hl with | [_], _ => rfl) (fun cdv A outer s H E hr => der_heights_of T hr ) (fun vs H Q E h => sem_heights_of h)
abbrev n_count_between : List Str := ["heights", "begin", "end", "height", "highest", "found", "place"]
abbrev s_count_between : Stmt := topS 35
theorem sc_count_between : FnScope ["heights", "begin", "end", "height", "highest", "found", "place"] ["heights", "begin", "end"] (defScope s_count_between) := ⟨rfl, rfl, rfl, by decide +kernel, rfl, by decide +kernel, by decide +kernel⟩
theorem der_count_between {f : Addr} {cdv : Value} {A : Around} {outer : List Env} {s : Shared} {H : Hp} {E : XK} (T : Txt c mg) (hr : Room 1 (A.deeper (envOfC "count_between" (defScope s_count_between) s.heap.objs.size f cdv))) (Fo_check_stretch : Fn P w c.K mg base 1 (He.ga c.K "check_stretch") ["begin", "end"] (sp_check_stretch c)) (Fo_landing : Fn P w c.K mg base 1 (He.ga c.K "landing") ["heights", "place"] (sp_landing c)) :
    PSs (cxOf (L2.CX P w) P w c.K mg base ["heights", "begin", "end", "height", "highest", "found", "place"] "count_between" (defScope s_count_between) f cdv A outer s H E) (defBody s_count_between) (t_count_between c E) := by
  have sc := sc_count_between
  have hu := hr.units
  have po := po_cx (CX := L2.CX P w) (P := P) (w := w) (K := c.K) (mg := mg) (base := base) (N := ["heights", "begin", "end", "height", "highest", "found", "place"]) (qual := "count_between") (scope := defScope s_count_between) (f := f) (cd := cdv) (A := A) (outer := outer) (s := s) (H := H) (E := E)
  have px := px_cx (P := P) (w := w) (K := c.K) (mg := mg) (base := base) (N := ["heights", "begin", "end", "height", "highest", "found", "place"]) (qual := "count_between") (scope := defScope s_count_between) (f := f) (cd := cdv) (A := A) (outer := outer) (s := s) (H := H) (E := E)
  exact (pss_cons (ps_expr (Fo_check_stretch.call T.g_check_stretch (hr.mono (by decide)) px (a_cons (d_var 1) (a_cons (d_var 2) a_nil))))
  (pss_cons (ps_set (i := 4) sc.nd rfl (by first | exact .inl rfl | exact .inr rfl) (d_cb (c_maxL rfl) T.m_max (by decide +kernel) (a_cons (d_comp (own := [("height", 3)]) rfl sc.nd (blkOk_by (N := n_count_between) (sc := defScope s_count_between) (by decide +kernel)) (f_list (d_var 0)) (fun _ _ _ _ _ => (pg_name (i := 3) sc.nd rfl (by first | exact .inl rfl | exact .inr rfl))) (fun _ _ _ _ _ => pts_nil) (fun _ _ _ _ _ => (d_ct c_int T.m_int boot_int (a_cons (d_var 3) a_nil)))) a_nil)))
  (pss_cons (ps_set (i := 5) sc.nd rfl (by first | exact .inl rfl | exact .inr rfl) d_int)
  (pss_cons (d_for po rfl (f_rng2 T.m_range (d_cb (c_max2 rfl) T.m_max (by decide +kernel) (a_cons (d_ct c_int T.m_int boot_int (a_cons (d_var 1) a_nil)) (a_cons (d_bin op_subV (d_ct c_int T.m_int boot_int (a_cons (d_var 2) a_nil)) (d_var 4)) a_nil))) (d_var 2)) (pg_name (i := 6) sc.nd rfl (by first | exact .inl rfl | exact .inr rfl))
  (pss_one (ps_if (t_cmp op_geV (Fo_landing.call T.g_landing (hr.mono (by decide)) px (a_cons (d_var 0) (a_cons (d_var 6) a_nil))) (d_var 2))
  (pss_one (s_aug (i := 5) sc.nd rfl (by first | exact .inl rfl | exact .inr rfl) d_int ip_addV))
  pss_nil)))
  (pss_one (ps_ret (d_var 5)))))))
theorem ok_count_between (T : Txt c mg) (F : ∃ fd, FunD c.K "count_between" "count_between" (defArgs s_count_between) (defBody s_count_between) (defScope s_count_between) [] [] (He.ga c.K "count_between") fd) (Fo_check_stretch : Fn P w c.K mg base 1 (He.ga c.K "check_stretch") ["begin", "end"] (sp_check_stretch c)) (Fo_landing : Fn P w c.K mg base 1 (He.ga c.K "landing") ["heights", "place"] (sp_landing c)) : Fn P w c.K mg base 2 (He.ga c.K "count_between") ["heights", "begin", "end"] (sp_count_between c) := by
  obtain ⟨fd, F⟩ := F
  exact Fn.mk' (t := fun E => t_count_between c E) F sc_count_between (fun vs H Q E h => by obtain ⟨_, _, _, _, _, _, rfl, _⟩ := h; rfl) (fun _ _ _ _ _ _ us hl => match us, hl with | [_, _, _], _ => rfl) (fun cdv A outer s H E hr => der_count_between T hr Fo_check_stretch Fo_landing) (fun vs H Q E h => sem_count_between h)
abbrev n_carried_to : List Str := ["came", "stands", "gap", "place", "least"]
abbrev s_carried_to : Stmt := topS 39
theorem sc_carried_to : FnScope ["came", "stands", "gap", "place", "least"] ["came", "stands", "gap"] (defScope s_carried_to) := ⟨rfl, rfl, rfl, by decide +kernel, rfl, by decide +kernel, by decide +kernel⟩
theorem der_carried_to {f : Addr} {cdv : Value} {A : Around} {outer : List Env} {s : Shared} {H : Hp} {E : XK} (T : Txt c mg) (hr : Room 1 (A.deeper (envOfC "carried_to" (defScope s_carried_to) s.heap.objs.size f cdv))) (Fo_at_place : Fn P w c.K mg base 1 (He.ga c.K "at_place") ["values", "place"] (sp_at_place c)) :
    PSs (cxOf (L2.CX P w) P w c.K mg base ["came", "stands", "gap", "place", "least"] "carried_to" (defScope s_carried_to) f cdv A outer s H E) (defBody s_carried_to) (t_carried_to c E) := by
  have sc := sc_carried_to
  have hu := hr.units
  have po := po_cx (CX := L2.CX P w) (P := P) (w := w) (K := c.K) (mg := mg) (base := base) (N := ["came", "stands", "gap", "place", "least"]) (qual := "carried_to") (scope := defScope s_carried_to) (f := f) (cd := cdv) (A := A) (outer := outer) (s := s) (H := H) (E := E)
  have px := px_cx (P := P) (w := w) (K := c.K) (mg := mg) (base := base) (N := ["came", "stands", "gap", "place", "least"]) (qual := "carried_to") (scope := defScope s_carried_to) (f := f) (cd := cdv) (A := A) (outer := outer) (s := s) (H := H) (E := E)
  exact (pss_cons (ps_set (i := 3) sc.nd rfl (by first | exact .inl rfl | exact .inr rfl) (d_bin op_subV (d_var 2) d_int))
  (pss_cons (ps_set (i := 4) sc.nd rfl (by first | exact .inl rfl | exact .inr rfl) (Fo_at_place.call T.g_at_place (hr.mono (by decide)) px (a_cons (d_var 0) (a_cons (d_var 3) a_nil))))
  (pss_cons (d_while po (t_cmp op_ninVV (d_bin op_modV (d_var 3) (d_cb c_len T.m_len boot_len (a_cons (d_var 0) a_nil))) (d_var 1))
  (pss_cons (ps_set (i := 3) sc.nd rfl (by first | exact .inl rfl | exact .inr rfl) (d_bin op_subV (d_var 3) d_int))
  (pss_one (ps_if (t_cmp op_ltV (Fo_at_place.call T.g_at_place (hr.mono (by decide)) px (a_cons (d_var 0) (a_cons (d_var 3) a_nil))) (d_var 4))
  (pss_one (ps_set (i := 4) sc.nd rfl (by first | exact .inl rfl | exact .inr rfl) (Fo_at_place.call T.g_at_place (hr.mono (by decide)) px (a_cons (d_var 0) (a_cons (d_var 3) a_nil)))))
  pss_nil))))
  (pss_one (ps_ret (d_var 4))))))
theorem ok_carried_to (T : Txt c mg) (F : ∃ fd, FunD c.K "carried_to" "carried_to" (defArgs s_carried_to) (defBody s_carried_to) (defScope s_carried_to) [] [] (He.ga c.K "carried_to") fd) (Fo_at_place : Fn P w c.K mg base 1 (He.ga c.K "at_place") ["values", "place"] (sp_at_place c)) : Fn P w c.K mg base 2 (He.ga c.K "carried_to") ["came", "stands", "gap"] (sp_carried_to c) := by
  obtain ⟨fd, F⟩ := F
  exact Fn.mk' (t := fun E => t_carried_to c E) F sc_carried_to (fun vs H Q E h => by obtain ⟨_, _, _, _, _, _, rfl, _⟩ := h; rfl) (fun _ _ _ _ _ _ us hl => match us, hl with | [_, _, _], _ => rfl) (fun cdv A outer s H E hr => der_carried_to T hr Fo_at_place) (fun vs H Q E h => sem_carried_to h)
abbrev n_carried_came : List Str := ["came", "stands", "gap"]
abbrev s_carried_came : Stmt := topS 38
theorem sc_carried_came : FnScope ["came", "stands", "gap"] ["came", "stands"] (defScope s_carried_came) := ⟨rfl, rfl, rfl, by decide +kernel, rfl, by decide +kernel, by decide +kernel⟩
theorem der_carried_came {f : Addr} {cdv : Value} {A : Around} {outer : List Env} {s : Shared} {H : Hp} {E : XK} (T : Txt c mg) (hr : Room 2 (A.deeper (envOfC "carried_came" (defScope s_carried_came) s.heap.objs.size f cdv))) (Fo_carried_to : Fn P w c.K mg base 2 (He.ga c.K "carried_to") ["came", "stands", "gap"] (sp_carried_to c)) :
    PSs (cxOf (L2.CX P w) P w c.K mg base ["came", "stands", "gap"] "carried_came" (defScope s_carried_came) f cdv A outer s H E) (defBody s_carried_came) (t_carried_came c E) := by
  have sc := sc_carried_came
  have hu := hr.units
  have po := po_cx (CX := L2.CX P w) (P := P) (w := w) (K := c.K) (mg := mg) (base := base) (N := ["came", "stands", "gap"]) (qual := "carried_came") (scope := defScope s_carried_came) (f := f) (cd := cdv) (A := A) (outer := outer) (s := s) (H := H) (E := E)
  have px := px_cx (P := P) (w := w) (K := c.K) (mg := mg) (base := base) (N := ["came", "stands", "gap"]) (qual := "carried_came") (scope := defScope s_carried_came) (f := f) (cd := cdv) (A := A) (outer := outer) (s := s) (H := H) (E := E)
  exact (pss_one (ps_ret (d_comp (own := [("gap", 2)]) rfl sc.nd (blkOk_by (N := n_carried_came) (sc := defScope s_carried_came) (by decide +kernel)) (f_rng1 T.m_range (d_cb c_len T.m_len boot_len (a_cons (d_var 0) a_nil))) (fun _ _ _ _ _ => (pg_name (i := 2) sc.nd rfl (by first | exact .inl rfl | exact .inr rfl))) (fun _ _ _ _ _ => pts_nil) (fun _ _ _ _ _ => (Fo_carried_to.call T.g_carried_to (hr.mono (by decide)) passL (a_cons (d_var 0) (a_cons (d_var 1) (a_cons (d_var 2) a_nil))))))))
theorem ok_carried_came (T : Txt c mg) (F : ∃ fd, FunD c.K "carried_came" "carried_came" (defArgs s_carried_came) (defBody s_carried_came) (defScope s_carried_came) [] [] (He.ga c.K "carried_came") fd) (Fo_carried_to : Fn P w c.K mg base 2 (He.ga c.K "carried_to") ["came", "stands", "gap"] (sp_carried_to c)) : Fn P w c.K mg base 3 (He.ga c.K "carried_came") ["came", "stands"] (sp_carried_came c) := by
  obtain ⟨fd, F⟩ := F
  exact Fn.mk' (t := fun E => t_carried_came c E) F sc_carried_came (fun vs H Q E h => by obtain ⟨_, _, _, _, _, rfl, _⟩ := h; rfl) (fun _ _ _ _ _ _ us hl => match us, hl with | [_, _], _ => rfl) (fun cdv A outer s H E hr => der_carried_came T hr Fo_carried_to) (fun vs H Q E h => sem_carried_came h)
abbrev n_step_came : List Str := ["came", "stands", "brought", "moved", "place"]
abbrev s_step_came : Stmt := topS 40
theorem sc_step_came : FnScope ["came", "stands", "brought", "moved", "place"] ["came", "stands"] (defScope s_step_came) := ⟨rfl, rfl, rfl, by decide +kernel, rfl, by decide +kernel, by decide +kernel⟩
theorem der_step_came {f : Addr} {cdv : Value} {A : Around} {outer : List Env} {s : Shared} {H : Hp} {E : XK} (T : Txt c mg) (hr : Room 3 (A.deeper (envOfC "step_came" (defScope s_step_came) s.heap.objs.size f cdv))) (Fo_carried_came : Fn P w c.K mg base 3 (He.ga c.K "carried_came") ["came", "stands"] (sp_carried_came c)) :
    PSs (cxOf (L2.CX P w) P w c.K mg base ["came", "stands", "brought", "moved", "place"] "step_came" (defScope s_step_came) f cdv A outer s H E) (defBody s_step_came) (t_step_came c E) := by
  have sc := sc_step_came
  have hu := hr.units
  have po := po_cx (CX := L2.CX P w) (P := P) (w := w) (K := c.K) (mg := mg) (base := base) (N := ["came", "stands", "brought", "moved", "place"]) (qual := "step_came") (scope := defScope s_step_came) (f := f) (cd := cdv) (A := A) (outer := outer) (s := s) (H := H) (E := E)
  have px := px_cx (P := P) (w := w) (K := c.K) (mg := mg) (base := base) (N := ["came", "stands", "brought", "moved", "place"]) (qual := "step_came") (scope := defScope s_step_came) (f := f) (cd := cdv) (A := A) (outer := outer) (s := s) (H := H) (E := E)
  exact (pss_cons (ps_set (i := 2) sc.nd rfl (by first | exact .inl rfl | exact .inr rfl) (Fo_carried_came.call T.g_carried_came (hr.mono (by decide)) px (a_cons (d_var 0) (a_cons (d_var 1) a_nil))))
  (pss_cons (ps_set (i := 3) sc.nd rfl (by first | exact .inl rfl | exact .inr rfl) (d_list a_nil))
  (pss_cons (d_for po rfl (f_rng1 T.m_range (d_cb c_len T.m_len boot_len (a_cons (d_var 0) a_nil))) (pg_name (i := 4) sc.nd rfl (by first | exact .inl rfl | exact .inr rfl))
  (pss_one (ps_if (t_or (t_cmp op_inVV (d_var 4) (d_var 1)) (t_cmp op_gtV (d_idx (d_var 2) (d_var 4)) (d_idx (d_var 0) (d_var 4))))
  (pss_one (ps_expr (d_lm PySem.F.plainAttrs_list PySem.F.slot_list_append PySem.F.type_list_append m_append (d_var 3) (a_cons (d_idx (d_var 2) (d_var 4)) a_nil))))
  (pss_one (ps_expr (d_lm PySem.F.plainAttrs_list PySem.F.slot_list_append PySem.F.type_list_append m_append (d_var 3) (a_cons (d_idx (d_var 0) (d_var 4)) a_nil)))))))
  (pss_one (ps_ret (d_var 3))))))
theorem ok_step_came (T : Txt c mg) (F : ∃ fd, FunD c.K "step_came" "step_came" (defArgs s_step_came) (defBody s_step_came) (defScope s_step_came) [] [] (He.ga c.K "step_came") fd) (Fo_carried_came : Fn P w c.K mg base 3 (He.ga c.K "carried_came") ["came", "stands"] (sp_carried_came c)) : Fn P w c.K mg base 4 (He.ga c.K "step_came") ["came", "stands"] (sp_step_came c) := by
  obtain ⟨fd, F⟩ := F
  exact Fn.mk' (t := fun E => t_step_came c E) F sc_step_came (fun vs H Q E h => by obtain ⟨_, _, _, _, _, rfl, _⟩ := h; rfl) (fun _ _ _ _ _ _ us hl => match us, hl with | [_, _], _ => rfl) (fun cdv A outer s H E hr => der_step_came T hr Fo_carried_came) (fun vs H Q E h => sem_step_came h)
abbrev n_peel : List Str := ["heights", "places", "place", "used", "rest", "earlier"]
abbrev s_peel : Stmt := topS 41
theorem sc_peel : FnScope ["heights", "places", "place", "used", "rest", "earlier"] ["heights"] (defScope s_peel) := ⟨rfl, rfl, rfl, by decide +kernel, rfl, by decide +kernel, by decide +kernel⟩
theorem der_peel {f : Addr} {cdv : Value} {A : Around} {outer : List Env} {s : Shared} {H : Hp} {E : XK} (T : Txt c mg) (hr : Room 0 (A.deeper (envOfC "peel" (defScope s_peel) s.heap.objs.size f cdv)))  :
    PSs (cxOf (L2.CX P w) P w c.K mg base ["heights", "places", "place", "used", "rest", "earlier"] "peel" (defScope s_peel) f cdv A outer s H E) (defBody s_peel) (t_peel c E) := by
  have sc := sc_peel
  have hu := hr.units
  have po := po_cx (CX := L2.CX P w) (P := P) (w := w) (K := c.K) (mg := mg) (base := base) (N := ["heights", "places", "place", "used", "rest", "earlier"]) (qual := "peel") (scope := defScope s_peel) (f := f) (cd := cdv) (A := A) (outer := outer) (s := s) (H := H) (E := E)
  have px := px_cx (P := P) (w := w) (K := c.K) (mg := mg) (base := base) (N := ["heights", "places", "place", "used", "rest", "earlier"]) (qual := "peel") (scope := defScope s_peel) (f := f) (cd := cdv) (A := A) (outer := outer) (s := s) (H := H) (E := E)
  exact (pss_cons (ps_set (i := 1) sc.nd rfl (by first | exact .inl rfl | exact .inr rfl) (d_cb c_len T.m_len boot_len (a_cons (d_var 0) a_nil)))
  (pss_cons (by first | exact (s_setLc (i := 3) (own := [("place", 2)]) rfl sc.nd (blkOk_by (N := n_peel) (sc := defScope s_peel) (by decide +kernel)) rfl rfl (sw_true rfl rfl rfl (by decide +kernel)) (f_rng1 T.m_range (d_var 1)) (fun _ _ _ _ _ => (pg_name (i := 2) sc.nd rfl (by first | exact .inl rfl | exact .inr rfl))) (fun _ _ _ _ _ => (pts_one (t_cmp op_gtV (d_idx (d_var 0) (d_var 2)) d_int))) (fun _ _ _ _ _ => (d_var 2))) | exact (ps_set (i := 3) sc.nd rfl (by first | exact .inl rfl | exact .inr rfl) (d_comp (own := [("place", 2)]) rfl sc.nd (blkOk_by (N := n_peel) (sc := defScope s_peel) (by decide +kernel)) (f_rng1 T.m_range (d_var 1)) (fun _ _ _ _ _ => (pg_name (i := 2) sc.nd rfl (by first | exact .inl rfl | exact .inr rfl))) (fun _ _ _ _ _ => (pts_one (t_cmp op_gtV (d_idx (d_var 0) (d_var 2)) d_int))) (fun _ _ _ _ _ => (d_var 2)))))
  (pss_cons (ps_set (i := 4) sc.nd rfl (by first | exact .inl rfl | exact .inr rfl) (d_ct c_list T.m_list boot_list (a_cons (d_var 0) a_nil)))
  (pss_cons (d_for po rfl (f_list (d_var 3)) (pg_name (i := 2) sc.nd rfl (by first | exact .inl rfl | exact .inr rfl))
  (pss_cons (ps_set (i := 5) sc.nd rfl (by first | exact .inl rfl | exact .inr rfl) (d_bin op_subV (d_bin op_addV (d_var 2) (d_idx (d_var 0) (d_var 2))) d_int))
  (pss_cons (d_while po (t_cmp op_eqSV (d_idx (d_var 0) (d_bin op_modV (d_var 5) (d_var 1))) d_int)
  (pss_one (ps_set (i := 5) sc.nd rfl (by first | exact .inl rfl | exact .inr rfl) (d_bin op_subV (d_var 5) d_int))))
  (pss_one (ps_asg (d_bin op_subV (d_var 5) (d_var 2)) (pg_sub (d_var 4) (d_var 2) set_V))))))
  (pss_one (ps_ret (d_tup (a_cons (d_var 4) (a_cons (d_var 3) a_nil)))))))))
theorem ok_peel (T : Txt c mg) (F : ∃ fd, FunD c.K "peel" "peel" (defArgs s_peel) (defBody s_peel) (defScope s_peel) [] [] (He.ga c.K "peel") fd)  : Fn P w c.K mg base 1 (He.ga c.K "peel") ["heights"] (sp_peel c) := by
  obtain ⟨fd, F⟩ := F
  exact Fn.mk' (t := fun E => t_peel c E) F sc_peel (fun vs H Q E h => by obtain ⟨_, _, _, rfl, _⟩ := h; rfl) (fun _ _ _ _ _ _ us hl => match us, hl with | [_], _ => rfl) (fun cdv A outer s H E hr => der_peel T hr ) (fun vs H Q E h => sem_peel h)
abbrev n_product_heights : List Str := ["first", "second", "rest", "sets", "_", "stands", "came"]
abbrev s_product_heights : Stmt := topS 43
theorem sc_product_heights : FnScope ["first", "second", "rest", "sets", "_", "stands", "came"] ["first", "second"] (defScope s_product_heights) := ⟨rfl, rfl, rfl, by decide +kernel, rfl, by decide +kernel, by decide +kernel⟩
theorem der_product_heights {f : Addr} {cdv : Value} {A : Around} {outer : List Env} {s : Shared} {H : Hp} {E : XK} (T : Txt c mg) (hr : Room 4 (A.deeper (envOfC "product_heights" (defScope s_product_heights) s.heap.objs.size f cdv))) (Fo_peel : Fn P w c.K mg base 1 (He.ga c.K "peel") ["heights"] (sp_peel c)) (Fo_came_list : Fn P w c.K mg base 1 (He.ga c.K "came_list") ["heights"] (sp_came_list c)) (Fo_step_came : Fn P w c.K mg base 4 (He.ga c.K "step_came") ["came", "stands"] (sp_step_came c)) (Fo_heights_of : Fn P w c.K mg base 1 (He.ga c.K "heights_of") ["came"] (sp_heights_of c)) :
    PSs (cxOf (L2.CX P w) P w c.K mg base ["first", "second", "rest", "sets", "_", "stands", "came"] "product_heights" (defScope s_product_heights) f cdv A outer s H E) (defBody s_product_heights) (t_product_heights c E) := by
  have sc := sc_product_heights
  have hu := hr.units
  have po := po_cx (CX := L2.CX P w) (P := P) (w := w) (K := c.K) (mg := mg) (base := base) (N := ["first", "second", "rest", "sets", "_", "stands", "came"]) (qual := "product_heights") (scope := defScope s_product_heights) (f := f) (cd := cdv) (A := A) (outer := outer) (s := s) (H := H) (E := E)
  have px := px_cx (P := P) (w := w) (K := c.K) (mg := mg) (base := base) (N := ["first", "second", "rest", "sets", "_", "stands", "came"]) (qual := "product_heights") (scope := defScope s_product_heights) (f := f) (cd := cdv) (A := A) (outer := outer) (s := s) (H := H) (E := E)
  exact (pss_cons (ps_set (i := 2) sc.nd rfl (by first | exact .inl rfl | exact .inr rfl) (d_ct c_list T.m_list boot_list (a_cons (d_var 1) a_nil)))
  (pss_cons (ps_set (i := 3) sc.nd rfl (by first | exact .inl rfl | exact .inr rfl) (d_list a_nil))
  (pss_cons (d_for po rfl (f_rng1 T.m_range (d_bin op_divV (d_cb (c_sum rfl) T.m_sum (by decide +kernel) (a_cons (d_var 1) a_nil)) (d_cb c_len T.m_len boot_len (a_cons (d_var 1) a_nil)))) (pg_name (i := 4) sc.nd rfl (by first | exact .inl rfl | exact .inr rfl))
  (pss_cons (ps_asg (Fo_peel.call T.g_peel (hr.mono (by decide)) px (a_cons (d_var 2) a_nil)) (g_two rfl (pgs_cons (pg_name (i := 2) sc.nd rfl (by first | exact .inl rfl | exact .inr rfl)) (pgs_cons (pg_name (i := 5) sc.nd rfl (by first | exact .inl rfl | exact .inr rfl)) pgs_nil))))
  (pss_one (ps_expr (d_lm PySem.F.plainAttrs_list PySem.F.slot_list_append PySem.F.type_list_append m_append (d_var 3) (a_cons (d_var 5) a_nil))))))
  (pss_cons (ps_set (i := 6) sc.nd rfl (by first | exact .inl rfl | exact .inr rfl) (Fo_came_list.call T.g_came_list (hr.mono (by decide)) px (a_cons (d_var 0) a_nil)))
  (pss_cons (d_for po rfl (f_list (d_revs (d_var 3))) (pg_name (i := 5) sc.nd rfl (by first | exact .inl rfl | exact .inr rfl))
  (pss_one (ps_set (i := 6) sc.nd rfl (by first | exact .inl rfl | exact .inr rfl) (Fo_step_came.call T.g_step_came (hr.mono (by decide)) px (a_cons (d_var 6) (a_cons (d_var 5) a_nil))))))
  (pss_one (ps_ret (Fo_heights_of.call T.g_heights_of (hr.mono (by decide)) px (a_cons (d_var 6) a_nil)))))))))
theorem ok_product_heights (T : Txt c mg) (F : ∃ fd, FunD c.K "product_heights" "product_heights" (defArgs s_product_heights) (defBody s_product_heights) (defScope s_product_heights) [] [] (He.ga c.K "product_heights") fd) (Fo_peel : Fn P w c.K mg base 1 (He.ga c.K "peel") ["heights"] (sp_peel c)) (Fo_came_list : Fn P w c.K mg base 1 (He.ga c.K "came_list") ["heights"] (sp_came_list c)) (Fo_step_came : Fn P w c.K mg base 4 (He.ga c.K "step_came") ["came", "stands"] (sp_step_came c)) (Fo_heights_of : Fn P w c.K mg base 1 (He.ga c.K "heights_of") ["came"] (sp_heights_of c)) : Fn P w c.K mg base 5 (He.ga c.K "product_heights") ["first", "second"] (sp_product_heights c) := by
  obtain ⟨fd, F⟩ := F
  exact Fn.mk' (t := fun E => t_product_heights c E) F sc_product_heights (fun vs H Q E h => by obtain ⟨_, _, _, _, _, rfl, _⟩ := h; rfl) (fun _ _ _ _ _ _ us hl => match us, hl with | [_, _], _ => rfl) (fun cdv A outer s H E hr => der_product_heights T hr Fo_peel Fo_came_list Fo_step_came Fo_heights_of) (fun vs H Q E h => sem_product_heights h)
abbrev n_Cast___init__ : List Str := ["self", "heights", "places", "place", "second", "first", "balls"]
abbrev s_Cast___init__ : Stmt := inC (topS 59) 2
theorem sc_Cast___init__ : FnScope ["self", "heights", "places", "place", "second", "first", "balls"] ["self", "heights"] (defScope s_Cast___init__) := ⟨rfl, rfl, rfl, by decide +kernel, rfl, by decide +kernel, by decide +kernel⟩
theorem der_Cast___init__ {f : Addr} {cdv : Value} {A : Around} {outer : List Env} {s : Shared} {H : Hp} {E : XK} (T : Txt c mg) (hr : Room 0 (A.deeper (envOfC "Cast.__init__" (defScope s_Cast___init__) s.heap.objs.size f cdv)))  :
    PSs (cxOf (L2.CX P w) P w c.K mg base ["self", "heights", "places", "place", "second", "first", "balls"] "Cast.__init__" (defScope s_Cast___init__) f cdv A outer s H E) (defBody s_Cast___init__) (t_Cast___init__ c E) := by
  have sc := sc_Cast___init__
  have hu := hr.units
  have po := po_cx (CX := L2.CX P w) (P := P) (w := w) (K := c.K) (mg := mg) (base := base) (N := ["self", "heights", "places", "place", "second", "first", "balls"]) (qual := "Cast.__init__") (scope := defScope s_Cast___init__) (f := f) (cd := cdv) (A := A) (outer := outer) (s := s) (H := H) (E := E)
  have px := px_cx (P := P) (w := w) (K := c.K) (mg := mg) (base := base) (N := ["self", "heights", "places", "place", "second", "first", "balls"]) (qual := "Cast.__init__") (scope := defScope s_Cast___init__) (f := f) (cd := cdv) (A := A) (outer := outer) (s := s) (H := H) (E := E)
  obtain ⟨_, hc_MOST_HEIGHT⟩ := T.c_MOST_HEIGHT
  obtain ⟨_, hk_Cast_MOST_BALLS⟩ := T.k_Cast_MOST_BALLS
  obtain ⟨_, hk_Cast_MOST_PLACES⟩ := T.k_Cast_MOST_PLACES
  exact (pss_cons (ps_set (i := 2) sc.nd rfl (by first | exact .inl rfl | exact .inr rfl) (d_cb c_len T.m_len boot_len (a_cons (d_var 1) a_nil)))
  (pss_cons (ps_if (t_not (t_chain op_leV op_leV d_int (d_var 2) (d_con T.g_Cast T.rd_Cast hk_Cast_MOST_PLACES)))
  (pss_one ps_never)
  pss_nil)
  (pss_cons (d_for po rfl (f_rng1 T.m_range (d_var 2)) (pg_name (i := 3) sc.nd rfl (by first | exact .inl rfl | exact .inr rfl))
  (pss_one (ps_if (t_not (t_chain op_leV op_leV d_int (d_idx (d_var 1) (d_var 3)) (d_glob hc_MOST_HEIGHT ⟨_, rfl⟩)))
  (pss_one ps_never)
  pss_nil)))
  (pss_cons (d_for po rfl (f_rng1 T.m_range (d_var 2)) (pg_name (i := 4) sc.nd rfl (by first | exact .inl rfl | exact .inr rfl))
  (pss_one (d_for po rfl (f_rng1 T.m_range (d_var 4)) (pg_name (i := 5) sc.nd rfl (by first | exact .inl rfl | exact .inr rfl))
  (pss_one (ps_if (t_cmp op_eqSV (d_bin op_modV (d_bin op_subV (d_bin op_subV (d_bin op_addV (d_var 4) (d_idx (d_var 1) (d_var 4))) (d_var 5)) (d_idx (d_var 1) (d_var 5))) (d_var 2)) d_int)
  (pss_one ps_never)
  pss_nil)))))
  (pss_cons (ps_set (i := 6) sc.nd rfl (by first | exact .inl rfl | exact .inr rfl) (d_bin op_divV (d_cb (c_sum rfl) T.m_sum (by decide +kernel) (a_cons (d_var 1) a_nil)) (d_var 2)))
  (pss_cons (ps_if (t_cmp op_gtV (d_var 6) (d_con T.g_Cast T.rd_Cast hk_Cast_MOST_BALLS))
  (pss_one ps_never)
  pss_nil)
  (pss_one (s_setF T.cl_Cast T.n_Cast__heights (d_var 0) (d_ct c_tuple T.m_tuple boot_tuple (a_cons (d_var 1) a_nil))))))))))
theorem ok_Cast___init__ (T : Txt c mg) (F : ∃ fd, FunD c.K "__init__" "Cast.__init__" (defArgs s_Cast___init__) (defBody s_Cast___init__) (defScope s_Cast___init__) [] [] (He.ma c.K c.Cast "__init__") fd)  : Fn P w c.K mg base 1 (He.ma c.K c.Cast "__init__") ["self", "heights"] (sp_Cast___init__ c) := by
  obtain ⟨fd, F⟩ := F
  exact Fn.mk' (t := fun E => t_Cast___init__ c E) F sc_Cast___init__ (fun vs H Q E h => by obtain ⟨_, _, _, _, _, _, rfl, _⟩ := h; rfl) (fun _ _ _ _ _ _ us hl => match us, hl with | [_, _], _ => rfl) (fun cdv A outer s H E hr => der_Cast___init__ T hr ) (fun vs H Q E h => sem_Cast_init h)
abbrev n_Cast_none : List Str := ["places", "_"]
abbrev s_Cast_none : Stmt := inC (topS 59) 3
theorem sc_Cast_none : FnScope ["places", "_"] ["places"] (defScope s_Cast_none) := ⟨rfl, rfl, rfl, by decide +kernel, rfl, by decide +kernel, by decide +kernel⟩
theorem der_Cast_none {f : Addr} {cdv : Value} {A : Around} {outer : List Env} {s : Shared} {H : Hp} {E : XK} (T : Txt c mg) (hr : Room 2 (A.deeper (envOfC "Cast.none" (defScope s_Cast_none) s.heap.objs.size f cdv))) (Fo_check_places : Fn P w c.K mg base 1 (He.ga c.K "check_places") ["places"] (sp_check_places c)) (Fo_Cast___init__ : Fn P w c.K mg base 1 (He.ma c.K c.Cast "__init__") ["self", "heights"] (sp_Cast___init__ c)) :
    PSs (cxOf (L2.CX P w) P w c.K mg base ["places", "_"] "Cast.none" (defScope s_Cast_none) f cdv A outer s H E) (defBody s_Cast_none) (t_Cast_none c E) := by
  have sc := sc_Cast_none
  have hu := hr.units
  have po := po_cx (CX := L2.CX P w) (P := P) (w := w) (K := c.K) (mg := mg) (base := base) (N := ["places", "_"]) (qual := "Cast.none") (scope := defScope s_Cast_none) (f := f) (cd := cdv) (A := A) (outer := outer) (s := s) (H := H) (E := E)
  have px := px_cx (P := P) (w := w) (K := c.K) (mg := mg) (base := base) (N := ["places", "_"]) (qual := "Cast.none") (scope := defScope s_Cast_none) (f := f) (cd := cdv) (A := A) (outer := outer) (s := s) (H := H) (E := E)
  exact (pss_cons (ps_expr (Fo_check_places.call T.g_check_places (hr.mono (by decide)) px (a_cons (d_var 0) a_nil)))
  (pss_one (ps_ret (Fo_Cast___init__.make T.mk_Cast T.g_Cast (hr.mono (by decide)) px (a_cons (d_comp (own := [("_", 1)]) rfl sc.nd (blkOk_by (N := n_Cast_none) (sc := defScope s_Cast_none) (by decide +kernel)) (f_rng1 T.m_range (d_var 0)) (fun _ _ _ _ _ => (pg_name (i := 1) sc.nd rfl (by first | exact .inl rfl | exact .inr rfl))) (fun _ _ _ _ _ => pts_nil) (fun _ _ _ _ _ => d_int)) a_nil)))))
theorem ok_Cast_none (T : Txt c mg) (F : ∃ fd, FunD c.K "none" "Cast.none" (defArgs s_Cast_none) (defBody s_Cast_none) (defScope s_Cast_none) [] [] (Fx.wfA c.K c.Cast "staticmethod" "none") fd) (Fo_check_places : Fn P w c.K mg base 1 (He.ga c.K "check_places") ["places"] (sp_check_places c)) (Fo_Cast___init__ : Fn P w c.K mg base 1 (He.ma c.K c.Cast "__init__") ["self", "heights"] (sp_Cast___init__ c)) : Fn P w c.K mg base 3 (Fx.wfA c.K c.Cast "staticmethod" "none") ["places"] (sp_Cast_none c) := by
  obtain ⟨fd, F⟩ := F
  exact Fn.mk' (t := fun E => t_Cast_none c E) F sc_Cast_none (fun vs H Q E h => by obtain ⟨_, rfl, _⟩ := h; rfl) (fun _ _ _ _ _ _ us hl => match us, hl with | [_], _ => rfl) (fun cdv A outer s H E hr => der_Cast_none T hr Fo_check_places Fo_Cast___init__) (fun vs H Q E h => sem_Cast_none h)
abbrev n_Cast_places : List Str := ["self"]
abbrev s_Cast_places : Stmt := inC (topS 59) 9
theorem sc_Cast_places : FnScope ["self"] ["self"] (defScope s_Cast_places) := ⟨rfl, rfl, rfl, by decide +kernel, rfl, by decide +kernel, by decide +kernel⟩
theorem der_Cast_places {f : Addr} {cdv : Value} {A : Around} {outer : List Env} {s : Shared} {H : Hp} {E : XK} (T : Txt c mg) (hr : Room 0 (A.deeper (envOfC "Cast.places" (defScope s_Cast_places) s.heap.objs.size f cdv)))  :
    PSs (cxOf (L2.CX P w) P w c.K mg base ["self"] "Cast.places" (defScope s_Cast_places) f cdv A outer s H E) (defBody s_Cast_places) (t_Cast_places c E) := by
  have sc := sc_Cast_places
  have hu := hr.units
  have po := po_cx (CX := L2.CX P w) (P := P) (w := w) (K := c.K) (mg := mg) (base := base) (N := ["self"]) (qual := "Cast.places") (scope := defScope s_Cast_places) (f := f) (cd := cdv) (A := A) (outer := outer) (s := s) (H := H) (E := E)
  have px := px_cx (P := P) (w := w) (K := c.K) (mg := mg) (base := base) (N := ["self"]) (qual := "Cast.places") (scope := defScope s_Cast_places) (f := f) (cd := cdv) (A := A) (outer := outer) (s := s) (H := H) (E := E)
  exact (pss_one (ps_ret (d_cb c_len T.m_len boot_len (a_cons (d_fld T.cl_Cast T.n_Cast__heights (d_var 0)) a_nil))))
theorem ok_Cast_places (T : Txt c mg) (F : ∃ fd, FunD c.K "places" "Cast.places" (defArgs s_Cast_places) (defBody s_Cast_places) (defScope s_Cast_places) [] [] (Fx.wfA c.K c.Cast "property" "places") fd)  : Fn P w c.K mg base 1 (Fx.wfA c.K c.Cast "property" "places") ["self"] (sp_Cast_places c) := by
  obtain ⟨fd, F⟩ := F
  exact Fn.mk' (t := fun E => t_Cast_places c E) F sc_Cast_places (fun vs H Q E h => by obtain ⟨_, _, _, rfl, _⟩ := h; rfl) (fun _ _ _ _ _ _ us hl => match us, hl with | [_], _ => rfl) (fun cdv A outer s H E hr => der_Cast_places T hr ) (fun vs H Q E h => sem_Cast_places h)
abbrev n_Cast_balls : List Str := ["self"]
abbrev s_Cast_balls : Stmt := inC (topS 59) 10
theorem sc_Cast_balls : FnScope ["self"] ["self"] (defScope s_Cast_balls) := ⟨rfl, rfl, rfl, by decide +kernel, rfl, by decide +kernel, by decide +kernel⟩
theorem der_Cast_balls {f : Addr} {cdv : Value} {A : Around} {outer : List Env} {s : Shared} {H : Hp} {E : XK} (T : Txt c mg) (hr : Room 0 (A.deeper (envOfC "Cast.balls" (defScope s_Cast_balls) s.heap.objs.size f cdv)))  :
    PSs (cxOf (L2.CX P w) P w c.K mg base ["self"] "Cast.balls" (defScope s_Cast_balls) f cdv A outer s H E) (defBody s_Cast_balls) (t_Cast_balls c E) := by
  have sc := sc_Cast_balls
  have hu := hr.units
  have po := po_cx (CX := L2.CX P w) (P := P) (w := w) (K := c.K) (mg := mg) (base := base) (N := ["self"]) (qual := "Cast.balls") (scope := defScope s_Cast_balls) (f := f) (cd := cdv) (A := A) (outer := outer) (s := s) (H := H) (E := E)
  have px := px_cx (P := P) (w := w) (K := c.K) (mg := mg) (base := base) (N := ["self"]) (qual := "Cast.balls") (scope := defScope s_Cast_balls) (f := f) (cd := cdv) (A := A) (outer := outer) (s := s) (H := H) (E := E)
  exact (pss_one (ps_ret (d_bin op_divV (d_cb (c_sum rfl) T.m_sum (by decide +kernel) (a_cons (d_fld T.cl_Cast T.n_Cast__heights (d_var 0)) a_nil)) (d_cb c_len T.m_len boot_len (a_cons (d_fld T.cl_Cast T.n_Cast__heights (d_var 0)) a_nil)))))
theorem ok_Cast_balls (T : Txt c mg) (F : ∃ fd, FunD c.K "balls" "Cast.balls" (defArgs s_Cast_balls) (defBody s_Cast_balls) (defScope s_Cast_balls) [] [] (Fx.wfA c.K c.Cast "property" "balls") fd)  : Fn P w c.K mg base 1 (Fx.wfA c.K c.Cast "property" "balls") ["self"] (sp_Cast_balls c) := by
  obtain ⟨fd, F⟩ := F
  exact Fn.mk' (t := fun E => t_Cast_balls c E) F sc_Cast_balls (fun vs H Q E h => by obtain ⟨_, _, _, _, rfl, _⟩ := h; rfl) (fun _ _ _ _ _ _ us hl => match us, hl with | [_], _ => rfl) (fun cdv A outer s H E hr => der_Cast_balls T hr ) (fun vs H Q E h => sem_Cast_balls h)
abbrev n_Cast_heights : List Str := ["self"]
abbrev s_Cast_heights : Stmt := inC (topS 59) 11
theorem sc_Cast_heights : FnScope ["self"] ["self"] (defScope s_Cast_heights) := ⟨rfl, rfl, rfl, by decide +kernel, rfl, by decide +kernel, by decide +kernel⟩
theorem der_Cast_heights {f : Addr} {cdv : Value} {A : Around} {outer : List Env} {s : Shared} {H : Hp} {E : XK} (T : Txt c mg) (hr : Room 0 (A.deeper (envOfC "Cast.heights" (defScope s_Cast_heights) s.heap.objs.size f cdv)))  :
    PSs (cxOf (L2.CX P w) P w c.K mg base ["self"] "Cast.heights" (defScope s_Cast_heights) f cdv A outer s H E) (defBody s_Cast_heights) (t_Cast_heights c E) := by
  have sc := sc_Cast_heights
  have hu := hr.units
  have po := po_cx (CX := L2.CX P w) (P := P) (w := w) (K := c.K) (mg := mg) (base := base) (N := ["self"]) (qual := "Cast.heights") (scope := defScope s_Cast_heights) (f := f) (cd := cdv) (A := A) (outer := outer) (s := s) (H := H) (E := E)
  have px := px_cx (P := P) (w := w) (K := c.K) (mg := mg) (base := base) (N := ["self"]) (qual := "Cast.heights") (scope := defScope s_Cast_heights) (f := f) (cd := cdv) (A := A) (outer := outer) (s := s) (H := H) (E := E)
  exact (pss_one (ps_ret (d_ct c_list T.m_list boot_list (a_cons (d_fld T.cl_Cast T.n_Cast__heights (d_var 0)) a_nil))))
theorem ok_Cast_heights (T : Txt c mg) (F : ∃ fd, FunD c.K "heights" "Cast.heights" (defArgs s_Cast_heights) (defBody s_Cast_heights) (defScope s_Cast_heights) [] [] (Fx.wfA c.K c.Cast "property" "heights") fd)  : Fn P w c.K mg base 1 (Fx.wfA c.K c.Cast "property" "heights") ["self"] (sp_Cast_heights c) := by
  obtain ⟨fd, F⟩ := F
  exact Fn.mk' (t := fun E => t_Cast_heights c E) F sc_Cast_heights (fun vs H Q E h => by obtain ⟨_, _, _, rfl, _⟩ := h; rfl) (fun _ _ _ _ _ _ us hl => match us, hl with | [_], _ => rfl) (fun cdv A outer s H E hr => der_Cast_heights T hr ) (fun vs H Q E h => sem_Cast_heights h)
abbrev n_Cast_count : List Str := ["self", "begin", "end"]
abbrev s_Cast_count : Stmt := inC (topS 59) 16
theorem sc_Cast_count : FnScope ["self", "begin", "end"] ["self", "begin", "end"] (defScope s_Cast_count) := ⟨rfl, rfl, rfl, by decide +kernel, rfl, by decide +kernel, by decide +kernel⟩
theorem der_Cast_count {f : Addr} {cdv : Value} {A : Around} {outer : List Env} {s : Shared} {H : Hp} {E : XK} (T : Txt c mg) (hr : Room 2 (A.deeper (envOfC "Cast.count" (defScope s_Cast_count) s.heap.objs.size f cdv))) (Fo_Cast_heights : Fn P w c.K mg base 1 (Fx.wfA c.K c.Cast "property" "heights") ["self"] (sp_Cast_heights c)) (Fo_count_between : Fn P w c.K mg base 2 (He.ga c.K "count_between") ["heights", "begin", "end"] (sp_count_between c)) :
    PSs (cxOf (L2.CX P w) P w c.K mg base ["self", "begin", "end"] "Cast.count" (defScope s_Cast_count) f cdv A outer s H E) (defBody s_Cast_count) (t_Cast_count c E) := by
  have sc := sc_Cast_count
  have hu := hr.units
  have po := po_cx (CX := L2.CX P w) (P := P) (w := w) (K := c.K) (mg := mg) (base := base) (N := ["self", "begin", "end"]) (qual := "Cast.count") (scope := defScope s_Cast_count) (f := f) (cd := cdv) (A := A) (outer := outer) (s := s) (H := H) (E := E)
  have px := px_cx (P := P) (w := w) (K := c.K) (mg := mg) (base := base) (N := ["self", "begin", "end"]) (qual := "Cast.count") (scope := defScope s_Cast_count) (f := f) (cd := cdv) (A := A) (outer := outer) (s := s) (H := H) (E := E)
  exact (pss_one (ps_ret (Fo_count_between.call T.g_count_between (hr.mono (by decide)) px (a_cons (Fo_Cast_heights.prop T.cl_Cast T.pr_Cast_heights (hr.mono (by decide)) (d_var 0)) (a_cons (d_var 1) (a_cons (d_var 2) a_nil))))))
theorem ok_Cast_count (T : Txt c mg) (F : ∃ fd, FunD c.K "count" "Cast.count" (defArgs s_Cast_count) (defBody s_Cast_count) (defScope s_Cast_count) [] [] (He.ma c.K c.Cast "count") fd) (Fo_Cast_heights : Fn P w c.K mg base 1 (Fx.wfA c.K c.Cast "property" "heights") ["self"] (sp_Cast_heights c)) (Fo_count_between : Fn P w c.K mg base 2 (He.ga c.K "count_between") ["heights", "begin", "end"] (sp_count_between c)) : Fn P w c.K mg base 3 (He.ma c.K c.Cast "count") ["self", "begin", "end"] (sp_Cast_count c) := by
  obtain ⟨fd, F⟩ := F
  exact Fn.mk' (t := fun E => t_Cast_count c E) F sc_Cast_count (fun vs H Q E h => by obtain ⟨_, _, _, _, _, _, rfl, _⟩ := h; rfl) (fun _ _ _ _ _ _ us hl => match us, hl with | [_, _, _], _ => rfl) (fun cdv A outer s H E hr => der_Cast_count T hr Fo_Cast_heights Fo_count_between) (fun vs H Q E h => sem_Cast_count h)
abbrev n_check_like : List Str := ["first", "second"]
abbrev s_check_like : Stmt := topS 27
theorem sc_check_like : FnScope ["first", "second"] ["first", "second"] (defScope s_check_like) := ⟨rfl, rfl, rfl, by decide +kernel, rfl, by decide +kernel, by decide +kernel⟩
theorem der_check_like {f : Addr} {cdv : Value} {A : Around} {outer : List Env} {s : Shared} {H : Hp} {E : XK} (T : Txt c mg) (hr : Room 2 (A.deeper (envOfC "check_like" (defScope s_check_like) s.heap.objs.size f cdv))) (Fo_Cast_places : Fn P w c.K mg base 1 (Fx.wfA c.K c.Cast "property" "places") ["self"] (sp_Cast_places c)) :
    PSs (cxOf (L2.CX P w) P w c.K mg base ["first", "second"] "check_like" (defScope s_check_like) f cdv A outer s H E) (defBody s_check_like) (t_check_like c E) := by
  have sc := sc_check_like
  have hu := hr.units
  have po := po_cx (CX := L2.CX P w) (P := P) (w := w) (K := c.K) (mg := mg) (base := base) (N := ["first", "second"]) (qual := "check_like") (scope := defScope s_check_like) (f := f) (cd := cdv) (A := A) (outer := outer) (s := s) (H := H) (E := E)
  have px := px_cx (P := P) (w := w) (K := c.K) (mg := mg) (base := base) (N := ["first", "second"]) (qual := "check_like") (scope := defScope s_check_like) (f := f) (cd := cdv) (A := A) (outer := outer) (s := s) (H := H) (E := E)
  exact (pss_one (ps_if (t_cmp op_neSV (Fo_Cast_places.prop T.cl_Cast T.pr_Cast_places (hr.mono (by decide)) (d_var 0)) (Fo_Cast_places.prop T.cl_Cast T.pr_Cast_places (hr.mono (by decide)) (d_var 1)))
  (pss_one ps_never)
  pss_nil))
theorem ok_check_like (T : Txt c mg) (F : ∃ fd, FunD c.K "check_like" "check_like" (defArgs s_check_like) (defBody s_check_like) (defScope s_check_like) [] [] (He.ga c.K "check_like") fd) (Fo_Cast_places : Fn P w c.K mg base 1 (Fx.wfA c.K c.Cast "property" "places") ["self"] (sp_Cast_places c)) : Fn P w c.K mg base 3 (He.ga c.K "check_like") ["first", "second"] (sp_check_like c) := by
  obtain ⟨fd, F⟩ := F
  exact Fn.mk' (t := fun E => t_check_like c E) F sc_check_like (fun vs H Q E h => by obtain ⟨_, _, _, _, _, rfl, _⟩ := h; rfl) (fun _ _ _ _ _ _ us hl => match us, hl with | [_, _], _ => rfl) (fun cdv A outer s H E hr => der_check_like T hr Fo_Cast_places) (fun vs H Q E h => sem_check_like h)
abbrev n_Cast___mul__ : List Str := ["self", "other", "amount"]
abbrev s_Cast___mul__ : Stmt := inC (topS 59) 18
theorem sc_Cast___mul__ : FnScope ["self", "other", "amount"] ["self", "other"] (defScope s_Cast___mul__) := ⟨rfl, rfl, rfl, by decide +kernel, rfl, by decide +kernel, by decide +kernel⟩
theorem der_Cast___mul__ {f : Addr} {cdv : Value} {A : Around} {outer : List Env} {s : Shared} {H : Hp} {E : XK} (T : Txt c mg) (hr : Room 5 (A.deeper (envOfC "Cast.__mul__" (defScope s_Cast___mul__) s.heap.objs.size f cdv))) (Fo_check_like : Fn P w c.K mg base 3 (He.ga c.K "check_like") ["first", "second"] (sp_check_like c)) (Fo_Cast_balls : Fn P w c.K mg base 1 (Fx.wfA c.K c.Cast "property" "balls") ["self"] (sp_Cast_balls c)) (Fo_Cast_heights : Fn P w c.K mg base 1 (Fx.wfA c.K c.Cast "property" "heights") ["self"] (sp_Cast_heights c)) (Fo_product_heights : Fn P w c.K mg base 5 (He.ga c.K "product_heights") ["first", "second"] (sp_product_heights c)) (Fo_Cast___init__ : Fn P w c.K mg base 1 (He.ma c.K c.Cast "__init__") ["self", "heights"] (sp_Cast___init__ c)) :
    PSs (cxOf (L2.CX P w) P w c.K mg base ["self", "other", "amount"] "Cast.__mul__" (defScope s_Cast___mul__) f cdv A outer s H E) (defBody s_Cast___mul__) (t_Cast___mul__ c E) := by
  have sc := sc_Cast___mul__
  have hu := hr.units
  have po := po_cx (CX := L2.CX P w) (P := P) (w := w) (K := c.K) (mg := mg) (base := base) (N := ["self", "other", "amount"]) (qual := "Cast.__mul__") (scope := defScope s_Cast___mul__) (f := f) (cd := cdv) (A := A) (outer := outer) (s := s) (H := H) (E := E)
  have px := px_cx (P := P) (w := w) (K := c.K) (mg := mg) (base := base) (N := ["self", "other", "amount"]) (qual := "Cast.__mul__") (scope := defScope s_Cast___mul__) (f := f) (cd := cdv) (A := A) (outer := outer) (s := s) (H := H) (E := E)
  obtain ⟨_, hk_Cast_MOST_BALLS⟩ := T.k_Cast_MOST_BALLS
  exact (pss_cons (ps_expr (Fo_check_like.call T.g_check_like (hr.mono (by decide)) px (a_cons (d_var 0) (a_cons (d_var 1) a_nil))))
  (pss_cons (ps_set (i := 2) sc.nd rfl (by first | exact .inl rfl | exact .inr rfl) (d_bin op_addV (Fo_Cast_balls.prop T.cl_Cast T.pr_Cast_balls (hr.mono (by decide)) (d_var 0)) (Fo_Cast_balls.prop T.cl_Cast T.pr_Cast_balls (hr.mono (by decide)) (d_var 1))))
  (pss_cons (ps_if (t_cmp op_gtV (d_var 2) (d_con T.g_Cast T.rd_Cast hk_Cast_MOST_BALLS))
  (pss_one ps_never)
  pss_nil)
  (pss_one (ps_ret (Fo_Cast___init__.make T.mk_Cast T.g_Cast (hr.mono (by decide)) px (a_cons (Fo_product_heights.call T.g_product_heights (hr.mono (by decide)) px (a_cons (Fo_Cast_heights.prop T.cl_Cast T.pr_Cast_heights (hr.mono (by decide)) (d_var 0)) (a_cons (Fo_Cast_heights.prop T.cl_Cast T.pr_Cast_heights (hr.mono (by decide)) (d_var 1)) a_nil))) a_nil)))))))
theorem ok_Cast___mul__ (T : Txt c mg) (F : ∃ fd, FunD c.K "__mul__" "Cast.__mul__" (defArgs s_Cast___mul__) (defBody s_Cast___mul__) (defScope s_Cast___mul__) [] [] (He.ma c.K c.Cast "__mul__") fd) (Fo_check_like : Fn P w c.K mg base 3 (He.ga c.K "check_like") ["first", "second"] (sp_check_like c)) (Fo_Cast_balls : Fn P w c.K mg base 1 (Fx.wfA c.K c.Cast "property" "balls") ["self"] (sp_Cast_balls c)) (Fo_Cast_heights : Fn P w c.K mg base 1 (Fx.wfA c.K c.Cast "property" "heights") ["self"] (sp_Cast_heights c)) (Fo_product_heights : Fn P w c.K mg base 5 (He.ga c.K "product_heights") ["first", "second"] (sp_product_heights c)) (Fo_Cast___init__ : Fn P w c.K mg base 1 (He.ma c.K c.Cast "__init__") ["self", "heights"] (sp_Cast___init__ c)) : Fn P w c.K mg base 6 (He.ma c.K c.Cast "__mul__") ["self", "other"] (sp_Cast___mul__ c) := by
  obtain ⟨fd, F⟩ := F
  exact Fn.mk' (t := fun E => t_Cast___mul__ c E) F sc_Cast___mul__ (fun vs H Q E h => by obtain ⟨_, _, _, _, _, rfl, _⟩ := h; rfl) (fun _ _ _ _ _ _ us hl => match us, hl with | [_, _], _ => rfl) (fun cdv A outer s H E hr => der_Cast___mul__ T hr Fo_check_like Fo_Cast_balls Fo_Cast_heights Fo_product_heights Fo_Cast___init__) (fun vs H Q E h => sem_Cast_mul h)
abbrev n_is_rising : List Str := ["word", "before", "letter"]
abbrev s_is_rising : Stmt := topS 76
theorem sc_is_rising : FnScope ["word", "before", "letter"] ["word"] (defScope s_is_rising) := ⟨rfl, rfl, rfl, by decide +kernel, rfl, by decide +kernel, by decide +kernel⟩
theorem der_is_rising {f : Addr} {cdv : Value} {A : Around} {outer : List Env} {s : Shared} {H : Hp} {E : XK} (T : Txt c mg) (hr : Room 0 (A.deeper (envOfC "is_rising" (defScope s_is_rising) s.heap.objs.size f cdv)))  :
    PSs (cxOf (L2.CX P w) P w c.K mg base ["word", "before", "letter"] "is_rising" (defScope s_is_rising) f cdv A outer s H E) (defBody s_is_rising) (t_is_rising c E) := by
  have sc := sc_is_rising
  have hu := hr.units
  have po := po_cx (CX := L2.CX P w) (P := P) (w := w) (K := c.K) (mg := mg) (base := base) (N := ["word", "before", "letter"]) (qual := "is_rising") (scope := defScope s_is_rising) (f := f) (cd := cdv) (A := A) (outer := outer) (s := s) (H := H) (E := E)
  have px := px_cx (P := P) (w := w) (K := c.K) (mg := mg) (base := base) (N := ["word", "before", "letter"]) (qual := "is_rising") (scope := defScope s_is_rising) (f := f) (cd := cdv) (A := A) (outer := outer) (s := s) (H := H) (E := E)
  obtain ⟨_, hc_LETTERS⟩ := T.c_LETTERS
  exact (pss_cons (ps_set (i := 1) sc.nd rfl (by first | exact .inl rfl | exact .inr rfl) d_str)
  (pss_cons (d_for po rfl (f_str (d_var 0)) (pg_name (i := 2) sc.nd rfl (by first | exact .inl rfl | exact .inr rfl))
  (pss_cons (ps_if (t_or (t_cmp op_ninVV (d_var 2) (d_glob hc_LETTERS ⟨_, rfl⟩)) (t_cmp op_leV (d_var 2) (d_var 1)))
  (pss_one (ps_ret d_bl))
  pss_nil)
  (pss_one (ps_set (i := 1) sc.nd rfl (by first | exact .inl rfl | exact .inr rfl) (d_var 2)))))
  (pss_one (ps_ret d_bl))))
theorem ok_is_rising (T : Txt c mg) (F : ∃ fd, FunD c.K "is_rising" "is_rising" (defArgs s_is_rising) (defBody s_is_rising) (defScope s_is_rising) [] [] (He.ga c.K "is_rising") fd)  : Fn P w c.K mg base 1 (He.ga c.K "is_rising") ["word"] (sp_is_rising c) := by
  obtain ⟨fd, F⟩ := F
  exact Fn.mk' (t := fun E => t_is_rising c E) F sc_is_rising (fun vs H Q E h => by obtain ⟨_, rfl, _⟩ := h; rfl) (fun _ _ _ _ _ _ us hl => match us, hl with | [_], _ => rfl) (fun cdv A outer s H E hr => der_is_rising T hr ) (fun vs H Q E h => sem_is_rising h)
abbrev n_Calendar___init__ : List Str := ["self", "words", "place", "word"]
abbrev s_Calendar___init__ : Stmt := inC (topS 77) 0
theorem sc_Calendar___init__ : FnScope ["self", "words", "place", "word"] ["self", "words"] (defScope s_Calendar___init__) := ⟨rfl, rfl, rfl, by decide +kernel, rfl, by decide +kernel, by decide +kernel⟩
theorem der_Calendar___init__ {f : Addr} {cdv : Value} {A : Around} {outer : List Env} {s : Shared} {H : Hp} {E : XK} (T : Txt c mg) (hr : Room 1 (A.deeper (envOfC "Calendar.__init__" (defScope s_Calendar___init__) s.heap.objs.size f cdv))) (Fo_is_rising : Fn P w c.K mg base 1 (He.ga c.K "is_rising") ["word"] (sp_is_rising c)) :
    PSs (cxOf (L2.CX P w) P w c.K mg base ["self", "words", "place", "word"] "Calendar.__init__" (defScope s_Calendar___init__) f cdv A outer s H E) (defBody s_Calendar___init__) (t_Calendar___init__ c E) := by
  have sc := sc_Calendar___init__
  have hu := hr.units
  have po := po_cx (CX := L2.CX P w) (P := P) (w := w) (K := c.K) (mg := mg) (base := base) (N := ["self", "words", "place", "word"]) (qual := "Calendar.__init__") (scope := defScope s_Calendar___init__) (f := f) (cd := cdv) (A := A) (outer := outer) (s := s) (H := H) (E := E)
  have px := px_cx (P := P) (w := w) (K := c.K) (mg := mg) (base := base) (N := ["self", "words", "place", "word"]) (qual := "Calendar.__init__") (scope := defScope s_Calendar___init__) (f := f) (cd := cdv) (A := A) (outer := outer) (s := s) (H := H) (E := E)
  obtain ⟨_, hc_MOST_PLACES⟩ := T.c_MOST_PLACES
  exact (pss_cons (ps_if (t_not (t_chain op_leV op_leV d_int (d_cb c_len T.m_len boot_len (a_cons (d_var 1) a_nil)) (d_glob hc_MOST_PLACES ⟨_, rfl⟩)))
  (pss_one ps_never)
  pss_nil)
  (pss_cons (d_for po rfl (f_enum T.m_enumerate (d_var 1)) (g_two rfl (pgs_cons (pg_name (i := 2) sc.nd rfl (by first | exact .inl rfl | exact .inr rfl)) (pgs_cons (pg_name (i := 3) sc.nd rfl (by first | exact .inl rfl | exact .inr rfl)) pgs_nil)))
  (pss_one (ps_if (t_not (t_val (Fo_is_rising.call T.g_is_rising (hr.mono (by decide)) px (a_cons (d_var 3) a_nil))))
  (pss_one ps_never)
  pss_nil)))
  (pss_one (s_setF T.cl_Calendar T.n_Calendar__words (d_var 0) (d_ct c_list T.m_list boot_list (a_cons (d_var 1) a_nil))))))
theorem ok_Calendar___init__ (T : Txt c mg) (F : ∃ fd, FunD c.K "__init__" "Calendar.__init__" (defArgs s_Calendar___init__) (defBody s_Calendar___init__) (defScope s_Calendar___init__) [] [] (He.ma c.K c.Calendar "__init__") fd) (Fo_is_rising : Fn P w c.K mg base 1 (He.ga c.K "is_rising") ["word"] (sp_is_rising c)) : Fn P w c.K mg base 2 (He.ma c.K c.Calendar "__init__") ["self", "words"] (sp_Calendar___init__ c) := by
  obtain ⟨fd, F⟩ := F
  exact Fn.mk' (t := fun E => t_Calendar___init__ c E) F sc_Calendar___init__ (fun vs H Q E h => by obtain ⟨_, _, _, _, rfl, _⟩ := h; rfl) (fun _ _ _ _ _ _ us hl => match us, hl with | [_, _], _ => rfl) (fun cdv A outer s H E hr => der_Calendar___init__ T hr Fo_is_rising) (fun vs H Q E h => sem_Calendar_init h)
abbrev n_Calendar_every : List Str := ["places", "words", "place", "code", "signs"]
abbrev s_Calendar_every : Stmt := inC (topS 77) 2
theorem sc_Calendar_every : FnScope ["places", "words", "place", "code", "signs"] ["places"] (defScope s_Calendar_every) := ⟨rfl, rfl, rfl, by decide +kernel, rfl, by decide +kernel, by decide +kernel⟩
theorem der_Calendar_every {f : Addr} {cdv : Value} {A : Around} {outer : List Env} {s : Shared} {H : Hp} {E : XK} (T : Txt c mg) (hr : Room 3 (A.deeper (envOfC "Calendar.every" (defScope s_Calendar_every) s.heap.objs.size f cdv))) (Fo_Calendar___init__ : Fn P w c.K mg base 2 (He.ma c.K c.Calendar "__init__") ["self", "words"] (sp_Calendar___init__ c)) :
    PSs (cxOf (L2.CX P w) P w c.K mg base ["places", "words", "place", "code", "signs"] "Calendar.every" (defScope s_Calendar_every) f cdv A outer s H E) (defBody s_Calendar_every) (t_Calendar_every c E) := by
  have sc := sc_Calendar_every
  have hu := hr.units
  have po := po_cx (CX := L2.CX P w) (P := P) (w := w) (K := c.K) (mg := mg) (base := base) (N := ["places", "words", "place", "code", "signs"]) (qual := "Calendar.every") (scope := defScope s_Calendar_every) (f := f) (cd := cdv) (A := A) (outer := outer) (s := s) (H := H) (E := E)
  have px := px_cx (P := P) (w := w) (K := c.K) (mg := mg) (base := base) (N := ["places", "words", "place", "code", "signs"]) (qual := "Calendar.every") (scope := defScope s_Calendar_every) (f := f) (cd := cdv) (A := A) (outer := outer) (s := s) (H := H) (E := E)
  obtain ⟨_, hc_LETTERS⟩ := T.c_LETTERS
  obtain ⟨_, hc_MOST_EVERY⟩ := T.c_MOST_EVERY
  exact (pss_cons (ps_if (t_not (t_chain op_leV op_leV d_int (d_var 0) (d_glob hc_MOST_EVERY ⟨_, rfl⟩)))
  (pss_one ps_never)
  pss_nil)
  (pss_cons (ps_set (i := 1) sc.nd rfl (by first | exact .inl rfl | exact .inr rfl) (d_list a_nil))
  (pss_cons (d_for po rfl (f_rng1 T.m_range (d_var 0)) (pg_name (i := 2) sc.nd rfl (by first | exact .inl rfl | exact .inr rfl))
  (pss_cons (by first | exact (s_setLc (i := 4) (own := [("code", 3)]) rfl sc.nd (blkOk_by (N := n_Calendar_every) (sc := defScope s_Calendar_every) (by decide +kernel)) rfl rfl (sw_true rfl rfl rfl (by decide +kernel)) (f_rng2 T.m_range d_int (d_bin op_shlV d_int (d_var 0))) (fun _ _ _ _ _ => (pg_name (i := 3) sc.nd rfl (by first | exact .inl rfl | exact .inr rfl))) (fun _ _ _ _ _ => (pts_one (t_cmp op_eqSV (d_bin op_bandV (d_bin op_shrV (d_var 3) (d_var 2)) d_int) d_int))) (fun _ _ _ _ _ => (d_idx (d_glob hc_LETTERS ⟨_, rfl⟩) (d_bin op_subV (d_var 3) d_int)))) | exact (ps_set (i := 4) sc.nd rfl (by first | exact .inl rfl | exact .inr rfl) (d_comp (own := [("code", 3)]) rfl sc.nd (blkOk_by (N := n_Calendar_every) (sc := defScope s_Calendar_every) (by decide +kernel)) (f_rng2 T.m_range d_int (d_bin op_shlV d_int (d_var 0))) (fun _ _ _ _ _ => (pg_name (i := 3) sc.nd rfl (by first | exact .inl rfl | exact .inr rfl))) (fun _ _ _ _ _ => (pts_one (t_cmp op_eqSV (d_bin op_bandV (d_bin op_shrV (d_var 3) (d_var 2)) d_int) d_int))) (fun _ _ _ _ _ => (d_idx (d_glob hc_LETTERS ⟨_, rfl⟩) (d_bin op_subV (d_var 3) d_int))))))
  (pss_one (ps_expr (d_lm PySem.F.plainAttrs_list PySem.F.slot_list_append PySem.F.type_list_append m_append (d_var 1) (a_cons (d_sm PySem.F.plainAttrs_str PySem.F.slot_str_join PySem.F.type_str_join m_join d_str (a_cons (d_var 4) a_nil)) a_nil))))))
  (pss_one (ps_ret (Fo_Calendar___init__.make T.mk_Calendar T.g_Calendar (hr.mono (by decide)) px (a_cons (d_var 1) a_nil)))))))
theorem ok_Calendar_every (T : Txt c mg) (F : ∃ fd, FunD c.K "every" "Calendar.every" (defArgs s_Calendar_every) (defBody s_Calendar_every) (defScope s_Calendar_every) [] [] (Fx.wfA c.K c.Calendar "staticmethod" "every") fd) (Fo_Calendar___init__ : Fn P w c.K mg base 2 (He.ma c.K c.Calendar "__init__") ["self", "words"] (sp_Calendar___init__ c)) : Fn P w c.K mg base 4 (Fx.wfA c.K c.Calendar "staticmethod" "every") ["places"] (sp_Calendar_every c) := by
  obtain ⟨fd, F⟩ := F
  exact Fn.mk' (t := fun E => t_Calendar_every c E) F sc_Calendar_every (fun vs H Q E h => by obtain ⟨_, rfl, _⟩ := h; rfl) (fun _ _ _ _ _ _ us hl => match us, hl with | [_], _ => rfl) (fun cdv A outer s H E hr => der_Calendar_every T hr Fo_Calendar___init__) (fun vs H Q E h => sem_Calendar_every h)
abbrev n_Calendar_places : List Str := ["self"]
abbrev s_Calendar_places : Stmt := inC (topS 77) 4
theorem sc_Calendar_places : FnScope ["self"] ["self"] (defScope s_Calendar_places) := ⟨rfl, rfl, rfl, by decide +kernel, rfl, by decide +kernel, by decide +kernel⟩
theorem der_Calendar_places {f : Addr} {cdv : Value} {A : Around} {outer : List Env} {s : Shared} {H : Hp} {E : XK} (T : Txt c mg) (hr : Room 0 (A.deeper (envOfC "Calendar.places" (defScope s_Calendar_places) s.heap.objs.size f cdv)))  :
    PSs (cxOf (L2.CX P w) P w c.K mg base ["self"] "Calendar.places" (defScope s_Calendar_places) f cdv A outer s H E) (defBody s_Calendar_places) (t_Calendar_places c E) := by
  have sc := sc_Calendar_places
  have hu := hr.units
  have po := po_cx (CX := L2.CX P w) (P := P) (w := w) (K := c.K) (mg := mg) (base := base) (N := ["self"]) (qual := "Calendar.places") (scope := defScope s_Calendar_places) (f := f) (cd := cdv) (A := A) (outer := outer) (s := s) (H := H) (E := E)
  have px := px_cx (P := P) (w := w) (K := c.K) (mg := mg) (base := base) (N := ["self"]) (qual := "Calendar.places") (scope := defScope s_Calendar_places) (f := f) (cd := cdv) (A := A) (outer := outer) (s := s) (H := H) (E := E)
  exact (pss_one (ps_ret (d_cb c_len T.m_len boot_len (a_cons (d_fld T.cl_Calendar T.n_Calendar__words (d_var 0)) a_nil))))
theorem ok_Calendar_places (T : Txt c mg) (F : ∃ fd, FunD c.K "places" "Calendar.places" (defArgs s_Calendar_places) (defBody s_Calendar_places) (defScope s_Calendar_places) [] [] (Fx.wfA c.K c.Calendar "property" "places") fd)  : Fn P w c.K mg base 1 (Fx.wfA c.K c.Calendar "property" "places") ["self"] (sp_Calendar_places c) := by
  obtain ⟨fd, F⟩ := F
  exact Fn.mk' (t := fun E => t_Calendar_places c E) F sc_Calendar_places (fun vs H Q E h => by obtain ⟨_, _, rfl, _⟩ := h; rfl) (fun _ _ _ _ _ _ us hl => match us, hl with | [_], _ => rfl) (fun cdv A outer s H E hr => der_Calendar_places T hr ) (fun vs H Q E h => sem_Calendar_places h)
abbrev n_Calendar_signs : List Str := ["self", "standing", "letter"]
abbrev s_Calendar_signs : Stmt := inC (topS 77) 5
theorem sc_Calendar_signs : FnScope ["self", "standing", "letter"] ["self"] (defScope s_Calendar_signs) := ⟨rfl, rfl, rfl, by decide +kernel, rfl, by decide +kernel, by decide +kernel⟩
theorem der_Calendar_signs {f : Addr} {cdv : Value} {A : Around} {outer : List Env} {s : Shared} {H : Hp} {E : XK} (T : Txt c mg) (hr : Room 0 (A.deeper (envOfC "Calendar.signs" (defScope s_Calendar_signs) s.heap.objs.size f cdv)))  :
    PSs (cxOf (L2.CX P w) P w c.K mg base ["self", "standing", "letter"] "Calendar.signs" (defScope s_Calendar_signs) f cdv A outer s H E) (defBody s_Calendar_signs) (t_Calendar_signs c E) := by
  have sc := sc_Calendar_signs
  have hu := hr.units
  have po := po_cx (CX := L2.CX P w) (P := P) (w := w) (K := c.K) (mg := mg) (base := base) (N := ["self", "standing", "letter"]) (qual := "Calendar.signs") (scope := defScope s_Calendar_signs) (f := f) (cd := cdv) (A := A) (outer := outer) (s := s) (H := H) (E := E)
  have px := px_cx (P := P) (w := w) (K := c.K) (mg := mg) (base := base) (N := ["self", "standing", "letter"]) (qual := "Calendar.signs") (scope := defScope s_Calendar_signs) (f := f) (cd := cdv) (A := A) (outer := outer) (s := s) (H := H) (E := E)
  obtain ⟨_, hc_LETTERS⟩ := T.c_LETTERS
  exact (pss_cons (ps_set (i := 1) sc.nd rfl (by first | exact .inl rfl | exact .inr rfl) (d_sm PySem.F.plainAttrs_str PySem.F.slot_str_join PySem.F.type_str_join m_join d_str (a_cons (d_fld T.cl_Calendar T.n_Calendar__words (d_var 0)) a_nil)))
  (pss_one (ps_ret (d_sm PySem.F.plainAttrs_str PySem.F.slot_str_join PySem.F.type_str_join m_join d_str (a_cons (d_comp (own := [("letter", 2)]) rfl sc.nd (blkOk_by (N := n_Calendar_signs) (sc := defScope s_Calendar_signs) (by decide +kernel)) (f_str (d_glob hc_LETTERS ⟨_, rfl⟩)) (fun _ _ _ _ _ => (pg_name (i := 2) sc.nd rfl (by first | exact .inl rfl | exact .inr rfl))) (fun _ _ _ _ _ => (pts_one (t_cmp op_inVV (d_var 2) (d_var 1)))) (fun _ _ _ _ _ => (d_var 2))) a_nil)))))
theorem ok_Calendar_signs (T : Txt c mg) (F : ∃ fd, FunD c.K "signs" "Calendar.signs" (defArgs s_Calendar_signs) (defBody s_Calendar_signs) (defScope s_Calendar_signs) [] [] (Fx.wfA c.K c.Calendar "property" "signs") fd)  : Fn P w c.K mg base 1 (Fx.wfA c.K c.Calendar "property" "signs") ["self"] (sp_Calendar_signs c) := by
  obtain ⟨fd, F⟩ := F
  exact Fn.mk' (t := fun E => t_Calendar_signs c E) F sc_Calendar_signs (fun vs H Q E h => by obtain ⟨_, _, rfl, _⟩ := h; rfl) (fun _ _ _ _ _ _ us hl => match us, hl with | [_], _ => rfl) (fun cdv A outer s H E hr => der_Calendar_signs T hr ) (fun vs H Q E h => sem_Calendar_signs h)
abbrev n_Calendar_stands : List Str := ["self", "sign", "places", "place", "word"]
abbrev s_Calendar_stands : Stmt := inC (topS 77) 6
theorem sc_Calendar_stands : FnScope ["self", "sign", "places", "place", "word"] ["self", "sign"] (defScope s_Calendar_stands) := ⟨rfl, rfl, rfl, by decide +kernel, rfl, by decide +kernel, by decide +kernel⟩
theorem der_Calendar_stands {f : Addr} {cdv : Value} {A : Around} {outer : List Env} {s : Shared} {H : Hp} {E : XK} (T : Txt c mg) (hr : Room 0 (A.deeper (envOfC "Calendar.stands" (defScope s_Calendar_stands) s.heap.objs.size f cdv)))  :
    PSs (cxOf (L2.CX P w) P w c.K mg base ["self", "sign", "places", "place", "word"] "Calendar.stands" (defScope s_Calendar_stands) f cdv A outer s H E) (defBody s_Calendar_stands) (t_Calendar_stands c E) := by
  have sc := sc_Calendar_stands
  have hu := hr.units
  have po := po_cx (CX := L2.CX P w) (P := P) (w := w) (K := c.K) (mg := mg) (base := base) (N := ["self", "sign", "places", "place", "word"]) (qual := "Calendar.stands") (scope := defScope s_Calendar_stands) (f := f) (cd := cdv) (A := A) (outer := outer) (s := s) (H := H) (E := E)
  have px := px_cx (P := P) (w := w) (K := c.K) (mg := mg) (base := base) (N := ["self", "sign", "places", "place", "word"]) (qual := "Calendar.stands") (scope := defScope s_Calendar_stands) (f := f) (cd := cdv) (A := A) (outer := outer) (s := s) (H := H) (E := E)
  exact (pss_cons (ps_set (i := 2) sc.nd rfl (by first | exact .inl rfl | exact .inr rfl) (d_list a_nil))
  (pss_cons (d_for po rfl (f_enum T.m_enumerate (d_fld T.cl_Calendar T.n_Calendar__words (d_var 0))) (g_two rfl (pgs_cons (pg_name (i := 3) sc.nd rfl (by first | exact .inl rfl | exact .inr rfl)) (pgs_cons (pg_name (i := 4) sc.nd rfl (by first | exact .inl rfl | exact .inr rfl)) pgs_nil)))
  (pss_one (ps_if (t_and (t_cmp op_eqSV (d_cb c_len T.m_len boot_len (a_cons (d_var 1) a_nil)) d_int) (t_cmp op_inVV (d_var 1) (d_var 4)))
  (pss_one (ps_expr (d_lm PySem.F.plainAttrs_list PySem.F.slot_list_append PySem.F.type_list_append m_append (d_var 2) (a_cons (d_var 3) a_nil))))
  pss_nil)))
  (pss_cons (ps_if (t_cmp op_eqSV (d_cb c_len T.m_len boot_len (a_cons (d_var 2) a_nil)) d_int)
  (pss_one ps_never)
  pss_nil)
  (pss_one (ps_ret (d_var 2))))))
theorem ok_Calendar_stands (T : Txt c mg) (F : ∃ fd, FunD c.K "stands" "Calendar.stands" (defArgs s_Calendar_stands) (defBody s_Calendar_stands) (defScope s_Calendar_stands) [] [] (He.ma c.K c.Calendar "stands") fd)  : Fn P w c.K mg base 1 (He.ma c.K c.Calendar "stands") ["self", "sign"] (sp_Calendar_stands c) := by
  obtain ⟨fd, F⟩ := F
  exact Fn.mk' (t := fun E => t_Calendar_stands c E) F sc_Calendar_stands (fun vs H Q E h => by obtain ⟨_, _, _, rfl, _⟩ := h; rfl) (fun _ _ _ _ _ _ us hl => match us, hl with | [_, _], _ => rfl) (fun cdv A outer s H E hr => der_Calendar_stands T hr ) (fun vs H Q E h => sem_Calendar_stands h)
abbrev n_check_page : List Str := ["calendar", "page", "known", "index"]
abbrev s_check_page : Stmt := topS 26
theorem sc_check_page : FnScope ["calendar", "page", "known", "index"] ["calendar", "page"] (defScope s_check_page) := ⟨rfl, rfl, rfl, by decide +kernel, rfl, by decide +kernel, by decide +kernel⟩
theorem der_check_page {f : Addr} {cdv : Value} {A : Around} {outer : List Env} {s : Shared} {H : Hp} {E : XK} (T : Txt c mg) (hr : Room 2 (A.deeper (envOfC "check_page" (defScope s_check_page) s.heap.objs.size f cdv))) (Fo_Calendar_signs : Fn P w c.K mg base 1 (Fx.wfA c.K c.Calendar "property" "signs") ["self"] (sp_Calendar_signs c)) :
    PSs (cxOf (L2.CX P w) P w c.K mg base ["calendar", "page", "known", "index"] "check_page" (defScope s_check_page) f cdv A outer s H E) (defBody s_check_page) (t_check_page c E) := by
  have sc := sc_check_page
  have hu := hr.units
  have po := po_cx (CX := L2.CX P w) (P := P) (w := w) (K := c.K) (mg := mg) (base := base) (N := ["calendar", "page", "known", "index"]) (qual := "check_page") (scope := defScope s_check_page) (f := f) (cd := cdv) (A := A) (outer := outer) (s := s) (H := H) (E := E)
  have px := px_cx (P := P) (w := w) (K := c.K) (mg := mg) (base := base) (N := ["calendar", "page", "known", "index"]) (qual := "check_page") (scope := defScope s_check_page) (f := f) (cd := cdv) (A := A) (outer := outer) (s := s) (H := H) (E := E)
  obtain ⟨_, hc_MOST_PAGE⟩ := T.c_MOST_PAGE
  exact (pss_cons (ps_set (i := 2) sc.nd rfl (by first | exact .inl rfl | exact .inr rfl) (Fo_Calendar_signs.prop T.cl_Calendar T.pr_Calendar_signs (hr.mono (by decide)) (d_var 0)))
  (pss_cons (d_for po rfl (f_rng1 T.m_range (d_cb c_len T.m_len boot_len (a_cons (d_var 1) a_nil))) (pg_name (i := 3) sc.nd rfl (by first | exact .inl rfl | exact .inr rfl))
  (pss_one (ps_if (t_cmp op_ninVV (d_idx (d_var 1) (d_var 3)) (d_var 2))
  (pss_one ps_never)
  pss_nil)))
  (pss_one (ps_if (t_cmp op_gtV (d_cb c_len T.m_len boot_len (a_cons (d_var 1) a_nil)) (d_glob hc_MOST_PAGE ⟨_, rfl⟩))
  (pss_one ps_never)
  pss_nil))))
theorem ok_check_page (T : Txt c mg) (F : ∃ fd, FunD c.K "check_page" "check_page" (defArgs s_check_page) (defBody s_check_page) (defScope s_check_page) [] [] (He.ga c.K "check_page") fd) (Fo_Calendar_signs : Fn P w c.K mg base 1 (Fx.wfA c.K c.Calendar "property" "signs") ["self"] (sp_Calendar_signs c)) : Fn P w c.K mg base 3 (He.ga c.K "check_page") ["calendar", "page"] (sp_check_page c) := by
  obtain ⟨fd, F⟩ := F
  exact Fn.mk' (t := fun E => t_check_page c E) F sc_check_page (fun vs H Q E h => by obtain ⟨_, _, _, rfl, _⟩ := h; rfl) (fun _ _ _ _ _ _ us hl => match us, hl with | [_, _], _ => rfl) (fun cdv A outer s H E hr => der_check_page T hr Fo_Calendar_signs) (fun vs H Q E h => sem_check_page h)
abbrev n_sets_of : List Str := ["calendar", "page", "sign"]
abbrev s_sets_of : Stmt := topS 63
theorem sc_sets_of : FnScope ["calendar", "page", "sign"] ["calendar", "page"] (defScope s_sets_of) := ⟨rfl, rfl, rfl, by decide +kernel, rfl, by decide +kernel, by decide +kernel⟩
theorem der_sets_of {f : Addr} {cdv : Value} {A : Around} {outer : List Env} {s : Shared} {H : Hp} {E : XK} (T : Txt c mg) (hr : Room 3 (A.deeper (envOfC "sets_of" (defScope s_sets_of) s.heap.objs.size f cdv))) (Fo_check_page : Fn P w c.K mg base 3 (He.ga c.K "check_page") ["calendar", "page"] (sp_check_page c)) (Fo_Calendar_stands : Fn P w c.K mg base 1 (He.ma c.K c.Calendar "stands") ["self", "sign"] (sp_Calendar_stands c)) :
    PSs (cxOf (L2.CX P w) P w c.K mg base ["calendar", "page", "sign"] "sets_of" (defScope s_sets_of) f cdv A outer s H E) (defBody s_sets_of) (t_sets_of c E) := by
  have sc := sc_sets_of
  have hu := hr.units
  have po := po_cx (CX := L2.CX P w) (P := P) (w := w) (K := c.K) (mg := mg) (base := base) (N := ["calendar", "page", "sign"]) (qual := "sets_of") (scope := defScope s_sets_of) (f := f) (cd := cdv) (A := A) (outer := outer) (s := s) (H := H) (E := E)
  have px := px_cx (P := P) (w := w) (K := c.K) (mg := mg) (base := base) (N := ["calendar", "page", "sign"]) (qual := "sets_of") (scope := defScope s_sets_of) (f := f) (cd := cdv) (A := A) (outer := outer) (s := s) (H := H) (E := E)
  exact (pss_cons (ps_expr (Fo_check_page.call T.g_check_page (hr.mono (by decide)) px (a_cons (d_var 0) (a_cons (d_var 1) a_nil))))
  (pss_one (ps_ret (d_comp (own := [("sign", 2)]) rfl sc.nd (blkOk_by (N := n_sets_of) (sc := defScope s_sets_of) (by decide +kernel)) (f_str (d_var 1)) (fun _ _ _ _ _ => (pg_name (i := 2) sc.nd rfl (by first | exact .inl rfl | exact .inr rfl))) (fun _ _ _ _ _ => pts_nil) (fun _ _ _ _ _ => (Fo_Calendar_stands.meth T.cl_Calendar T.mt_Calendar_stands (hr.mono (by decide)) passL (d_var 0) (a_cons (d_var 2) a_nil) rfl))))))
theorem ok_sets_of (T : Txt c mg) (F : ∃ fd, FunD c.K "sets_of" "sets_of" (defArgs s_sets_of) (defBody s_sets_of) (defScope s_sets_of) [] [] (He.ga c.K "sets_of") fd) (Fo_check_page : Fn P w c.K mg base 3 (He.ga c.K "check_page") ["calendar", "page"] (sp_check_page c)) (Fo_Calendar_stands : Fn P w c.K mg base 1 (He.ma c.K c.Calendar "stands") ["self", "sign"] (sp_Calendar_stands c)) : Fn P w c.K mg base 4 (He.ga c.K "sets_of") ["calendar", "page"] (sp_sets_of c) := by
  obtain ⟨fd, F⟩ := F
  exact Fn.mk' (t := fun E => t_sets_of c E) F sc_sets_of (fun vs H Q E h => by obtain ⟨_, _, _, rfl, _⟩ := h; rfl) (fun _ _ _ _ _ _ us hl => match us, hl with | [_, _], _ => rfl) (fun cdv A outer s H E hr => der_sets_of T hr Fo_check_page Fo_Calendar_stands) (fun vs H Q E h => sem_sets_of h)
abbrev n_came_of : List Str := ["calendar", "page", "came", "stands"]
abbrev s_came_of : Stmt := topS 64
theorem sc_came_of : FnScope ["calendar", "page", "came", "stands"] ["calendar", "page"] (defScope s_came_of) := ⟨rfl, rfl, rfl, by decide +kernel, rfl, by decide +kernel, by decide +kernel⟩
theorem der_came_of {f : Addr} {cdv : Value} {A : Around} {outer : List Env} {s : Shared} {H : Hp} {E : XK} (T : Txt c mg) (hr : Room 4 (A.deeper (envOfC "came_of" (defScope s_came_of) s.heap.objs.size f cdv))) (Fo_Calendar_places : Fn P w c.K mg base 1 (Fx.wfA c.K c.Calendar "property" "places") ["self"] (sp_Calendar_places c)) (Fo_sets_of : Fn P w c.K mg base 4 (He.ga c.K "sets_of") ["calendar", "page"] (sp_sets_of c)) (Fo_step_came : Fn P w c.K mg base 4 (He.ga c.K "step_came") ["came", "stands"] (sp_step_came c)) :
    PSs (cxOf (L2.CX P w) P w c.K mg base ["calendar", "page", "came", "stands"] "came_of" (defScope s_came_of) f cdv A outer s H E) (defBody s_came_of) (t_came_of c E) := by
  have sc := sc_came_of
  have hu := hr.units
  have po := po_cx (CX := L2.CX P w) (P := P) (w := w) (K := c.K) (mg := mg) (base := base) (N := ["calendar", "page", "came", "stands"]) (qual := "came_of") (scope := defScope s_came_of) (f := f) (cd := cdv) (A := A) (outer := outer) (s := s) (H := H) (E := E)
  have px := px_cx (P := P) (w := w) (K := c.K) (mg := mg) (base := base) (N := ["calendar", "page", "came", "stands"]) (qual := "came_of") (scope := defScope s_came_of) (f := f) (cd := cdv) (A := A) (outer := outer) (s := s) (H := H) (E := E)
  exact (pss_cons (ps_set (i := 2) sc.nd rfl (by first | exact .inl rfl | exact .inr rfl) (d_listR T.m_list T.m_range (Fo_Calendar_places.prop T.cl_Calendar T.pr_Calendar_places (hr.mono (by decide)) (d_var 0))))
  (pss_cons (d_for po rfl (f_list (Fo_sets_of.call T.g_sets_of (hr.mono (by decide)) px (a_cons (d_var 0) (a_cons (d_var 1) a_nil)))) (pg_name (i := 3) sc.nd rfl (by first | exact .inl rfl | exact .inr rfl))
  (pss_one (ps_set (i := 2) sc.nd rfl (by first | exact .inl rfl | exact .inr rfl) (Fo_step_came.call T.g_step_came (hr.mono (by decide)) px (a_cons (d_var 2) (a_cons (d_var 3) a_nil))))))
  (pss_one (ps_ret (d_var 2)))))
theorem ok_came_of (T : Txt c mg) (F : ∃ fd, FunD c.K "came_of" "came_of" (defArgs s_came_of) (defBody s_came_of) (defScope s_came_of) [] [] (He.ga c.K "came_of") fd) (Fo_Calendar_places : Fn P w c.K mg base 1 (Fx.wfA c.K c.Calendar "property" "places") ["self"] (sp_Calendar_places c)) (Fo_sets_of : Fn P w c.K mg base 4 (He.ga c.K "sets_of") ["calendar", "page"] (sp_sets_of c)) (Fo_step_came : Fn P w c.K mg base 4 (He.ga c.K "step_came") ["came", "stands"] (sp_step_came c)) : Fn P w c.K mg base 5 (He.ga c.K "came_of") ["calendar", "page"] (sp_came_of c) := by
  obtain ⟨fd, F⟩ := F
  exact Fn.mk' (t := fun E => t_came_of c E) F sc_came_of (fun vs H Q E h => by obtain ⟨_, _, _, rfl, _⟩ := h; rfl) (fun _ _ _ _ _ _ us hl => match us, hl with | [_, _], _ => rfl) (fun cdv A outer s H E hr => der_came_of T hr Fo_Calendar_places Fo_sets_of Fo_step_came) (fun vs H Q E h => sem_came_of h)
abbrev n_cast_of : List Str := ["calendar", "page"]
abbrev s_cast_of : Stmt := topS 65
theorem sc_cast_of : FnScope ["calendar", "page"] ["calendar", "page"] (defScope s_cast_of) := ⟨rfl, rfl, rfl, by decide +kernel, rfl, by decide +kernel, by decide +kernel⟩
theorem der_cast_of {f : Addr} {cdv : Value} {A : Around} {outer : List Env} {s : Shared} {H : Hp} {E : XK} (T : Txt c mg) (hr : Room 5 (A.deeper (envOfC "cast_of" (defScope s_cast_of) s.heap.objs.size f cdv))) (Fo_came_of : Fn P w c.K mg base 5 (He.ga c.K "came_of") ["calendar", "page"] (sp_came_of c)) (Fo_heights_of : Fn P w c.K mg base 1 (He.ga c.K "heights_of") ["came"] (sp_heights_of c)) (Fo_Cast___init__ : Fn P w c.K mg base 1 (He.ma c.K c.Cast "__init__") ["self", "heights"] (sp_Cast___init__ c)) :
    PSs (cxOf (L2.CX P w) P w c.K mg base ["calendar", "page"] "cast_of" (defScope s_cast_of) f cdv A outer s H E) (defBody s_cast_of) (t_cast_of c E) := by
  have sc := sc_cast_of
  have hu := hr.units
  have po := po_cx (CX := L2.CX P w) (P := P) (w := w) (K := c.K) (mg := mg) (base := base) (N := ["calendar", "page"]) (qual := "cast_of") (scope := defScope s_cast_of) (f := f) (cd := cdv) (A := A) (outer := outer) (s := s) (H := H) (E := E)
  have px := px_cx (P := P) (w := w) (K := c.K) (mg := mg) (base := base) (N := ["calendar", "page"]) (qual := "cast_of") (scope := defScope s_cast_of) (f := f) (cd := cdv) (A := A) (outer := outer) (s := s) (H := H) (E := E)
  exact (pss_one (ps_ret (Fo_Cast___init__.make T.mk_Cast T.g_Cast (hr.mono (by decide)) px (a_cons (Fo_heights_of.call T.g_heights_of (hr.mono (by decide)) px (a_cons (Fo_came_of.call T.g_came_of (hr.mono (by decide)) px (a_cons (d_var 0) (a_cons (d_var 1) a_nil))) a_nil)) a_nil))))
theorem ok_cast_of (T : Txt c mg) (F : ∃ fd, FunD c.K "cast_of" "cast_of" (defArgs s_cast_of) (defBody s_cast_of) (defScope s_cast_of) [] [] (He.ga c.K "cast_of") fd) (Fo_came_of : Fn P w c.K mg base 5 (He.ga c.K "came_of") ["calendar", "page"] (sp_came_of c)) (Fo_heights_of : Fn P w c.K mg base 1 (He.ga c.K "heights_of") ["came"] (sp_heights_of c)) (Fo_Cast___init__ : Fn P w c.K mg base 1 (He.ma c.K c.Cast "__init__") ["self", "heights"] (sp_Cast___init__ c)) : Fn P w c.K mg base 6 (He.ga c.K "cast_of") ["calendar", "page"] (sp_cast_of c) := by
  obtain ⟨fd, F⟩ := F
  exact Fn.mk' (t := fun E => t_cast_of c E) F sc_cast_of (fun vs H Q E h => by obtain ⟨_, _, _, rfl, _⟩ := h; rfl) (fun _ _ _ _ _ _ us hl => match us, hl with | [_, _], _ => rfl) (fun cdv A outer s H E hr => der_cast_of T hr Fo_came_of Fo_heights_of Fo_Cast___init__) (fun vs H Q E h => sem_cast_of h)
abbrev n_check_number : List Str := ["number", "amount"]
abbrev s_check_number : Stmt := topS 68
theorem sc_check_number : FnScope ["number", "amount"] ["number", "amount"] (defScope s_check_number) := ⟨rfl, rfl, rfl, by decide +kernel, rfl, by decide +kernel, by decide +kernel⟩
theorem der_check_number {f : Addr} {cdv : Value} {A : Around} {outer : List Env} {s : Shared} {H : Hp} {E : XK} (T : Txt c mg) (hr : Room 0 (A.deeper (envOfC "check_number" (defScope s_check_number) s.heap.objs.size f cdv)))  :
    PSs (cxOf (L2.CX P w) P w c.K mg base ["number", "amount"] "check_number" (defScope s_check_number) f cdv A outer s H E) (defBody s_check_number) (t_check_number c E) := by
  have sc := sc_check_number
  have hu := hr.units
  have po := po_cx (CX := L2.CX P w) (P := P) (w := w) (K := c.K) (mg := mg) (base := base) (N := ["number", "amount"]) (qual := "check_number") (scope := defScope s_check_number) (f := f) (cd := cdv) (A := A) (outer := outer) (s := s) (H := H) (E := E)
  have px := px_cx (P := P) (w := w) (K := c.K) (mg := mg) (base := base) (N := ["number", "amount"]) (qual := "check_number") (scope := defScope s_check_number) (f := f) (cd := cdv) (A := A) (outer := outer) (s := s) (H := H) (E := E)
  exact (pss_one (ps_if (t_not (t_chain op_leV op_ltV d_int (d_var 0) (d_var 1)))
  (pss_one ps_never)
  pss_nil))
theorem ok_check_number (T : Txt c mg) (F : ∃ fd, FunD c.K "check_number" "check_number" (defArgs s_check_number) (defBody s_check_number) (defScope s_check_number) [] [] (He.ga c.K "check_number") fd)  : Fn P w c.K mg base 1 (He.ga c.K "check_number") ["number", "amount"] (sp_check_number c) := by
  obtain ⟨fd, F⟩ := F
  exact Fn.mk' (t := fun E => t_check_number c E) F sc_check_number (fun vs H Q E h => by obtain ⟨_, _, rfl, _⟩ := h; rfl) (fun _ _ _ _ _ _ us hl => match us, hl with | [_, _], _ => rfl) (fun cdv A outer s H E hr => der_check_number T hr ) (fun vs H Q E h => sem_check_number h)
abbrev n_check_entries : List Str := ["pages", "page", "amount"]
abbrev s_check_entries : Stmt := topS 69
theorem sc_check_entries : FnScope ["pages", "page", "amount"] ["pages"] (defScope s_check_entries) := ⟨rfl, rfl, rfl, by decide +kernel, rfl, by decide +kernel, by decide +kernel⟩
theorem der_check_entries {f : Addr} {cdv : Value} {A : Around} {outer : List Env} {s : Shared} {H : Hp} {E : XK} (T : Txt c mg) (hr : Room 0 (A.deeper (envOfC "check_entries" (defScope s_check_entries) s.heap.objs.size f cdv)))  :
    PSs (cxOf (L2.CX P w) P w c.K mg base ["pages", "page", "amount"] "check_entries" (defScope s_check_entries) f cdv A outer s H E) (defBody s_check_entries) (t_check_entries c E) := by
  have sc := sc_check_entries
  have hu := hr.units
  have po := po_cx (CX := L2.CX P w) (P := P) (w := w) (K := c.K) (mg := mg) (base := base) (N := ["pages", "page", "amount"]) (qual := "check_entries") (scope := defScope s_check_entries) (f := f) (cd := cdv) (A := A) (outer := outer) (s := s) (H := H) (E := E)
  have px := px_cx (P := P) (w := w) (K := c.K) (mg := mg) (base := base) (N := ["pages", "page", "amount"]) (qual := "check_entries") (scope := defScope s_check_entries) (f := f) (cd := cdv) (A := A) (outer := outer) (s := s) (H := H) (E := E)
  obtain ⟨_, hc_MOST_BALLS⟩ := T.c_MOST_BALLS
  exact (pss_cons (ps_set (i := 2) sc.nd rfl (by first | exact .inl rfl | exact .inr rfl) (d_cb (c_sum rfl) T.m_sum (by decide +kernel) (a_cons (d_comp (own := [("page", 1)]) rfl sc.nd (blkOk_by (N := n_check_entries) (sc := defScope s_check_entries) (by decide +kernel)) (f_any 0) (fun _ _ _ _ _ => (pg_name (i := 1) sc.nd rfl (by first | exact .inl rfl | exact .inr rfl))) (fun _ _ _ _ _ => pts_nil) (fun _ _ _ _ _ => (d_cb c_len T.m_len boot_len (a_cons (d_var 1) a_nil)))) a_nil)))
  (pss_one (ps_if (t_cmp op_gtV (d_var 2) (d_glob hc_MOST_BALLS ⟨_, rfl⟩))
  (pss_one ps_never)
  pss_nil)))
theorem ok_check_entries (T : Txt c mg) (F : ∃ fd, FunD c.K "check_entries" "check_entries" (defArgs s_check_entries) (defBody s_check_entries) (defScope s_check_entries) [] [] (He.ga c.K "check_entries") fd)  : Fn P w c.K mg base 1 (He.ga c.K "check_entries") ["pages"] (sp_check_entries c) := by
  obtain ⟨fd, F⟩ := F
  exact Fn.mk' (t := fun E => t_check_entries c E) F sc_check_entries (fun vs H Q E h => by obtain ⟨_, _, rfl, _⟩ := h; rfl) (fun _ _ _ _ _ _ us hl => match us, hl with | [_], _ => rfl) (fun cdv A outer s H E hr => der_check_entries T hr ) (fun vs H Q E h => sem_check_entries h)
abbrev n_pair_product : List Str := ["casts", "index"]
abbrev s_pair_product : Stmt := topS 70
theorem sc_pair_product : FnScope ["casts", "index"] ["casts", "index"] (defScope s_pair_product) := ⟨rfl, rfl, rfl, by decide +kernel, rfl, by decide +kernel, by decide +kernel⟩
theorem der_pair_product {f : Addr} {cdv : Value} {A : Around} {outer : List Env} {s : Shared} {H : Hp} {E : XK} (T : Txt c mg) (hr : Room 6 (A.deeper (envOfC "pair_product" (defScope s_pair_product) s.heap.objs.size f cdv))) (Fo_Cast___mul__ : Fn P w c.K mg base 6 (He.ma c.K c.Cast "__mul__") ["self", "other"] (sp_Cast___mul__ c)) :
    PSs (cxOf (L2.CX P w) P w c.K mg base ["casts", "index"] "pair_product" (defScope s_pair_product) f cdv A outer s H E) (defBody s_pair_product) (t_pair_product c E) := by
  have sc := sc_pair_product
  have hu := hr.units
  have po := po_cx (CX := L2.CX P w) (P := P) (w := w) (K := c.K) (mg := mg) (base := base) (N := ["casts", "index"]) (qual := "pair_product") (scope := defScope s_pair_product) (f := f) (cd := cdv) (A := A) (outer := outer) (s := s) (H := H) (E := E)
  have px := px_cx (P := P) (w := w) (K := c.K) (mg := mg) (base := base) (N := ["casts", "index"]) (qual := "pair_product") (scope := defScope s_pair_product) (f := f) (cd := cdv) (A := A) (outer := outer) (s := s) (H := H) (E := E)
  exact (pss_one (ps_ret (d_bin (Fo_Cast___mul__.op T.sf_Cast (by rw [dund_mul]; exact T.hs_Cast___mul__.1) T.hs_Cast___mul__.2 (hr.mono (by decide)) px) (d_idx (d_var 0) (d_bin op_mulV d_int (d_var 1))) (d_idx (d_var 0) (d_bin op_addV (d_bin op_mulV d_int (d_var 1)) d_int)))))
theorem ok_pair_product (T : Txt c mg) (F : ∃ fd, FunD c.K "pair_product" "pair_product" (defArgs s_pair_product) (defBody s_pair_product) (defScope s_pair_product) [] [] (He.ga c.K "pair_product") fd) (Fo_Cast___mul__ : Fn P w c.K mg base 6 (He.ma c.K c.Cast "__mul__") ["self", "other"] (sp_Cast___mul__ c)) : Fn P w c.K mg base 7 (He.ga c.K "pair_product") ["casts", "index"] (sp_pair_product c) := by
  obtain ⟨fd, F⟩ := F
  exact Fn.mk' (t := fun E => t_pair_product c E) F sc_pair_product (fun vs H Q E h => by obtain ⟨_, _, _, _, _, _, _, _, rfl, _⟩ := h; rfl) (fun _ _ _ _ _ _ us hl => match us, hl with | [_, _], _ => rfl) (fun cdv A outer s H E hr => der_pair_product T hr Fo_Cast___mul__) (fun vs H Q E h => sem_pair_product h)
abbrev n_product_levels : List Str := ["casts", "levels", "index"]
abbrev s_product_levels : Stmt := topS 71
theorem sc_product_levels : FnScope ["casts", "levels", "index"] ["casts"] (defScope s_product_levels) := ⟨rfl, rfl, rfl, by decide +kernel, rfl, by decide +kernel, by decide +kernel⟩
theorem der_product_levels {f : Addr} {cdv : Value} {A : Around} {outer : List Env} {s : Shared} {H : Hp} {E : XK} (T : Txt c mg) (hr : Room 7 (A.deeper (envOfC "product_levels" (defScope s_product_levels) s.heap.objs.size f cdv))) (Fo_pair_product : Fn P w c.K mg base 7 (He.ga c.K "pair_product") ["casts", "index"] (sp_pair_product c)) :
    PSs (cxOf (L2.CX P w) P w c.K mg base ["casts", "levels", "index"] "product_levels" (defScope s_product_levels) f cdv A outer s H E) (defBody s_product_levels) (t_product_levels c E) := by
  have sc := sc_product_levels
  have hu := hr.units
  have po := po_cx (CX := L2.CX P w) (P := P) (w := w) (K := c.K) (mg := mg) (base := base) (N := ["casts", "levels", "index"]) (qual := "product_levels") (scope := defScope s_product_levels) (f := f) (cd := cdv) (A := A) (outer := outer) (s := s) (H := H) (E := E)
  have px := px_cx (P := P) (w := w) (K := c.K) (mg := mg) (base := base) (N := ["casts", "levels", "index"]) (qual := "product_levels") (scope := defScope s_product_levels) (f := f) (cd := cdv) (A := A) (outer := outer) (s := s) (H := H) (E := E)
  exact (pss_cons (ps_set (i := 1) sc.nd rfl (by first | exact .inl rfl | exact .inr rfl) (d_list (a_cons (d_ct c_list T.m_list boot_list (a_cons (d_var 0) a_nil)) a_nil)))
  (pss_cons (d_while po (t_cmp op_gtV (d_cb c_len T.m_len boot_len (a_cons (d_idx (d_var 1) (d_neg d_int)) a_nil)) d_int)
  (pss_one (ps_expr (d_lm PySem.F.plainAttrs_list PySem.F.slot_list_append PySem.F.type_list_append m_append (d_var 1) (a_cons (d_comp (own := [("index", 2)]) rfl sc.nd (blkOk_by (N := n_product_levels) (sc := defScope s_product_levels) (by decide +kernel)) (f_rng1 T.m_range (d_bin op_divV (d_cb c_len T.m_len boot_len (a_cons (d_idx (d_var 1) (d_neg d_int)) a_nil)) d_int)) (fun _ _ _ _ _ => (pg_name (i := 2) sc.nd rfl (by first | exact .inl rfl | exact .inr rfl))) (fun _ _ _ _ _ => pts_nil) (fun _ _ _ _ _ => (Fo_pair_product.call T.g_pair_product (hr.mono (by decide)) passL (a_cons (d_idx (d_var 1) (d_neg d_int)) (a_cons (d_var 2) a_nil))))) a_nil)))))
  (pss_one (ps_ret (d_var 1)))))
theorem ok_product_levels (T : Txt c mg) (F : ∃ fd, FunD c.K "product_levels" "product_levels" (defArgs s_product_levels) (defBody s_product_levels) (defScope s_product_levels) [] [] (He.ga c.K "product_levels") fd) (Fo_pair_product : Fn P w c.K mg base 7 (He.ga c.K "pair_product") ["casts", "index"] (sp_pair_product c)) : Fn P w c.K mg base 8 (He.ga c.K "product_levels") ["casts"] (sp_product_levels c) := by
  obtain ⟨fd, F⟩ := F
  exact Fn.mk' (t := fun E => t_product_levels c E) F sc_product_levels (fun vs H Q E h => by obtain ⟨_, _, _, rfl, _⟩ := h; rfl) (fun _ _ _ _ _ _ us hl => match us, hl with | [_], _ => rfl) (fun cdv A outer s H E hr => der_product_levels T hr Fo_pair_product) (fun vs H Q E h => sem_product_levels h)
abbrev n_Binder___init__ : List Str := ["self", "calendar", "pages", "page"]
abbrev s_Binder___init__ : Stmt := inC (topS 72) 0
theorem sc_Binder___init__ : FnScope ["self", "calendar", "pages", "page"] ["self", "calendar", "pages"] (defScope s_Binder___init__) := ⟨rfl, rfl, rfl, by decide +kernel, rfl, by decide +kernel, by decide +kernel⟩
theorem der_Binder___init__ {f : Addr} {cdv : Value} {A : Around} {outer : List Env} {s : Shared} {H : Hp} {E : XK} (T : Txt c mg) (hr : Room 8 (A.deeper (envOfC "Binder.__init__" (defScope s_Binder___init__) s.heap.objs.size f cdv))) (Fo_check_page : Fn P w c.K mg base 3 (He.ga c.K "check_page") ["calendar", "page"] (sp_check_page c)) (Fo_check_entries : Fn P w c.K mg base 1 (He.ga c.K "check_entries") ["pages"] (sp_check_entries c)) (Fo_cast_of : Fn P w c.K mg base 6 (He.ga c.K "cast_of") ["calendar", "page"] (sp_cast_of c)) (Fo_product_levels : Fn P w c.K mg base 8 (He.ga c.K "product_levels") ["casts"] (sp_product_levels c)) :
    PSs (cxOf (L2.CX P w) P w c.K mg base ["self", "calendar", "pages", "page"] "Binder.__init__" (defScope s_Binder___init__) f cdv A outer s H E) (defBody s_Binder___init__) (t_Binder___init__ c E) := by
  have sc := sc_Binder___init__
  have hu := hr.units
  have po := po_cx (CX := L2.CX P w) (P := P) (w := w) (K := c.K) (mg := mg) (base := base) (N := ["self", "calendar", "pages", "page"]) (qual := "Binder.__init__") (scope := defScope s_Binder___init__) (f := f) (cd := cdv) (A := A) (outer := outer) (s := s) (H := H) (E := E)
  have px := px_cx (P := P) (w := w) (K := c.K) (mg := mg) (base := base) (N := ["self", "calendar", "pages", "page"]) (qual := "Binder.__init__") (scope := defScope s_Binder___init__) (f := f) (cd := cdv) (A := A) (outer := outer) (s := s) (H := H) (E := E)
  obtain ⟨_, hc_MOST_PAGES⟩ := T.c_MOST_PAGES
  exact (pss_cons (d_for po rfl (f_tup (d_var 2)) (pg_name (i := 3) sc.nd rfl (by first | exact .inl rfl | exact .inr rfl))
  (pss_one (ps_expr (Fo_check_page.call T.g_check_page (hr.mono (by decide)) px (a_cons (d_var 1) (a_cons (d_var 3) a_nil))))))
  (pss_cons (ps_if (t_cmp op_gtV (d_cb c_len T.m_len boot_len (a_cons (d_var 2) a_nil)) (d_glob hc_MOST_PAGES ⟨_, rfl⟩))
  (pss_one ps_never)
  pss_nil)
  (pss_cons (ps_expr (Fo_check_entries.call T.g_check_entries (hr.mono (by decide)) px (a_cons (d_var 2) a_nil)))
  (pss_cons (s_setF T.cl_Binder T.n_Binder_calendar (d_var 0) (d_var 1))
  (pss_cons (s_setF T.cl_Binder T.n_Binder__page_list (d_var 0) (d_ct c_list T.m_list boot_list (a_cons (d_var 2) a_nil)))
  (pss_one (s_setF T.cl_Binder T.n_Binder__levels (d_var 0) (Fo_product_levels.call T.g_product_levels (hr.mono (by decide)) px (a_cons (d_comp (own := [("page", 3)]) rfl sc.nd (blkOk_by (N := n_Binder___init__) (sc := defScope s_Binder___init__) (by decide +kernel)) (f_tup (d_var 2)) (fun _ _ _ _ _ => (pg_name (i := 3) sc.nd rfl (by first | exact .inl rfl | exact .inr rfl))) (fun _ _ _ _ _ => pts_nil) (fun _ _ _ _ _ => (Fo_cast_of.call T.g_cast_of (hr.mono (by decide)) passL (a_cons (d_var 1) (a_cons (d_var 3) a_nil))))) a_nil)))))))))
theorem ok_Binder___init__ (T : Txt c mg) (F : ∃ fd, FunD c.K "__init__" "Binder.__init__" (defArgs s_Binder___init__) (defBody s_Binder___init__) (defScope s_Binder___init__) [] [] (He.ma c.K c.Binder "__init__") fd) (Fo_check_page : Fn P w c.K mg base 3 (He.ga c.K "check_page") ["calendar", "page"] (sp_check_page c)) (Fo_check_entries : Fn P w c.K mg base 1 (He.ga c.K "check_entries") ["pages"] (sp_check_entries c)) (Fo_cast_of : Fn P w c.K mg base 6 (He.ga c.K "cast_of") ["calendar", "page"] (sp_cast_of c)) (Fo_product_levels : Fn P w c.K mg base 8 (He.ga c.K "product_levels") ["casts"] (sp_product_levels c)) : FnS P w c.K mg base 9 (He.ma c.K c.Binder "__init__") (sp_Binder___init__ c) := by
  obtain ⟨fd, F⟩ := F
  exact FnS.star (ps := ["self", "calendar"]) (pv := "pages") (sp := sp_Binder_body c) (t := fun E => t_Binder___init__ c E) F sc_Binder___init__ (fun kV doc pm an cdv ct => StX.bind_star2 (B := fun us => bindArgs (PySem.W.fnOf "__init__" "Binder.__init__" (defArgs s_Binder___init__) (defBody s_Binder___init__) (defScope s_Binder___init__) .none kV doc pm an cdv ct) ⟨us, []⟩) (p1 := "self") (p2 := "calendar") (pv := "pages") (fun _ _ => rfl) (fun _ _ _ _ => rfl)) (fun cdv A outer s H E hr => der_Binder___init__ T hr Fo_check_page Fo_check_entries Fo_cast_of Fo_product_levels) (fun vs H Q E h => sem_Binder_init h) (fun vs H Q E h => imp_Binder_init h)
abbrev n_Binder___setitem__ : List Str := ["self", "number", "page", "level", "index"]
abbrev s_Binder___setitem__ : Stmt := inC (topS 72) 2
theorem sc_Binder___setitem__ : FnScope ["self", "number", "page", "level", "index"] ["self", "number", "page"] (defScope s_Binder___setitem__) := ⟨rfl, rfl, rfl, by decide +kernel, rfl, by decide +kernel, by decide +kernel⟩
theorem der_Binder___setitem__ {f : Addr} {cdv : Value} {A : Around} {outer : List Env} {s : Shared} {H : Hp} {E : XK} (T : Txt c mg) (hr : Room 7 (A.deeper (envOfC "Binder.__setitem__" (defScope s_Binder___setitem__) s.heap.objs.size f cdv))) (Fo_check_number : Fn P w c.K mg base 1 (He.ga c.K "check_number") ["number", "amount"] (sp_check_number c)) (Fo_check_page : Fn P w c.K mg base 3 (He.ga c.K "check_page") ["calendar", "page"] (sp_check_page c)) (Fo_check_entries : Fn P w c.K mg base 1 (He.ga c.K "check_entries") ["pages"] (sp_check_entries c)) (Fo_cast_of : Fn P w c.K mg base 6 (He.ga c.K "cast_of") ["calendar", "page"] (sp_cast_of c)) (Fo_pair_product : Fn P w c.K mg base 7 (He.ga c.K "pair_product") ["casts", "index"] (sp_pair_product c)) :
    PSs (cxOf (L2.CX P w) P w c.K mg base ["self", "number", "page", "level", "index"] "Binder.__setitem__" (defScope s_Binder___setitem__) f cdv A outer s H E) (defBody s_Binder___setitem__) (t_Binder___setitem__ c E) := by
  have sc := sc_Binder___setitem__
  have hu := hr.units
  have po := po_cx (CX := L2.CX P w) (P := P) (w := w) (K := c.K) (mg := mg) (base := base) (N := ["self", "number", "page", "level", "index"]) (qual := "Binder.__setitem__") (scope := defScope s_Binder___setitem__) (f := f) (cd := cdv) (A := A) (outer := outer) (s := s) (H := H) (E := E)
  have px := px_cx (P := P) (w := w) (K := c.K) (mg := mg) (base := base) (N := ["self", "number", "page", "level", "index"]) (qual := "Binder.__setitem__") (scope := defScope s_Binder___setitem__) (f := f) (cd := cdv) (A := A) (outer := outer) (s := s) (H := H) (E := E)
  exact (pss_cons (ps_expr (Fo_check_number.call T.g_check_number (hr.mono (by decide)) px (a_cons (d_var 1) (a_cons (d_cb c_len T.m_len boot_len (a_cons (d_fld T.cl_Binder T.n_Binder__page_list (d_var 0)) a_nil)) a_nil))))
  (pss_cons (ps_expr (Fo_check_page.call T.g_check_page (hr.mono (by decide)) px (a_cons (d_fld T.cl_Binder T.n_Binder_calendar (d_var 0)) (a_cons (d_var 2) a_nil))))
  (pss_cons (ps_expr (Fo_check_entries.call T.g_check_entries (hr.mono (by decide)) px (a_cons (d_bin op_addV (d_bin op_addV (d_slice (d_fld T.cl_Binder T.n_Binder__page_list (d_var 0)) o_none (o_some (d_var 1))) (d_list (a_cons (d_var 2) a_nil))) (d_slice (d_fld T.cl_Binder T.n_Binder__page_list (d_var 0)) (o_some (d_bin op_addV (d_var 1) d_int)) o_none)) a_nil)))
  (pss_cons (ps_asg (d_var 2) (pg_sub (d_fld T.cl_Binder T.n_Binder__page_list (d_var 0)) (d_var 1) set_V))
  (pss_cons (ps_asg (Fo_cast_of.call T.g_cast_of (hr.mono (by decide)) px (a_cons (d_fld T.cl_Binder T.n_Binder_calendar (d_var 0)) (a_cons (d_var 2) a_nil))) (pg_sub (d_idx (d_fld T.cl_Binder T.n_Binder__levels (d_var 0)) d_int) (d_var 1) set_V))
  (pss_one (d_for po rfl (f_rng2 T.m_range d_int (d_cb c_len T.m_len boot_len (a_cons (d_fld T.cl_Binder T.n_Binder__levels (d_var 0)) a_nil))) (pg_name (i := 3) sc.nd rfl (by first | exact .inl rfl | exact .inr rfl))
  (pss_cons (ps_set (i := 4) sc.nd rfl (by first | exact .inl rfl | exact .inr rfl) (d_bin op_shrV (d_var 1) (d_var 3)))
  (pss_one (ps_if (t_cmp op_ltV (d_var 4) (d_cb c_len T.m_len boot_len (a_cons (d_idx (d_fld T.cl_Binder T.n_Binder__levels (d_var 0)) (d_var 3)) a_nil)))
  (pss_one (ps_asg (Fo_pair_product.call T.g_pair_product (hr.mono (by decide)) px (a_cons (d_idx (d_fld T.cl_Binder T.n_Binder__levels (d_var 0)) (d_bin op_subV (d_var 3) d_int)) (a_cons (d_var 4) a_nil))) (pg_sub (d_idx (d_fld T.cl_Binder T.n_Binder__levels (d_var 0)) (d_var 3)) (d_var 4) set_V)))
  pss_nil))))))))))
theorem ok_Binder___setitem__ (T : Txt c mg) (F : ∃ fd, FunD c.K "__setitem__" "Binder.__setitem__" (defArgs s_Binder___setitem__) (defBody s_Binder___setitem__) (defScope s_Binder___setitem__) [] [] (He.ma c.K c.Binder "__setitem__") fd) (Fo_check_number : Fn P w c.K mg base 1 (He.ga c.K "check_number") ["number", "amount"] (sp_check_number c)) (Fo_check_page : Fn P w c.K mg base 3 (He.ga c.K "check_page") ["calendar", "page"] (sp_check_page c)) (Fo_check_entries : Fn P w c.K mg base 1 (He.ga c.K "check_entries") ["pages"] (sp_check_entries c)) (Fo_cast_of : Fn P w c.K mg base 6 (He.ga c.K "cast_of") ["calendar", "page"] (sp_cast_of c)) (Fo_pair_product : Fn P w c.K mg base 7 (He.ga c.K "pair_product") ["casts", "index"] (sp_pair_product c)) : Fn P w c.K mg base 8 (He.ma c.K c.Binder "__setitem__") ["self", "number", "page"] (sp_Binder___setitem__ c) := by
  obtain ⟨fd, F⟩ := F
  exact Fn.mk' (t := fun E => t_Binder___setitem__ c E) F sc_Binder___setitem__ (fun vs H Q E h => by obtain ⟨_, _, _, _, _, rfl, _⟩ := h; rfl) (fun _ _ _ _ _ _ us hl => match us, hl with | [_, _, _], _ => rfl) (fun cdv A outer s H E hr => der_Binder___setitem__ T hr Fo_check_number Fo_check_page Fo_check_entries Fo_cast_of Fo_pair_product) (fun vs H Q E h => sem_Binder_setitem h)
abbrev n_Binder_insert : List Str := ["self", "number", "page", "casts"]
abbrev s_Binder_insert : Stmt := inC (topS 72) 3
theorem sc_Binder_insert : FnScope ["self", "number", "page", "casts"] ["self", "number", "page"] (defScope s_Binder_insert) := ⟨rfl, rfl, rfl, by decide +kernel, rfl, by decide +kernel, by decide +kernel⟩
theorem der_Binder_insert {f : Addr} {cdv : Value} {A : Around} {outer : List Env} {s : Shared} {H : Hp} {E : XK} (T : Txt c mg) (hr : Room 8 (A.deeper (envOfC "Binder.insert" (defScope s_Binder_insert) s.heap.objs.size f cdv))) (Fo_check_number : Fn P w c.K mg base 1 (He.ga c.K "check_number") ["number", "amount"] (sp_check_number c)) (Fo_check_page : Fn P w c.K mg base 3 (He.ga c.K "check_page") ["calendar", "page"] (sp_check_page c)) (Fo_check_entries : Fn P w c.K mg base 1 (He.ga c.K "check_entries") ["pages"] (sp_check_entries c)) (Fo_cast_of : Fn P w c.K mg base 6 (He.ga c.K "cast_of") ["calendar", "page"] (sp_cast_of c)) (Fo_product_levels : Fn P w c.K mg base 8 (He.ga c.K "product_levels") ["casts"] (sp_product_levels c)) :
    PSs (cxOf (L2.CX P w) P w c.K mg base ["self", "number", "page", "casts"] "Binder.insert" (defScope s_Binder_insert) f cdv A outer s H E) (defBody s_Binder_insert) (t_Binder_insert c E) := by
  have sc := sc_Binder_insert
  have hu := hr.units
  have po := po_cx (CX := L2.CX P w) (P := P) (w := w) (K := c.K) (mg := mg) (base := base) (N := ["self", "number", "page", "casts"]) (qual := "Binder.insert") (scope := defScope s_Binder_insert) (f := f) (cd := cdv) (A := A) (outer := outer) (s := s) (H := H) (E := E)
  have px := px_cx (P := P) (w := w) (K := c.K) (mg := mg) (base := base) (N := ["self", "number", "page", "casts"]) (qual := "Binder.insert") (scope := defScope s_Binder_insert) (f := f) (cd := cdv) (A := A) (outer := outer) (s := s) (H := H) (E := E)
  obtain ⟨_, hc_MOST_PAGES⟩ := T.c_MOST_PAGES
  exact (pss_cons (ps_expr (Fo_check_number.call T.g_check_number (hr.mono (by decide)) px (a_cons (d_var 1) (a_cons (d_bin op_addV (d_cb c_len T.m_len boot_len (a_cons (d_fld T.cl_Binder T.n_Binder__page_list (d_var 0)) a_nil)) d_int) a_nil))))
  (pss_cons (ps_expr (Fo_check_page.call T.g_check_page (hr.mono (by decide)) px (a_cons (d_fld T.cl_Binder T.n_Binder_calendar (d_var 0)) (a_cons (d_var 2) a_nil))))
  (pss_cons (ps_if (t_cmp op_eqSV (d_cb c_len T.m_len boot_len (a_cons (d_fld T.cl_Binder T.n_Binder__page_list (d_var 0)) a_nil)) (d_glob hc_MOST_PAGES ⟨_, rfl⟩))
  (pss_one ps_never)
  pss_nil)
  (pss_cons (ps_expr (Fo_check_entries.call T.g_check_entries (hr.mono (by decide)) px (a_cons (d_bin op_addV (d_fld T.cl_Binder T.n_Binder__page_list (d_var 0)) (d_list (a_cons (d_var 2) a_nil))) a_nil)))
  (pss_cons (ps_set (i := 3) sc.nd rfl (by first | exact .inl rfl | exact .inr rfl) (d_idx (d_fld T.cl_Binder T.n_Binder__levels (d_var 0)) d_int))
  (pss_cons (ps_expr (d_lm PySem.F.plainAttrs_list PySem.F.slot_list_insert PySem.F.type_list_insert m_insert (d_fld T.cl_Binder T.n_Binder__page_list (d_var 0)) (a_cons (d_var 1) (a_cons (d_var 2) a_nil))))
  (pss_one (s_setF T.cl_Binder T.n_Binder__levels (d_var 0) (Fo_product_levels.call T.g_product_levels (hr.mono (by decide)) px (a_cons (d_bin op_addV (d_bin op_addV (d_slice (d_var 3) o_none (o_some (d_var 1))) (d_list (a_cons (Fo_cast_of.call T.g_cast_of (hr.mono (by decide)) px (a_cons (d_fld T.cl_Binder T.n_Binder_calendar (d_var 0)) (a_cons (d_var 2) a_nil))) a_nil))) (d_slice (d_var 3) (o_some (d_var 1)) o_none)) a_nil))))))))))
theorem ok_Binder_insert (T : Txt c mg) (F : ∃ fd, FunD c.K "insert" "Binder.insert" (defArgs s_Binder_insert) (defBody s_Binder_insert) (defScope s_Binder_insert) [] [] (He.ma c.K c.Binder "insert") fd) (Fo_check_number : Fn P w c.K mg base 1 (He.ga c.K "check_number") ["number", "amount"] (sp_check_number c)) (Fo_check_page : Fn P w c.K mg base 3 (He.ga c.K "check_page") ["calendar", "page"] (sp_check_page c)) (Fo_check_entries : Fn P w c.K mg base 1 (He.ga c.K "check_entries") ["pages"] (sp_check_entries c)) (Fo_cast_of : Fn P w c.K mg base 6 (He.ga c.K "cast_of") ["calendar", "page"] (sp_cast_of c)) (Fo_product_levels : Fn P w c.K mg base 8 (He.ga c.K "product_levels") ["casts"] (sp_product_levels c)) : Fn P w c.K mg base 9 (He.ma c.K c.Binder "insert") ["self", "number", "page"] (sp_Binder_insert c) := by
  obtain ⟨fd, F⟩ := F
  exact Fn.mk' (t := fun E => t_Binder_insert c E) F sc_Binder_insert (fun vs H Q E h => by obtain ⟨_, _, _, _, _, rfl, _⟩ := h; rfl) (fun _ _ _ _ _ _ us hl => match us, hl with | [_, _, _], _ => rfl) (fun cdv A outer s H E hr => der_Binder_insert T hr Fo_check_number Fo_check_page Fo_check_entries Fo_cast_of Fo_product_levels) (fun vs H Q E h => sem_Binder_insert h)
abbrev n_Binder_remove : List Str := ["self", "number", "casts"]
abbrev s_Binder_remove : Stmt := inC (topS 72) 4
theorem sc_Binder_remove : FnScope ["self", "number", "casts"] ["self", "number"] (defScope s_Binder_remove) := ⟨rfl, rfl, rfl, by decide +kernel, rfl, by decide +kernel, by decide +kernel⟩
theorem der_Binder_remove {f : Addr} {cdv : Value} {A : Around} {outer : List Env} {s : Shared} {H : Hp} {E : XK} (T : Txt c mg) (hr : Room 8 (A.deeper (envOfC "Binder.remove" (defScope s_Binder_remove) s.heap.objs.size f cdv))) (Fo_check_number : Fn P w c.K mg base 1 (He.ga c.K "check_number") ["number", "amount"] (sp_check_number c)) (Fo_product_levels : Fn P w c.K mg base 8 (He.ga c.K "product_levels") ["casts"] (sp_product_levels c)) :
    PSs (cxOf (L2.CX P w) P w c.K mg base ["self", "number", "casts"] "Binder.remove" (defScope s_Binder_remove) f cdv A outer s H E) (defBody s_Binder_remove) (t_Binder_remove c E) := by
  have sc := sc_Binder_remove
  have hu := hr.units
  have po := po_cx (CX := L2.CX P w) (P := P) (w := w) (K := c.K) (mg := mg) (base := base) (N := ["self", "number", "casts"]) (qual := "Binder.remove") (scope := defScope s_Binder_remove) (f := f) (cd := cdv) (A := A) (outer := outer) (s := s) (H := H) (E := E)
  have px := px_cx (P := P) (w := w) (K := c.K) (mg := mg) (base := base) (N := ["self", "number", "casts"]) (qual := "Binder.remove") (scope := defScope s_Binder_remove) (f := f) (cd := cdv) (A := A) (outer := outer) (s := s) (H := H) (E := E)
  exact (pss_cons (ps_expr (Fo_check_number.call T.g_check_number (hr.mono (by decide)) px (a_cons (d_var 1) (a_cons (d_cb c_len T.m_len boot_len (a_cons (d_fld T.cl_Binder T.n_Binder__page_list (d_var 0)) a_nil)) a_nil))))
  (pss_cons (ps_set (i := 2) sc.nd rfl (by first | exact .inl rfl | exact .inr rfl) (d_idx (d_fld T.cl_Binder T.n_Binder__levels (d_var 0)) d_int))
  (pss_cons (s_setF T.cl_Binder T.n_Binder__levels (d_var 0) (Fo_product_levels.call T.g_product_levels (hr.mono (by decide)) px (a_cons (d_bin op_addV (d_slice (d_var 2) o_none (o_some (d_var 1))) (d_slice (d_var 2) (o_some (d_bin op_addV (d_var 1) d_int)) o_none)) a_nil)))
  (pss_one (ps_ret (d_lm PySem.F.plainAttrs_list PySem.F.slot_list_pop PySem.F.type_list_pop m_popAt (d_fld T.cl_Binder T.n_Binder__page_list (d_var 0)) (a_cons (d_var 1) a_nil)))))))
theorem ok_Binder_remove (T : Txt c mg) (F : ∃ fd, FunD c.K "remove" "Binder.remove" (defArgs s_Binder_remove) (defBody s_Binder_remove) (defScope s_Binder_remove) [] [] (He.ma c.K c.Binder "remove") fd) (Fo_check_number : Fn P w c.K mg base 1 (He.ga c.K "check_number") ["number", "amount"] (sp_check_number c)) (Fo_product_levels : Fn P w c.K mg base 8 (He.ga c.K "product_levels") ["casts"] (sp_product_levels c)) : Fn P w c.K mg base 9 (He.ma c.K c.Binder "remove") ["self", "number"] (sp_Binder_remove c) := by
  obtain ⟨fd, F⟩ := F
  exact Fn.mk' (t := fun E => t_Binder_remove c E) F sc_Binder_remove (fun vs H Q E h => by obtain ⟨_, _, _, _, _, rfl, _⟩ := h; rfl) (fun _ _ _ _ _ _ us hl => match us, hl with | [_, _], _ => rfl) (fun cdv A outer s H E hr => der_Binder_remove T hr Fo_check_number Fo_product_levels) (fun vs H Q E h => sem_Binder_remove h)
abbrev n_Binder_part : List Str := ["self", "first", "last", "product", "number", "level"]
abbrev s_Binder_part : Stmt := inC (topS 72) 5
theorem sc_Binder_part : FnScope ["self", "first", "last", "product", "number", "level"] ["self", "first", "last"] (defScope s_Binder_part) := ⟨rfl, rfl, rfl, by decide +kernel, rfl, by decide +kernel, by decide +kernel⟩
theorem der_Binder_part {f : Addr} {cdv : Value} {A : Around} {outer : List Env} {s : Shared} {H : Hp} {E : XK} (T : Txt c mg) (hr : Room 6 (A.deeper (envOfC "Binder.part" (defScope s_Binder_part) s.heap.objs.size f cdv))) (Fo_check_number : Fn P w c.K mg base 1 (He.ga c.K "check_number") ["number", "amount"] (sp_check_number c)) (Fo_Calendar_places : Fn P w c.K mg base 1 (Fx.wfA c.K c.Calendar "property" "places") ["self"] (sp_Calendar_places c)) (Fo_Cast_none : Fn P w c.K mg base 3 (Fx.wfA c.K c.Cast "staticmethod" "none") ["places"] (sp_Cast_none c)) (Fo_Cast___mul__ : Fn P w c.K mg base 6 (He.ma c.K c.Cast "__mul__") ["self", "other"] (sp_Cast___mul__ c)) :
    PSs (cxOf (L2.CX P w) P w c.K mg base ["self", "first", "last", "product", "number", "level"] "Binder.part" (defScope s_Binder_part) f cdv A outer s H E) (defBody s_Binder_part) (t_Binder_part c E) := by
  have sc := sc_Binder_part
  have hu := hr.units
  have po := po_cx (CX := L2.CX P w) (P := P) (w := w) (K := c.K) (mg := mg) (base := base) (N := ["self", "first", "last", "product", "number", "level"]) (qual := "Binder.part") (scope := defScope s_Binder_part) (f := f) (cd := cdv) (A := A) (outer := outer) (s := s) (H := H) (E := E)
  have px := px_cx (P := P) (w := w) (K := c.K) (mg := mg) (base := base) (N := ["self", "first", "last", "product", "number", "level"]) (qual := "Binder.part") (scope := defScope s_Binder_part) (f := f) (cd := cdv) (A := A) (outer := outer) (s := s) (H := H) (E := E)
  obtain ⟨_, hst_Cast_none⟩ := T.st_Cast_none.2
  exact (pss_cons (ps_expr (Fo_check_number.call T.g_check_number (hr.mono (by decide)) px (a_cons (d_var 1) (a_cons (d_bin op_addV (d_cb c_len T.m_len boot_len (a_cons (d_fld T.cl_Binder T.n_Binder__page_list (d_var 0)) a_nil)) d_int) a_nil))))
  (pss_cons (ps_if (t_not (t_chain op_leV op_leV (d_var 1) (d_var 2) (d_cb c_len T.m_len boot_len (a_cons (d_fld T.cl_Binder T.n_Binder__page_list (d_var 0)) a_nil))))
  (pss_one ps_never)
  pss_nil)
  (pss_cons (ps_set (i := 3) sc.nd rfl (by first | exact .inl rfl | exact .inr rfl) (Fo_Cast_none.stat T.g_Cast T.rd_Cast T.st_Cast_none.1 hst_Cast_none (hr.mono (by decide)) px (a_cons (Fo_Calendar_places.prop T.cl_Calendar T.pr_Calendar_places (hr.mono (by decide)) (d_fld T.cl_Binder T.n_Binder_calendar (d_var 0))) a_nil) rfl))
  (pss_cons (ps_set (i := 4) sc.nd rfl (by first | exact .inl rfl | exact .inr rfl) (d_var 1))
  (pss_cons (d_while po (t_cmp op_ltV (d_var 4) (d_var 2))
  (pss_cons (ps_set (i := 5) sc.nd rfl (by first | exact .inl rfl | exact .inr rfl) d_int)
  (pss_cons (d_while po (t_and (t_cmp op_eqSV (d_bin op_modV (d_var 4) (d_bin op_shlV d_int (d_var 5))) d_int) (t_cmp op_leV (d_bin op_addV (d_var 4) (d_bin op_shlV d_int (d_var 5))) (d_var 2)))
  (pss_one (ps_set (i := 5) sc.nd rfl (by first | exact .inl rfl | exact .inr rfl) (d_bin op_addV (d_var 5) d_int))))
  (pss_cons (ps_set (i := 3) sc.nd rfl (by first | exact .inl rfl | exact .inr rfl) (d_bin (Fo_Cast___mul__.op T.sf_Cast (by rw [dund_mul]; exact T.hs_Cast___mul__.1) T.hs_Cast___mul__.2 (hr.mono (by decide)) px) (d_var 3) (d_idx (d_idx (d_fld T.cl_Binder T.n_Binder__levels (d_var 0)) (d_var 5)) (d_bin op_shrV (d_var 4) (d_var 5)))))
  (pss_one (ps_set (i := 4) sc.nd rfl (by first | exact .inl rfl | exact .inr rfl) (d_bin op_addV (d_var 4) (d_bin op_shlV d_int (d_var 5)))))))))
  (pss_one (ps_ret (d_var 3))))))))
theorem ok_Binder_part (T : Txt c mg) (F : ∃ fd, FunD c.K "part" "Binder.part" (defArgs s_Binder_part) (defBody s_Binder_part) (defScope s_Binder_part) [] [] (He.ma c.K c.Binder "part") fd) (Fo_check_number : Fn P w c.K mg base 1 (He.ga c.K "check_number") ["number", "amount"] (sp_check_number c)) (Fo_Calendar_places : Fn P w c.K mg base 1 (Fx.wfA c.K c.Calendar "property" "places") ["self"] (sp_Calendar_places c)) (Fo_Cast_none : Fn P w c.K mg base 3 (Fx.wfA c.K c.Cast "staticmethod" "none") ["places"] (sp_Cast_none c)) (Fo_Cast___mul__ : Fn P w c.K mg base 6 (He.ma c.K c.Cast "__mul__") ["self", "other"] (sp_Cast___mul__ c)) : Fn P w c.K mg base 7 (He.ma c.K c.Binder "part") ["self", "first", "last"] (sp_Binder_part c) := by
  obtain ⟨fd, F⟩ := F
  exact Fn.mk' (t := fun E => t_Binder_part c E) F sc_Binder_part (fun vs H Q E h => by obtain ⟨_, _, _, _, _, rfl, _⟩ := h; rfl) (fun _ _ _ _ _ _ us hl => match us, hl with | [_, _, _], _ => rfl) (fun cdv A outer s H E hr => der_Binder_part T hr Fo_check_number Fo_Calendar_places Fo_Cast_none Fo_Cast___mul__) (fun vs H Q E h => sem_Binder_part h)
abbrev n_Binder_part_count : List Str := ["self", "first", "last", "begin", "end"]
abbrev s_Binder_part_count : Stmt := inC (topS 72) 6
theorem sc_Binder_part_count : FnScope ["self", "first", "last", "begin", "end"] ["self", "first", "last", "begin", "end"] (defScope s_Binder_part_count) := ⟨rfl, rfl, rfl, by decide +kernel, rfl, by decide +kernel, by decide +kernel⟩
theorem der_Binder_part_count {f : Addr} {cdv : Value} {A : Around} {outer : List Env} {s : Shared} {H : Hp} {E : XK} (T : Txt c mg) (hr : Room 7 (A.deeper (envOfC "Binder.part_count" (defScope s_Binder_part_count) s.heap.objs.size f cdv))) (Fo_Binder_part : Fn P w c.K mg base 7 (He.ma c.K c.Binder "part") ["self", "first", "last"] (sp_Binder_part c)) (Fo_Cast_count : Fn P w c.K mg base 3 (He.ma c.K c.Cast "count") ["self", "begin", "end"] (sp_Cast_count c)) :
    PSs (cxOf (L2.CX P w) P w c.K mg base ["self", "first", "last", "begin", "end"] "Binder.part_count" (defScope s_Binder_part_count) f cdv A outer s H E) (defBody s_Binder_part_count) (t_Binder_part_count c E) := by
  have sc := sc_Binder_part_count
  have hu := hr.units
  have po := po_cx (CX := L2.CX P w) (P := P) (w := w) (K := c.K) (mg := mg) (base := base) (N := ["self", "first", "last", "begin", "end"]) (qual := "Binder.part_count") (scope := defScope s_Binder_part_count) (f := f) (cd := cdv) (A := A) (outer := outer) (s := s) (H := H) (E := E)
  have px := px_cx (P := P) (w := w) (K := c.K) (mg := mg) (base := base) (N := ["self", "first", "last", "begin", "end"]) (qual := "Binder.part_count") (scope := defScope s_Binder_part_count) (f := f) (cd := cdv) (A := A) (outer := outer) (s := s) (H := H) (E := E)
  exact (pss_one (ps_ret (Fo_Cast_count.meth T.cl_Cast T.mt_Cast_count (hr.mono (by decide)) px (Fo_Binder_part.meth T.cl_Binder T.mt_Binder_part (hr.mono (by decide)) px (d_var 0) (a_cons (d_var 1) (a_cons (d_var 2) a_nil)) rfl) (a_cons (d_var 3) (a_cons (d_var 4) a_nil)) rfl)))
theorem ok_Binder_part_count (T : Txt c mg) (F : ∃ fd, FunD c.K "part_count" "Binder.part_count" (defArgs s_Binder_part_count) (defBody s_Binder_part_count) (defScope s_Binder_part_count) [] [] (He.ma c.K c.Binder "part_count") fd) (Fo_Binder_part : Fn P w c.K mg base 7 (He.ma c.K c.Binder "part") ["self", "first", "last"] (sp_Binder_part c)) (Fo_Cast_count : Fn P w c.K mg base 3 (He.ma c.K c.Cast "count") ["self", "begin", "end"] (sp_Cast_count c)) : Fn P w c.K mg base 8 (He.ma c.K c.Binder "part_count") ["self", "first", "last", "begin", "end"] (sp_Binder_part_count c) := by
  obtain ⟨fd, F⟩ := F
  exact Fn.mk' (t := fun E => t_Binder_part_count c E) F sc_Binder_part_count (fun vs H Q E h => by obtain ⟨_, _, _, _, _, _, _, rfl, _⟩ := h; rfl) (fun _ _ _ _ _ _ us hl => match us, hl with | [_, _, _, _, _], _ => rfl) (fun cdv A outer s H E hr => der_Binder_part_count T hr Fo_Binder_part Fo_Cast_count) (fun vs H Q E h => sem_Binder_part_count h)
abbrev n_Binder___len__ : List Str := ["self"]
abbrev s_Binder___len__ : Stmt := inC (topS 72) 8
theorem sc_Binder___len__ : FnScope ["self"] ["self"] (defScope s_Binder___len__) := ⟨rfl, rfl, rfl, by decide +kernel, rfl, by decide +kernel, by decide +kernel⟩
theorem der_Binder___len__ {f : Addr} {cdv : Value} {A : Around} {outer : List Env} {s : Shared} {H : Hp} {E : XK} (T : Txt c mg) (hr : Room 0 (A.deeper (envOfC "Binder.__len__" (defScope s_Binder___len__) s.heap.objs.size f cdv)))  :
    PSs (cxOf (L2.CX P w) P w c.K mg base ["self"] "Binder.__len__" (defScope s_Binder___len__) f cdv A outer s H E) (defBody s_Binder___len__) (t_Binder___len__ c E) := by
  have sc := sc_Binder___len__
  have hu := hr.units
  have po := po_cx (CX := L2.CX P w) (P := P) (w := w) (K := c.K) (mg := mg) (base := base) (N := ["self"]) (qual := "Binder.__len__") (scope := defScope s_Binder___len__) (f := f) (cd := cdv) (A := A) (outer := outer) (s := s) (H := H) (E := E)
  have px := px_cx (P := P) (w := w) (K := c.K) (mg := mg) (base := base) (N := ["self"]) (qual := "Binder.__len__") (scope := defScope s_Binder___len__) (f := f) (cd := cdv) (A := A) (outer := outer) (s := s) (H := H) (E := E)
  exact (pss_one (ps_ret (d_cb c_len T.m_len boot_len (a_cons (d_fld T.cl_Binder T.n_Binder__page_list (d_var 0)) a_nil))))
theorem ok_Binder___len__ (T : Txt c mg) (F : ∃ fd, FunD c.K "__len__" "Binder.__len__" (defArgs s_Binder___len__) (defBody s_Binder___len__) (defScope s_Binder___len__) [] [] (He.ma c.K c.Binder "__len__") fd)  : Fn P w c.K mg base 1 (He.ma c.K c.Binder "__len__") ["self"] (sp_Binder___len__ c) := by
  obtain ⟨fd, F⟩ := F
  exact Fn.mk' (t := fun E => t_Binder___len__ c E) F sc_Binder___len__ (fun vs H Q E h => by obtain ⟨_, _, _, rfl, _⟩ := h; rfl) (fun _ _ _ _ _ _ us hl => match us, hl with | [_], _ => rfl) (fun cdv A outer s H E hr => der_Binder___len__ T hr ) (fun vs H Q E h => sem_Binder_len h)
abbrev n_Binder___iter__ : List Str := ["self"]
abbrev s_Binder___iter__ : Stmt := inC (topS 72) 9
theorem sc_Binder___iter__ : FnScope ["self"] ["self"] (defScope s_Binder___iter__) := ⟨rfl, rfl, rfl, by decide +kernel, rfl, by decide +kernel, by decide +kernel⟩
theorem der_Binder___iter__ {f : Addr} {cdv : Value} {A : Around} {outer : List Env} {s : Shared} {H : Hp} {E : XK} (T : Txt c mg) (hr : Room 0 (A.deeper (envOfC "Binder.__iter__" (defScope s_Binder___iter__) s.heap.objs.size f cdv)))  :
    PSs (cxOf (L2.CX P w) P w c.K mg base ["self"] "Binder.__iter__" (defScope s_Binder___iter__) f cdv A outer s H E) (defBody s_Binder___iter__) (t_Binder___iter__ c E) := by
  have sc := sc_Binder___iter__
  have hu := hr.units
  have po := po_cx (CX := L2.CX P w) (P := P) (w := w) (K := c.K) (mg := mg) (base := base) (N := ["self"]) (qual := "Binder.__iter__") (scope := defScope s_Binder___iter__) (f := f) (cd := cdv) (A := A) (outer := outer) (s := s) (H := H) (E := E)
  have px := px_cx (P := P) (w := w) (K := c.K) (mg := mg) (base := base) (N := ["self"]) (qual := "Binder.__iter__") (scope := defScope s_Binder___iter__) (f := f) (cd := cdv) (A := A) (outer := outer) (s := s) (H := H) (E := E)
  exact (pss_one (ps_ret (d_cb c_iter T.m_iter (by decide +kernel) (a_cons (d_fld T.cl_Binder T.n_Binder__page_list (d_var 0)) a_nil))))
theorem ok_Binder___iter__ (T : Txt c mg) (F : ∃ fd, FunD c.K "__iter__" "Binder.__iter__" (defArgs s_Binder___iter__) (defBody s_Binder___iter__) (defScope s_Binder___iter__) [] [] (He.ma c.K c.Binder "__iter__") fd)  : Fn P w c.K mg base 1 (He.ma c.K c.Binder "__iter__") ["self"] (sp_Binder___iter__ c) := by
  obtain ⟨fd, F⟩ := F
  exact Fn.mk' (t := fun E => t_Binder___iter__ c E) F sc_Binder___iter__ (fun vs H Q E h => by obtain ⟨_, _, _, rfl, _⟩ := h; rfl) (fun _ _ _ _ _ _ us hl => match us, hl with | [_], _ => rfl) (fun cdv A outer s H E hr => der_Binder___iter__ T hr ) (fun vs H Q E h => sem_Binder_iter h)
abbrev n__law_begin : List Str := ["_law_script", "_law_cell"]
abbrev s__law_begin : Stmt := topS 79
theorem sc__law_begin : FnScope ["_law_script", "_law_cell"] ["_law_script"] (defScope s__law_begin) := ⟨rfl, rfl, rfl, by decide +kernel, rfl, by decide +kernel, by decide +kernel⟩
theorem der__law_begin {f : Addr} {cdv : Value} {A : Around} {outer : List Env} {s : Shared} {H : Hp} {E : XK} (T : Txt c mg) (hr : Room 0 (A.deeper (envOfC "_law_begin" (defScope s__law_begin) s.heap.objs.size f cdv)))  :
    PSs (cxOf (L2.CX P w) P w c.K mg base ["_law_script", "_law_cell"] "_law_begin" (defScope s__law_begin) f cdv A outer s H E) (defBody s__law_begin) (t__law_begin c E) := by
  have sc := sc__law_begin
  have hu := hr.units
  have po := po_cx (CX := L2.CX P w) (P := P) (w := w) (K := c.K) (mg := mg) (base := base) (N := ["_law_script", "_law_cell"]) (qual := "_law_begin") (scope := defScope s__law_begin) (f := f) (cd := cdv) (A := A) (outer := outer) (s := s) (H := H) (E := E)
  have px := px_cx (P := P) (w := w) (K := c.K) (mg := mg) (base := base) (N := ["_law_script", "_law_cell"]) (qual := "_law_begin") (scope := defScope s__law_begin) (f := f) (cd := cdv) (A := A) (outer := outer) (s := s) (H := H) (E := E)
  exact (pss_one (ps_ret (d_list (a_cons d_int (a_cons d_int (a_cons (d_comp (own := [("_law_cell", 1)]) rfl sc.nd (blkOk_by (N := n__law_begin) (sc := defScope s__law_begin) (by decide +kernel)) (f_list (d_sliceK (d_var 0) o_none (o_some d_int))) (fun _ _ _ _ _ => (pg_name (i := 1) sc.nd rfl (by first | exact .inl rfl | exact .inr rfl))) (fun _ _ _ _ _ => pts_nil) (fun _ _ _ _ _ => (d_ct c_int T.m_int boot_int (a_cons (d_var 1) a_nil)))) a_nil))))))
theorem ok__law_begin (T : Txt c mg) (F : ∃ fd, FunD c.K "_law_begin" "_law_begin" (defArgs s__law_begin) (defBody s__law_begin) (defScope s__law_begin) [] [] (He.ga c.K "_law_begin") fd)  : Fn P w c.K mg base 1 (He.ga c.K "_law_begin") ["_law_script"] (sp__law_begin c) := by
  obtain ⟨fd, F⟩ := F
  exact Fn.mk' (t := fun E => t__law_begin c E) F sc__law_begin (fun vs H Q E h => by obtain ⟨_, _, rfl, _⟩ := h; rfl) (fun _ _ _ _ _ _ us hl => match us, hl with | [_], _ => rfl) (fun cdv A outer s H E hr => der__law_begin T hr ) (fun vs H Q E h => sem__law_begin h)
abbrev n__law_draw : List Str := ["_law_state", "_law_limit", "_law_cells", "_law_value"]
abbrev s__law_draw : Stmt := topS 80
theorem sc__law_draw : FnScope ["_law_state", "_law_limit", "_law_cells", "_law_value"] ["_law_state", "_law_limit"] (defScope s__law_draw) := ⟨rfl, rfl, rfl, by decide +kernel, rfl, by decide +kernel, by decide +kernel⟩
theorem der__law_draw {f : Addr} {cdv : Value} {A : Around} {outer : List Env} {s : Shared} {H : Hp} {E : XK} (T : Txt c mg) (hr : Room 0 (A.deeper (envOfC "_law_draw" (defScope s__law_draw) s.heap.objs.size f cdv)))  :
    PSs (cxOf (L2.CX P w) P w c.K mg base ["_law_state", "_law_limit", "_law_cells", "_law_value"] "_law_draw" (defScope s__law_draw) f cdv A outer s H E) (defBody s__law_draw) (t__law_draw c E) := by
  have sc := sc__law_draw
  have hu := hr.units
  have po := po_cx (CX := L2.CX P w) (P := P) (w := w) (K := c.K) (mg := mg) (base := base) (N := ["_law_state", "_law_limit", "_law_cells", "_law_value"]) (qual := "_law_draw") (scope := defScope s__law_draw) (f := f) (cd := cdv) (A := A) (outer := outer) (s := s) (H := H) (E := E)
  have px := px_cx (P := P) (w := w) (K := c.K) (mg := mg) (base := base) (N := ["_law_state", "_law_limit", "_law_cells", "_law_value"]) (qual := "_law_draw") (scope := defScope s__law_draw) (f := f) (cd := cdv) (A := A) (outer := outer) (s := s) (H := H) (E := E)
  exact (pss_cons (ps_set (i := 2) sc.nd rfl (by first | exact .inl rfl | exact .inr rfl) (d_idx (d_var 0) d_int))
  (pss_cons (d_while po (t_and (t_cmp op_eqSV (d_idx (d_var 0) d_int) d_int) (t_cmp op_ltV (d_idx (d_var 0) d_int) (d_cb c_len T.m_len boot_len (a_cons (d_var 2) a_nil))))
  (pss_cons (ps_asg (d_cb c_abs T.m_abs (by decide +kernel) (a_cons (d_ct c_int T.m_int boot_int (a_cons (d_idx (d_var 2) (d_idx (d_var 0) d_int)) a_nil)) a_nil)) (pg_sub (d_var 0) d_int set_V))
  (pss_one (ps_asg (d_bin op_addV (d_idx (d_var 0) d_int) d_int) (pg_sub (d_var 0) d_int set_V)))))
  (pss_cons (ps_set (i := 3) sc.nd rfl (by first | exact .inl rfl | exact .inr rfl) (d_bin op_modV (d_ct c_int T.m_int boot_int (a_cons (d_idx (d_var 0) d_int) a_nil)) (d_var 1)))
  (pss_cons (ps_asg (d_bin op_divV (d_ct c_int T.m_int boot_int (a_cons (d_idx (d_var 0) d_int) a_nil)) (d_var 1)) (pg_sub (d_var 0) d_int set_V))
  (pss_one (ps_ret (d_var 3)))))))
theorem ok__law_draw (T : Txt c mg) (F : ∃ fd, FunD c.K "_law_draw" "_law_draw" (defArgs s__law_draw) (defBody s__law_draw) (defScope s__law_draw) [] [] (He.ga c.K "_law_draw") fd)  : Fn P w c.K mg base 1 (He.ga c.K "_law_draw") ["_law_state", "_law_limit"] (sp__law_draw c) := by
  obtain ⟨fd, F⟩ := F
  exact Fn.mk' (t := fun E => t__law_draw c E) F sc__law_draw (fun vs H Q E h => by obtain ⟨_, _, _, rfl, _⟩ := h; rfl) (fun _ _ _ _ _ _ us hl => match us, hl with | [_, _], _ => rfl) (fun cdv A outer s H E hr => der__law_draw T hr ) (fun vs H Q E h => sem__law_draw h)
abbrev n__law_best : List Str := ["_law_places", "_law_sets", "_law_begin_here", "_law_end", "_law_row", "_law_place", "_law_here", "_law_number", "_law_more"]
abbrev s__law_best : Stmt := topS 81
theorem sc__law_best : FnScope ["_law_places", "_law_sets", "_law_begin_here", "_law_end", "_law_row", "_law_place", "_law_here", "_law_number", "_law_more"] ["_law_places", "_law_sets", "_law_begin_here", "_law_end"] (defScope s__law_best) := ⟨rfl, rfl, rfl, by decide +kernel, rfl, by decide +kernel, by decide +kernel⟩
theorem der__law_best {f : Addr} {cdv : Value} {A : Around} {outer : List Env} {s : Shared} {H : Hp} {E : XK} (T : Txt c mg) (hr : Room 0 (A.deeper (envOfC "_law_best" (defScope s__law_best) s.heap.objs.size f cdv)))  :
    PSs (cxOf (L2.CX P w) P w c.K mg base ["_law_places", "_law_sets", "_law_begin_here", "_law_end", "_law_row", "_law_place", "_law_here", "_law_number", "_law_more"] "_law_best" (defScope s__law_best) f cdv A outer s H E) (defBody s__law_best) (t__law_best c E) := by
  have sc := sc__law_best
  have hu := hr.units
  have po := po_cx (CX := L2.CX P w) (P := P) (w := w) (K := c.K) (mg := mg) (base := base) (N := ["_law_places", "_law_sets", "_law_begin_here", "_law_end", "_law_row", "_law_place", "_law_here", "_law_number", "_law_more"]) (qual := "_law_best") (scope := defScope s__law_best) (f := f) (cd := cdv) (A := A) (outer := outer) (s := s) (H := H) (E := E)
  have px := px_cx (P := P) (w := w) (K := c.K) (mg := mg) (base := base) (N := ["_law_places", "_law_sets", "_law_begin_here", "_law_end", "_law_row", "_law_place", "_law_here", "_law_number", "_law_more"]) (qual := "_law_best") (scope := defScope s__law_best) (f := f) (cd := cdv) (A := A) (outer := outer) (s := s) (H := H) (E := E)
  exact (pss_cons (ps_set (i := 4) sc.nd rfl (by first | exact .inl rfl | exact .inr rfl) (d_bin op_mulV (d_list (a_cons d_int a_nil)) (d_bin op_addV (d_cb c_len T.m_len boot_len (a_cons (d_var 1) a_nil)) d_int)))
  (pss_cons (d_for po rfl (f_rng2 T.m_range (d_var 2) (d_var 3)) (pg_name (i := 5) sc.nd rfl (by first | exact .inl rfl | exact .inr rfl))
  (pss_cons (ps_set (i := 6) sc.nd rfl (by first | exact .inl rfl | exact .inr rfl) (d_bin op_modV (d_ct c_int T.m_int boot_int (a_cons (d_var 5) a_nil)) (d_var 0)))
  (pss_cons (d_for po rfl (f_rngD T.m_range (d_cb c_len T.m_len boot_len (a_cons (d_var 1) a_nil)) d_int (d_neg d_int)) (pg_name (i := 7) sc.nd rfl (by first | exact .inl rfl | exact .inr rfl))
  (pss_cons (ps_set (i := 8) sc.nd rfl (by first | exact .inl rfl | exact .inr rfl) (d_bin op_addV (d_idx (d_var 4) (d_bin op_subV (d_var 7) d_int)) d_int))
  (pss_one (ps_if (t_and (t_cmp op_inVV (d_var 6) (d_idx (d_var 1) (d_bin op_subV (d_var 7) d_int))) (t_cmp op_gtV (d_var 8) (d_idx (d_var 4) (d_var 7))))
  (pss_one (ps_asg (d_var 8) (pg_sub (d_var 4) (d_var 7) set_V)))
  pss_nil))))
  (pss_one (d_for po rfl (f_rng2 T.m_range d_int (d_bin op_addV (d_cb c_len T.m_len boot_len (a_cons (d_var 1) a_nil)) d_int)) (pg_name (i := 7) sc.nd rfl (by first | exact .inl rfl | exact .inr rfl))
  (pss_one (ps_if (t_cmp op_ltV (d_idx (d_var 4) (d_var 7)) (d_idx (d_var 4) (d_bin op_subV (d_var 7) d_int)))
  (pss_one (ps_asg (d_idx (d_var 4) (d_bin op_subV (d_var 7) d_int)) (pg_sub (d_var 4) (d_var 7) set_V)))
  pss_nil)))))))
  (pss_one (ps_ret (d_idx (d_var 4) (d_cb c_len T.m_len boot_len (a_cons (d_var 1) a_nil)))))))
theorem ok__law_best (T : Txt c mg) (F : ∃ fd, FunD c.K "_law_best" "_law_best" (defArgs s__law_best) (defBody s__law_best) (defScope s__law_best) [] [] (He.ga c.K "_law_best") fd)  : Fn P w c.K mg base 1 (He.ga c.K "_law_best") ["_law_places", "_law_sets", "_law_begin_here", "_law_end"] (sp__law_best c) := by
  obtain ⟨fd, F⟩ := F
  exact Fn.mk' (t := fun E => t__law_best c E) F sc__law_best (fun vs H Q E h => by obtain ⟨_, _, _, _, _, rfl, _⟩ := h; rfl) (fun _ _ _ _ _ _ us hl => match us, hl with | [_, _, _, _], _ => rfl) (fun cdv A outer s H E hr => der__law_best T hr ) (fun vs H Q E h => sem__law_best h)
abbrev n__law_page : List Str := ["_law_sets", "_law_page_here", "_law_stands_here", "_law_code", "_law_place"]
abbrev s__law_page : Stmt := topS 82
theorem sc__law_page : FnScope ["_law_sets", "_law_page_here", "_law_stands_here", "_law_code", "_law_place"] ["_law_sets"] (defScope s__law_page) := ⟨rfl, rfl, rfl, by decide +kernel, rfl, by decide +kernel, by decide +kernel⟩
theorem der__law_page {f : Addr} {cdv : Value} {A : Around} {outer : List Env} {s : Shared} {H : Hp} {E : XK} (T : Txt c mg) (hr : Room 0 (A.deeper (envOfC "_law_page" (defScope s__law_page) s.heap.objs.size f cdv)))  :
    PSs (cxOf (L2.CX P w) P w c.K mg base ["_law_sets", "_law_page_here", "_law_stands_here", "_law_code", "_law_place"] "_law_page" (defScope s__law_page) f cdv A outer s H E) (defBody s__law_page) (t__law_page c E) := by
  have sc := sc__law_page
  have hu := hr.units
  have po := po_cx (CX := L2.CX P w) (P := P) (w := w) (K := c.K) (mg := mg) (base := base) (N := ["_law_sets", "_law_page_here", "_law_stands_here", "_law_code", "_law_place"]) (qual := "_law_page") (scope := defScope s__law_page) (f := f) (cd := cdv) (A := A) (outer := outer) (s := s) (H := H) (E := E)
  have px := px_cx (P := P) (w := w) (K := c.K) (mg := mg) (base := base) (N := ["_law_sets", "_law_page_here", "_law_stands_here", "_law_code", "_law_place"]) (qual := "_law_page") (scope := defScope s__law_page) (f := f) (cd := cdv) (A := A) (outer := outer) (s := s) (H := H) (E := E)
  exact (pss_cons (ps_set (i := 1) sc.nd rfl (by first | exact .inl rfl | exact .inr rfl) d_str)
  (pss_cons (d_for po rfl (f_list (d_var 0)) (pg_name (i := 2) sc.nd rfl (by first | exact .inl rfl | exact .inr rfl))
  (pss_cons (ps_set (i := 3) sc.nd rfl (by first | exact .inl rfl | exact .inr rfl) d_int)
  (pss_cons (d_for po rfl (f_list (d_var 2)) (pg_name (i := 4) sc.nd rfl (by first | exact .inl rfl | exact .inr rfl))
  (pss_one (ps_set (i := 3) sc.nd rfl (by first | exact .inl rfl | exact .inr rfl) (d_bin op_addV (d_var 3) (d_idx (d_list (a_cons d_int (a_cons d_int (a_cons d_int (a_cons d_int a_nil))))) (d_var 4))))))
  (pss_one (ps_set (i := 1) sc.nd rfl (by first | exact .inl rfl | exact .inr rfl) (d_bin op_addV (d_var 1) (d_idx d_str (d_bin op_subV (d_var 3) d_int))))))))
  (pss_one (ps_ret (d_var 1)))))
theorem ok__law_page (T : Txt c mg) (F : ∃ fd, FunD c.K "_law_page" "_law_page" (defArgs s__law_page) (defBody s__law_page) (defScope s__law_page) [] [] (He.ga c.K "_law_page") fd)  : Fn P w c.K mg base 1 (He.ga c.K "_law_page") ["_law_sets"] (sp__law_page c) := by
  obtain ⟨fd, F⟩ := F
  exact Fn.mk' (t := fun E => t__law_page c E) F sc__law_page (fun vs H Q E h => by obtain ⟨_, _, _, rfl, _⟩ := h; rfl) (fun _ _ _ _ _ _ us hl => match us, hl with | [_], _ => rfl) (fun cdv A outer s H E hr => der__law_page T hr ) (fun vs H Q E h => sem__law_page h)
abbrev n__law_numbers : List Str := ["_law_told", "_law_item"]
abbrev s__law_numbers : Stmt := topS 83
theorem sc__law_numbers : FnScope ["_law_told", "_law_item"] ["_law_told"] (defScope s__law_numbers) := ⟨rfl, rfl, rfl, by decide +kernel, rfl, by decide +kernel, by decide +kernel⟩
theorem der__law_numbers {f : Addr} {cdv : Value} {A : Around} {outer : List Env} {s : Shared} {H : Hp} {E : XK} (T : Txt c mg) (hr : Room 0 (A.deeper (envOfC "_law_numbers" (defScope s__law_numbers) s.heap.objs.size f cdv)))  :
    PSs (cxOf (L2.CX P w) P w c.K mg base ["_law_told", "_law_item"] "_law_numbers" (defScope s__law_numbers) f cdv A outer s H E) (defBody s__law_numbers) (t__law_numbers c E) := by
  have sc := sc__law_numbers
  have hu := hr.units
  have po := po_cx (CX := L2.CX P w) (P := P) (w := w) (K := c.K) (mg := mg) (base := base) (N := ["_law_told", "_law_item"]) (qual := "_law_numbers") (scope := defScope s__law_numbers) (f := f) (cd := cdv) (A := A) (outer := outer) (s := s) (H := H) (E := E)
  have px := px_cx (P := P) (w := w) (K := c.K) (mg := mg) (base := base) (N := ["_law_told", "_law_item"]) (qual := "_law_numbers") (scope := defScope s__law_numbers) (f := f) (cd := cdv) (A := A) (outer := outer) (s := s) (H := H) (E := E)
  exact (pss_cons (ps_if (t_not (t_val (d_cb (c_isi isi_list (.ty _)) T.m_isinstance (by decide +kernel) (a_cons (d_var 0) (a_cons (pe_bltn (v := .ty "list") (by rfl) T.m_list (by decide +kernel) rfl) a_nil)))))
  (pss_one (ps_ret d_bl))
  pss_nil)
  (pss_cons (d_for po rfl (f_list (d_var 0)) (pg_name (i := 1) sc.nd rfl (by first | exact .inl rfl | exact .inr rfl))
  (pss_one (ps_if (t_or (t_not (t_val (d_cb (c_isi isi_int (.ty _)) T.m_isinstance (by decide +kernel) (a_cons (d_var 1) (a_cons (pe_bltn (v := .ty "int") (by rfl) T.m_int (by decide +kernel) rfl) a_nil))))) (t_val (d_cb (c_isi isi_bool (.ty _)) T.m_isinstance (by decide +kernel) (a_cons (d_var 1) (a_cons (pe_bltn (v := .ty "bool") (by rfl) T.m_bool (by decide +kernel) rfl) a_nil)))))
  (pss_one (ps_ret d_bl))
  pss_nil)))
  (pss_one (ps_ret d_bl))))
theorem ok__law_numbers (T : Txt c mg) (F : ∃ fd, FunD c.K "_law_numbers" "_law_numbers" (defArgs s__law_numbers) (defBody s__law_numbers) (defScope s__law_numbers) [] [] (He.ga c.K "_law_numbers") fd)  : Fn P w c.K mg base 1 (He.ga c.K "_law_numbers") ["_law_told"] (sp__law_numbers c) := by
  obtain ⟨fd, F⟩ := F
  exact Fn.mk' (t := fun E => t__law_numbers c E) F sc__law_numbers (fun vs H Q E h => by obtain ⟨_, _, rfl, _⟩ := h; rfl) (fun _ _ _ _ _ _ us hl => match us, hl with | [_], _ => rfl) (fun cdv A outer s H E hr => der__law_numbers T hr ) (fun vs H Q E h => sem__law_numbers h)
abbrev n__law_stands : List Str := ["_law_places", "_law_code", "_law_bits", "_law_x"]
abbrev s__law_stands : Stmt := topS 84
theorem sc__law_stands : FnScope ["_law_places", "_law_code", "_law_bits", "_law_x"] ["_law_places", "_law_code"] (defScope s__law_stands) := ⟨rfl, rfl, rfl, by decide +kernel, rfl, by decide +kernel, by decide +kernel⟩
theorem der__law_stands {f : Addr} {cdv : Value} {A : Around} {outer : List Env} {s : Shared} {H : Hp} {E : XK} (T : Txt c mg) (hr : Room 0 (A.deeper (envOfC "_law_stands" (defScope s__law_stands) s.heap.objs.size f cdv)))  :
    PSs (cxOf (L2.CX P w) P w c.K mg base ["_law_places", "_law_code", "_law_bits", "_law_x"] "_law_stands" (defScope s__law_stands) f cdv A outer s H E) (defBody s__law_stands) (t__law_stands c E) := by
  have sc := sc__law_stands
  have hu := hr.units
  have po := po_cx (CX := L2.CX P w) (P := P) (w := w) (K := c.K) (mg := mg) (base := base) (N := ["_law_places", "_law_code", "_law_bits", "_law_x"]) (qual := "_law_stands") (scope := defScope s__law_stands) (f := f) (cd := cdv) (A := A) (outer := outer) (s := s) (H := H) (E := E)
  have px := px_cx (P := P) (w := w) (K := c.K) (mg := mg) (base := base) (N := ["_law_places", "_law_code", "_law_bits", "_law_x"]) (qual := "_law_stands") (scope := defScope s__law_stands) (f := f) (cd := cdv) (A := A) (outer := outer) (s := s) (H := H) (E := E)
  exact (pss_cons (ps_set (i := 2) sc.nd rfl (by first | exact .inl rfl | exact .inr rfl) (d_list (a_cons d_int (a_cons d_int (a_cons d_int (a_cons d_int a_nil))))))
  (pss_one (ps_ret (d_comp (own := [("_law_x", 3)]) rfl sc.nd (blkOk_by (N := n__law_stands) (sc := defScope s__law_stands) (by decide +kernel)) (f_rng1 T.m_range (d_var 0)) (fun _ _ _ _ _ => (pg_name (i := 3) sc.nd rfl (by first | exact .inl rfl | exact .inr rfl))) (fun _ _ _ _ _ => (pts_one (t_cmp op_eqSV (d_bin op_modV (d_bin op_divV (d_ct c_int T.m_int boot_int (a_cons (d_var 1) a_nil)) (d_idx (d_var 2) (d_var 3))) d_int) d_int))) (fun _ _ _ _ _ => (d_var 3))))))
theorem ok__law_stands (T : Txt c mg) (F : ∃ fd, FunD c.K "_law_stands" "_law_stands" (defArgs s__law_stands) (defBody s__law_stands) (defScope s__law_stands) [] [] (He.ga c.K "_law_stands") fd)  : Fn P w c.K mg base 1 (He.ga c.K "_law_stands") ["_law_places", "_law_code"] (sp__law_stands c) := by
  obtain ⟨fd, F⟩ := F
  exact Fn.mk' (t := fun E => t__law_stands c E) F sc__law_stands (fun vs H Q E h => by obtain ⟨_, _, rfl, _⟩ := h; rfl) (fun _ _ _ _ _ _ us hl => match us, hl with | [_, _], _ => rfl) (fun cdv A outer s H E hr => der__law_stands T hr ) (fun vs H Q E h => sem__law_stands h)
abbrev n__law_entries : List Str := ["_law_state", "_law_places", "_law_many", "_law_shift", "_law_codes", "_law_sets", "_law_entry", "_law_code"]
abbrev s__law_entries : Stmt := topS 85
theorem sc__law_entries : FnScope ["_law_state", "_law_places", "_law_many", "_law_shift", "_law_codes", "_law_sets", "_law_entry", "_law_code"] ["_law_state", "_law_places", "_law_many", "_law_shift"] (defScope s__law_entries) := ⟨rfl, rfl, rfl, by decide +kernel, rfl, by decide +kernel, by decide +kernel⟩
theorem der__law_entries {f : Addr} {cdv : Value} {A : Around} {outer : List Env} {s : Shared} {H : Hp} {E : XK} (T : Txt c mg) (hr : Room 1 (A.deeper (envOfC "_law_entries" (defScope s__law_entries) s.heap.objs.size f cdv))) (Fo__law_draw : Fn P w c.K mg base 1 (He.ga c.K "_law_draw") ["_law_state", "_law_limit"] (sp__law_draw c)) (Fo__law_stands : Fn P w c.K mg base 1 (He.ga c.K "_law_stands") ["_law_places", "_law_code"] (sp__law_stands c)) :
    PSs (cxOf (L2.CX P w) P w c.K mg base ["_law_state", "_law_places", "_law_many", "_law_shift", "_law_codes", "_law_sets", "_law_entry", "_law_code"] "_law_entries" (defScope s__law_entries) f cdv A outer s H E) (defBody s__law_entries) (t__law_entries c E) := by
  have sc := sc__law_entries
  have hu := hr.units
  have po := po_cx (CX := L2.CX P w) (P := P) (w := w) (K := c.K) (mg := mg) (base := base) (N := ["_law_state", "_law_places", "_law_many", "_law_shift", "_law_codes", "_law_sets", "_law_entry", "_law_code"]) (qual := "_law_entries") (scope := defScope s__law_entries) (f := f) (cd := cdv) (A := A) (outer := outer) (s := s) (H := H) (E := E)
  have px := px_cx (P := P) (w := w) (K := c.K) (mg := mg) (base := base) (N := ["_law_state", "_law_places", "_law_many", "_law_shift", "_law_codes", "_law_sets", "_law_entry", "_law_code"]) (qual := "_law_entries") (scope := defScope s__law_entries) (f := f) (cd := cdv) (A := A) (outer := outer) (s := s) (H := H) (E := E)
  exact (pss_cons (ps_set (i := 4) sc.nd rfl (by first | exact .inl rfl | exact .inr rfl) (d_idx (d_list (a_cons d_int (a_cons d_int (a_cons d_int (a_cons d_int a_nil))))) (d_bin op_subV (d_var 1) d_int)))
  (pss_cons (ps_set (i := 5) sc.nd rfl (by first | exact .inl rfl | exact .inr rfl) (d_list a_nil))
  (pss_cons (d_for po rfl (f_rng1 T.m_range (d_var 2)) (pg_name (i := 6) sc.nd rfl (by first | exact .inl rfl | exact .inr rfl))
  (pss_cons (ps_set (i := 7) sc.nd rfl (by first | exact .inl rfl | exact .inr rfl) (d_bin op_modV (d_ct c_int T.m_int boot_int (a_cons (d_bin op_addV (d_bin op_addV (Fo__law_draw.call T.g__law_draw (hr.mono (by decide)) px (a_cons (d_var 0) (a_cons (d_var 4) a_nil))) (d_var 3)) (d_var 6)) a_nil)) (d_var 4)))
  (pss_one (ps_expr (d_lm PySem.F.plainAttrs_list PySem.F.slot_list_append PySem.F.type_list_append m_append (d_var 5) (a_cons (Fo__law_stands.call T.g__law_stands (hr.mono (by decide)) px (a_cons (d_var 1) (a_cons (d_bin op_addV (d_var 7) d_int) a_nil))) a_nil))))))
  (pss_one (ps_ret (d_var 5))))))
theorem ok__law_entries (T : Txt c mg) (F : ∃ fd, FunD c.K "_law_entries" "_law_entries" (defArgs s__law_entries) (defBody s__law_entries) (defScope s__law_entries) [] [] (He.ga c.K "_law_entries") fd) (Fo__law_draw : Fn P w c.K mg base 1 (He.ga c.K "_law_draw") ["_law_state", "_law_limit"] (sp__law_draw c)) (Fo__law_stands : Fn P w c.K mg base 1 (He.ga c.K "_law_stands") ["_law_places", "_law_code"] (sp__law_stands c)) : Fn P w c.K mg base 2 (He.ga c.K "_law_entries") ["_law_state", "_law_places", "_law_many", "_law_shift"] (sp__law_entries c) := by
  obtain ⟨fd, F⟩ := F
  exact Fn.mk' (t := fun E => t__law_entries c E) F sc__law_entries (fun vs H Q E h => by obtain ⟨_, _, _, _, _, _, rfl, _⟩ := h; rfl) (fun _ _ _ _ _ _ us hl => match us, hl with | [_, _, _, _], _ => rfl) (fun cdv A outer s H E hr => der__law_entries T hr Fo__law_draw Fo__law_stands) (fun vs H Q E h => sem__law_entries h)
abbrev n__law_binder : List Str := ["_law_calendar", "_law_pages", "_law_binder_here", "_law_page_here"]
abbrev s__law_binder : Stmt := topS 86
theorem sc__law_binder : FnScope ["_law_calendar", "_law_pages", "_law_binder_here", "_law_page_here"] ["_law_calendar", "_law_pages"] (defScope s__law_binder) := ⟨rfl, rfl, rfl, by decide +kernel, rfl, by decide +kernel, by decide +kernel⟩
theorem der__law_binder {f : Addr} {cdv : Value} {A : Around} {outer : List Env} {s : Shared} {H : Hp} {E : XK} (T : Txt c mg) (hr : Room 10 (A.deeper (envOfC "_law_binder" (defScope s__law_binder) s.heap.objs.size f cdv))) (Fo_Binder___init__ : FnS P w c.K mg base 9 (He.ma c.K c.Binder "__init__") (sp_Binder___init__ c)) (Fo_Binder_insert : Fn P w c.K mg base 9 (He.ma c.K c.Binder "insert") ["self", "number", "page"] (sp_Binder_insert c)) (Fo_Binder___len__ : Fn P w c.K mg base 1 (He.ma c.K c.Binder "__len__") ["self"] (sp_Binder___len__ c)) (Fo__law_page : Fn P w c.K mg base 1 (He.ga c.K "_law_page") ["_law_sets"] (sp__law_page c)) :
    PSs (cxOf (L2.CX P w) P w c.K mg base ["_law_calendar", "_law_pages", "_law_binder_here", "_law_page_here"] "_law_binder" (defScope s__law_binder) f cdv A outer s H E) (defBody s__law_binder) (t__law_binder c E) := by
  have sc := sc__law_binder
  have hu := hr.units
  have po := po_cx (CX := L2.CX P w) (P := P) (w := w) (K := c.K) (mg := mg) (base := base) (N := ["_law_calendar", "_law_pages", "_law_binder_here", "_law_page_here"]) (qual := "_law_binder") (scope := defScope s__law_binder) (f := f) (cd := cdv) (A := A) (outer := outer) (s := s) (H := H) (E := E)
  have px := px_cx (P := P) (w := w) (K := c.K) (mg := mg) (base := base) (N := ["_law_calendar", "_law_pages", "_law_binder_here", "_law_page_here"]) (qual := "_law_binder") (scope := defScope s__law_binder) (f := f) (cd := cdv) (A := A) (outer := outer) (s := s) (H := H) (E := E)
  exact (pss_cons (ps_set (i := 2) sc.nd rfl (by first | exact .inl rfl | exact .inr rfl) (Fo_Binder___init__.make T.mk_Binder T.g_Binder (hr.mono (by decide)) px (a_cons (d_var 0) a_nil)))
  (pss_cons (d_for po rfl (f_list (d_var 1)) (pg_name (i := 3) sc.nd rfl (by first | exact .inl rfl | exact .inr rfl))
  (pss_one (ps_expr (Fo_Binder_insert.meth T.cl_Binder T.mt_Binder_insert (hr.mono (by decide)) px (d_var 2) (a_cons (d_cb (Fo_Binder___len__.len T.hs_Binder___len__.1 T.hs_Binder___len__.2 (hr.mono (by decide))) T.m_len boot_len (a_cons (d_var 2) a_nil)) (a_cons (Fo__law_page.call T.g__law_page (hr.mono (by decide)) px (a_cons (d_var 3) a_nil)) a_nil)) rfl))))
  (pss_one (ps_ret (d_var 2)))))
theorem ok__law_binder (T : Txt c mg) (F : ∃ fd, FunD c.K "_law_binder" "_law_binder" (defArgs s__law_binder) (defBody s__law_binder) (defScope s__law_binder) [] [] (He.ga c.K "_law_binder") fd) (Fo_Binder___init__ : FnS P w c.K mg base 9 (He.ma c.K c.Binder "__init__") (sp_Binder___init__ c)) (Fo_Binder_insert : Fn P w c.K mg base 9 (He.ma c.K c.Binder "insert") ["self", "number", "page"] (sp_Binder_insert c)) (Fo_Binder___len__ : Fn P w c.K mg base 1 (He.ma c.K c.Binder "__len__") ["self"] (sp_Binder___len__ c)) (Fo__law_page : Fn P w c.K mg base 1 (He.ga c.K "_law_page") ["_law_sets"] (sp__law_page c)) : Fn P w c.K mg base 11 (He.ga c.K "_law_binder") ["_law_calendar", "_law_pages"] (sp__law_binder c) := by
  obtain ⟨fd, F⟩ := F
  exact Fn.mk' (t := fun E => t__law_binder c E) F sc__law_binder (fun vs H Q E h => by obtain ⟨_, _, _, _, rfl, _⟩ := h; rfl) (fun _ _ _ _ _ _ us hl => match us, hl with | [_, _], _ => rfl) (fun cdv A outer s H E hr => der__law_binder T hr Fo_Binder___init__ Fo_Binder_insert Fo_Binder___len__ Fo__law_page) (fun vs H Q E h => sem__law_binder h)
abbrev n__law_other : List Str := ["_law_state", "_law_places", "_law_page_here", "_law_kind", "_law_fresh"]
abbrev s__law_other : Stmt := topS 87
theorem sc__law_other : FnScope ["_law_state", "_law_places", "_law_page_here", "_law_kind", "_law_fresh"] ["_law_state", "_law_places", "_law_page_here"] (defScope s__law_other) := ⟨rfl, rfl, rfl, by decide +kernel, rfl, by decide +kernel, by decide +kernel⟩
theorem der__law_other {f : Addr} {cdv : Value} {A : Around} {outer : List Env} {s : Shared} {H : Hp} {E : XK} (T : Txt c mg) (hr : Room 2 (A.deeper (envOfC "_law_other" (defScope s__law_other) s.heap.objs.size f cdv))) (Fo__law_draw : Fn P w c.K mg base 1 (He.ga c.K "_law_draw") ["_law_state", "_law_limit"] (sp__law_draw c)) (Fo__law_entries : Fn P w c.K mg base 2 (He.ga c.K "_law_entries") ["_law_state", "_law_places", "_law_many", "_law_shift"] (sp__law_entries c)) :
    PSs (cxOf (L2.CX P w) P w c.K mg base ["_law_state", "_law_places", "_law_page_here", "_law_kind", "_law_fresh"] "_law_other" (defScope s__law_other) f cdv A outer s H E) (defBody s__law_other) (t__law_other c E) := by
  have sc := sc__law_other
  have hu := hr.units
  have po := po_cx (CX := L2.CX P w) (P := P) (w := w) (K := c.K) (mg := mg) (base := base) (N := ["_law_state", "_law_places", "_law_page_here", "_law_kind", "_law_fresh"]) (qual := "_law_other") (scope := defScope s__law_other) (f := f) (cd := cdv) (A := A) (outer := outer) (s := s) (H := H) (E := E)
  have px := px_cx (P := P) (w := w) (K := c.K) (mg := mg) (base := base) (N := ["_law_state", "_law_places", "_law_page_here", "_law_kind", "_law_fresh"]) (qual := "_law_other") (scope := defScope s__law_other) (f := f) (cd := cdv) (A := A) (outer := outer) (s := s) (H := H) (E := E)
  exact (pss_cons (ps_set (i := 3) sc.nd rfl (by first | exact .inl rfl | exact .inr rfl) (Fo__law_draw.call T.g__law_draw (hr.mono (by decide)) px (a_cons (d_var 0) (a_cons d_int a_nil))))
  (pss_cons (ps_set (i := 4) sc.nd rfl (by first | exact .inl rfl | exact .inr rfl) (Fo__law_entries.call T.g__law_entries (hr.mono (by decide)) px (a_cons (d_var 0) (a_cons (d_var 1) (a_cons (d_idx (d_list (a_cons d_int (a_cons d_int (a_cons d_int (a_cons d_int a_nil))))) (Fo__law_draw.call T.g__law_draw (hr.mono (by decide)) px (a_cons (d_var 0) (a_cons d_int a_nil)))) (a_cons d_int a_nil))))))
  (pss_cons (ps_if (t_and (t_cmp op_eqSV (d_var 3) d_int) (t_cmp op_ltV (d_cb c_len T.m_len boot_len (a_cons (d_var 2) a_nil)) d_int))
  (pss_one (ps_ret (d_bin op_addV (d_var 2) (d_slice (d_var 4) o_none (o_some d_int)))))
  pss_nil)
  (pss_cons (ps_if (t_cmp op_eqSV (d_var 3) d_int)
  (pss_one (ps_ret (d_ct c_list T.m_list boot_list (a_cons (d_var 2) a_nil))))
  pss_nil)
  (pss_one (ps_ret (d_var 4)))))))
theorem ok__law_other (T : Txt c mg) (F : ∃ fd, FunD c.K "_law_other" "_law_other" (defArgs s__law_other) (defBody s__law_other) (defScope s__law_other) [] [] (He.ga c.K "_law_other") fd) (Fo__law_draw : Fn P w c.K mg base 1 (He.ga c.K "_law_draw") ["_law_state", "_law_limit"] (sp__law_draw c)) (Fo__law_entries : Fn P w c.K mg base 2 (He.ga c.K "_law_entries") ["_law_state", "_law_places", "_law_many", "_law_shift"] (sp__law_entries c)) : Fn P w c.K mg base 3 (He.ga c.K "_law_other") ["_law_state", "_law_places", "_law_page_here"] (sp__law_other c) := by
  obtain ⟨fd, F⟩ := F
  exact Fn.mk' (t := fun E => t__law_other c E) F sc__law_other (fun vs H Q E h => by obtain ⟨_, _, _, _, _, _, rfl, _⟩ := h; rfl) (fun _ _ _ _ _ _ us hl => match us, hl with | [_, _, _], _ => rfl) (fun cdv A outer s H E hr => der__law_other T hr Fo__law_draw Fo__law_entries) (fun vs H Q E h => sem__law_other h)
abbrev n__law_counts : List Str := ["_law_places", "_law_binder_here", "_law_pages", "_law_begin_here", "_law_end", "_law_rows", "_law_first", "_law_row", "_law_last", "_law_sets", "_law_page_here", "_law_told", "_law_due"]
abbrev s__law_counts : Stmt := topS 88
theorem sc__law_counts : FnScope ["_law_places", "_law_binder_here", "_law_pages", "_law_begin_here", "_law_end", "_law_rows", "_law_first", "_law_row", "_law_last", "_law_sets", "_law_page_here", "_law_told", "_law_due"] ["_law_places", "_law_binder_here", "_law_pages", "_law_begin_here", "_law_end"] (defScope s__law_counts) := ⟨rfl, rfl, rfl, by decide +kernel, rfl, by decide +kernel, by decide +kernel⟩
theorem der__law_counts {f : Addr} {cdv : Value} {A : Around} {outer : List Env} {s : Shared} {H : Hp} {E : XK} (T : Txt c mg) (hr : Room 8 (A.deeper (envOfC "_law_counts" (defScope s__law_counts) s.heap.objs.size f cdv))) (Fo_Binder_part_count : Fn P w c.K mg base 8 (He.ma c.K c.Binder "part_count") ["self", "first", "last", "begin", "end"] (sp_Binder_part_count c)) (Fo__law_best : Fn P w c.K mg base 1 (He.ga c.K "_law_best") ["_law_places", "_law_sets", "_law_begin_here", "_law_end"] (sp__law_best c)) (Fo__law_numbers : Fn P w c.K mg base 1 (He.ga c.K "_law_numbers") ["_law_told"] (sp__law_numbers c)) :
    PSs (cxOf (L2.CX P w) P w c.K mg base ["_law_places", "_law_binder_here", "_law_pages", "_law_begin_here", "_law_end", "_law_rows", "_law_first", "_law_row", "_law_last", "_law_sets", "_law_page_here", "_law_told", "_law_due"] "_law_counts" (defScope s__law_counts) f cdv A outer s H E) (defBody s__law_counts) (t__law_counts c E) := by
  have sc := sc__law_counts
  have hu := hr.units
  have po := po_cx (CX := L2.CX P w) (P := P) (w := w) (K := c.K) (mg := mg) (base := base) (N := ["_law_places", "_law_binder_here", "_law_pages", "_law_begin_here", "_law_end", "_law_rows", "_law_first", "_law_row", "_law_last", "_law_sets", "_law_page_here", "_law_told", "_law_due"]) (qual := "_law_counts") (scope := defScope s__law_counts) (f := f) (cd := cdv) (A := A) (outer := outer) (s := s) (H := H) (E := E)
  have px := px_cx (P := P) (w := w) (K := c.K) (mg := mg) (base := base) (N := ["_law_places", "_law_binder_here", "_law_pages", "_law_begin_here", "_law_end", "_law_rows", "_law_first", "_law_row", "_law_last", "_law_sets", "_law_page_here", "_law_told", "_law_due"]) (qual := "_law_counts") (scope := defScope s__law_counts) (f := f) (cd := cdv) (A := A) (outer := outer) (s := s) (H := H) (E := E)
  exact (pss_cons (ps_set (i := 5) sc.nd rfl (by first | exact .inl rfl | exact .inr rfl) (d_list a_nil))
  (pss_cons (d_for po rfl (f_rng1 T.m_range (d_bin op_addV (d_cb c_len T.m_len boot_len (a_cons (d_var 2) a_nil)) d_int)) (pg_name (i := 6) sc.nd rfl (by first | exact .inl rfl | exact .inr rfl))
  (pss_cons (ps_set (i := 7) sc.nd rfl (by first | exact .inl rfl | exact .inr rfl) (d_list a_nil))
  (pss_cons (d_for po rfl (f_rng2 T.m_range (d_var 6) (d_bin op_addV (d_cb c_len T.m_len boot_len (a_cons (d_var 2) a_nil)) d_int)) (pg_name (i := 8) sc.nd rfl (by first | exact .inl rfl | exact .inr rfl))
  (pss_cons (ps_set (i := 9) sc.nd rfl (by first | exact .inl rfl | exact .inr rfl) (d_list a_nil))
  (pss_cons (d_for po rfl (f_list (d_slice (d_var 2) (o_some (d_var 6)) (o_some (d_var 8)))) (pg_name (i := 10) sc.nd rfl (by first | exact .inl rfl | exact .inr rfl))
  (pss_one (ps_set (i := 9) sc.nd rfl (by first | exact .inl rfl | exact .inr rfl) (d_bin op_addV (d_var 9) (d_var 10)))))
  (pss_cons (ps_set (i := 11) sc.nd rfl (by first | exact .inl rfl | exact .inr rfl) (Fo_Binder_part_count.meth T.cl_Binder T.mt_Binder_part_count (hr.mono (by decide)) px (d_var 1) (a_cons (d_var 6) (a_cons (d_var 8) (a_cons (d_var 3) (a_cons (d_var 4) a_nil)))) rfl))
  (pss_cons (ps_set (i := 12) sc.nd rfl (by first | exact .inl rfl | exact .inr rfl) (Fo__law_best.call T.g__law_best (hr.mono (by decide)) px (a_cons (d_var 0) (a_cons (d_var 9) (a_cons (d_var 3) (a_cons (d_var 4) a_nil))))))
  (pss_cons (ps_if (t_or (t_not (t_val (Fo__law_numbers.call T.g__law_numbers (hr.mono (by decide)) px (a_cons (d_list (a_cons (d_var 11) a_nil)) a_nil)))) (t_cmp op_neSV (d_var 11) (d_var 12)))
  (pss_one (ps_ret (d_list a_nil)))
  pss_nil)
  (pss_one (ps_expr (d_lm PySem.F.plainAttrs_list PySem.F.slot_list_append PySem.F.type_list_append m_append (d_var 7) (a_cons (d_var 11) a_nil))))))))))
  (pss_one (ps_expr (d_lm PySem.F.plainAttrs_list PySem.F.slot_list_append PySem.F.type_list_append m_append (d_var 5) (a_cons (d_var 7) a_nil)))))))
  (pss_one (ps_ret (d_var 5)))))
theorem ok__law_counts (T : Txt c mg) (F : ∃ fd, FunD c.K "_law_counts" "_law_counts" (defArgs s__law_counts) (defBody s__law_counts) (defScope s__law_counts) [] [] (He.ga c.K "_law_counts") fd) (Fo_Binder_part_count : Fn P w c.K mg base 8 (He.ma c.K c.Binder "part_count") ["self", "first", "last", "begin", "end"] (sp_Binder_part_count c)) (Fo__law_best : Fn P w c.K mg base 1 (He.ga c.K "_law_best") ["_law_places", "_law_sets", "_law_begin_here", "_law_end"] (sp__law_best c)) (Fo__law_numbers : Fn P w c.K mg base 1 (He.ga c.K "_law_numbers") ["_law_told"] (sp__law_numbers c)) : Fn P w c.K mg base 9 (He.ga c.K "_law_counts") ["_law_places", "_law_binder_here", "_law_pages", "_law_begin_here", "_law_end"] (sp__law_counts c) := by
  obtain ⟨fd, F⟩ := F
  exact Fn.mk' (t := fun E => t__law_counts c E) F sc__law_counts (fun vs H Q E h => by obtain ⟨_, _, _, _, _, _, _, rfl, _⟩ := h; rfl) (fun _ _ _ _ _ _ us hl => match us, hl with | [_, _, _, _, _], _ => rfl) (fun cdv A outer s H E hr => der__law_counts T hr Fo_Binder_part_count Fo__law_best Fo__law_numbers) (fun vs H Q E h => sem__law_counts h)
abbrev n__law_replaced : List Str := ["_law_before", "_law_after", "_law_at", "_law_most", "_law_first", "_law_last", "_law_old", "_law_step"]
abbrev s__law_replaced : Stmt := topS 89
theorem sc__law_replaced : FnScope ["_law_before", "_law_after", "_law_at", "_law_most", "_law_first", "_law_last", "_law_old", "_law_step"] ["_law_before", "_law_after", "_law_at", "_law_most"] (defScope s__law_replaced) := ⟨rfl, rfl, rfl, by decide +kernel, rfl, by decide +kernel, by decide +kernel⟩
theorem der__law_replaced {f : Addr} {cdv : Value} {A : Around} {outer : List Env} {s : Shared} {H : Hp} {E : XK} (T : Txt c mg) (hr : Room 0 (A.deeper (envOfC "_law_replaced" (defScope s__law_replaced) s.heap.objs.size f cdv)))  :
    PSs (cxOf (L2.CX P w) P w c.K mg base ["_law_before", "_law_after", "_law_at", "_law_most", "_law_first", "_law_last", "_law_old", "_law_step"] "_law_replaced" (defScope s__law_replaced) f cdv A outer s H E) (defBody s__law_replaced) (t__law_replaced c E) := by
  have sc := sc__law_replaced
  have hu := hr.units
  have po := po_cx (CX := L2.CX P w) (P := P) (w := w) (K := c.K) (mg := mg) (base := base) (N := ["_law_before", "_law_after", "_law_at", "_law_most", "_law_first", "_law_last", "_law_old", "_law_step"]) (qual := "_law_replaced") (scope := defScope s__law_replaced) (f := f) (cd := cdv) (A := A) (outer := outer) (s := s) (H := H) (E := E)
  have px := px_cx (P := P) (w := w) (K := c.K) (mg := mg) (base := base) (N := ["_law_before", "_law_after", "_law_at", "_law_most", "_law_first", "_law_last", "_law_old", "_law_step"]) (qual := "_law_replaced") (scope := defScope s__law_replaced) (f := f) (cd := cdv) (A := A) (outer := outer) (s := s) (H := H) (E := E)
  exact (pss_cons (d_for po rfl (f_rng1 T.m_range (d_cb c_len T.m_len boot_len (a_cons (d_var 0) a_nil))) (pg_name (i := 4) sc.nd rfl (by first | exact .inl rfl | exact .inr rfl))
  (pss_one (d_for po rfl (f_rng2 T.m_range (d_var 4) (d_cb c_len T.m_len boot_len (a_cons (d_var 0) a_nil))) (pg_name (i := 5) sc.nd rfl (by first | exact .inl rfl | exact .inr rfl))
  (pss_cons (ps_set (i := 6) sc.nd rfl (by first | exact .inl rfl | exact .inr rfl) (d_idx (d_idx (d_var 0) (d_var 4)) (d_bin op_subV (d_var 5) (d_var 4))))
  (pss_cons (ps_set (i := 7) sc.nd rfl (by first | exact .inl rfl | exact .inr rfl) (d_cb c_abs T.m_abs (by decide +kernel) (a_cons (d_bin op_subV (d_idx (d_idx (d_var 1) (d_var 4)) (d_bin op_subV (d_var 5) (d_var 4))) (d_var 6)) a_nil)))
  (pss_one (ps_if (t_or (t_cmp op_gtV (d_var 7) (d_var 3)) (t_and (t_cmp op_gtV (d_var 7) d_int) (t_not (t_chain op_leV op_ltV (d_var 4) (d_var 2) (d_var 5)))))
  (pss_one (ps_ret d_bl))
  pss_nil)))))))
  (pss_one (ps_ret d_bl)))
theorem ok__law_replaced (T : Txt c mg) (F : ∃ fd, FunD c.K "_law_replaced" "_law_replaced" (defArgs s__law_replaced) (defBody s__law_replaced) (defScope s__law_replaced) [] [] (He.ga c.K "_law_replaced") fd)  : Fn P w c.K mg base 1 (He.ga c.K "_law_replaced") ["_law_before", "_law_after", "_law_at", "_law_most"] (sp__law_replaced c) := by
  obtain ⟨fd, F⟩ := F
  exact Fn.mk' (t := fun E => t__law_replaced c E) F sc__law_replaced (fun vs H Q E h => by obtain ⟨_, _, _, _, _, _, _, rfl, _⟩ := h; rfl) (fun _ _ _ _ _ _ us hl => match us, hl with | [_, _, _, _], _ => rfl) (fun cdv A outer s H E hr => der__law_replaced T hr ) (fun vs H Q E h => sem__law_replaced h)
abbrev n__law_grown : List Str := ["_law_before", "_law_after", "_law_at", "_law_most", "_law_first", "_law_last", "_law_base", "_law_step"]
abbrev s__law_grown : Stmt := topS 90
theorem sc__law_grown : FnScope ["_law_before", "_law_after", "_law_at", "_law_most", "_law_first", "_law_last", "_law_base", "_law_step"] ["_law_before", "_law_after", "_law_at", "_law_most"] (defScope s__law_grown) := ⟨rfl, rfl, rfl, by decide +kernel, rfl, by decide +kernel, by decide +kernel⟩
theorem der__law_grown {f : Addr} {cdv : Value} {A : Around} {outer : List Env} {s : Shared} {H : Hp} {E : XK} (T : Txt c mg) (hr : Room 0 (A.deeper (envOfC "_law_grown" (defScope s__law_grown) s.heap.objs.size f cdv)))  :
    PSs (cxOf (L2.CX P w) P w c.K mg base ["_law_before", "_law_after", "_law_at", "_law_most", "_law_first", "_law_last", "_law_base", "_law_step"] "_law_grown" (defScope s__law_grown) f cdv A outer s H E) (defBody s__law_grown) (t__law_grown c E) := by
  have sc := sc__law_grown
  have hu := hr.units
  have po := po_cx (CX := L2.CX P w) (P := P) (w := w) (K := c.K) (mg := mg) (base := base) (N := ["_law_before", "_law_after", "_law_at", "_law_most", "_law_first", "_law_last", "_law_base", "_law_step"]) (qual := "_law_grown") (scope := defScope s__law_grown) (f := f) (cd := cdv) (A := A) (outer := outer) (s := s) (H := H) (E := E)
  have px := px_cx (P := P) (w := w) (K := c.K) (mg := mg) (base := base) (N := ["_law_before", "_law_after", "_law_at", "_law_most", "_law_first", "_law_last", "_law_base", "_law_step"]) (qual := "_law_grown") (scope := defScope s__law_grown) (f := f) (cd := cdv) (A := A) (outer := outer) (s := s) (H := H) (E := E)
  exact (pss_cons (d_for po rfl (f_rng1 T.m_range (d_cb c_len T.m_len boot_len (a_cons (d_var 0) a_nil))) (pg_name (i := 4) sc.nd rfl (by first | exact .inl rfl | exact .inr rfl))
  (pss_one (d_for po rfl (f_rng2 T.m_range (d_var 4) (d_cb c_len T.m_len boot_len (a_cons (d_var 0) a_nil))) (pg_name (i := 5) sc.nd rfl (by first | exact .inl rfl | exact .inr rfl))
  (pss_cons (ps_set (i := 6) sc.nd rfl (by first | exact .inl rfl | exact .inr rfl) (d_idx (d_idx (d_var 0) (d_var 4)) (d_bin op_subV (d_var 5) (d_var 4))))
  (pss_cons (ps_if (t_chain op_leV op_leV (d_var 4) (d_var 2) (d_var 5))
  (pss_cons (ps_set (i := 7) sc.nd rfl (by first | exact .inl rfl | exact .inr rfl) (d_bin op_subV (d_idx (d_idx (d_var 1) (d_var 4)) (d_bin op_subV (d_bin op_addV (d_var 5) d_int) (d_var 4))) (d_var 6)))
  (pss_one (ps_if (t_or (t_cmp op_ltV (d_var 7) d_int) (t_cmp op_gtV (d_var 7) (d_var 3)))
  (pss_one (ps_ret d_bl))
  pss_nil)))
  pss_nil)
  (pss_cons (ps_if (t_and (t_cmp op_leV (d_var 5) (d_var 2)) (t_cmp op_neSV (d_idx (d_idx (d_var 1) (d_var 4)) (d_bin op_subV (d_var 5) (d_var 4))) (d_var 6)))
  (pss_one (ps_ret d_bl))
  pss_nil)
  (pss_one (ps_if (t_and (t_cmp op_geV (d_var 4) (d_var 2)) (t_cmp op_neSV (d_idx (d_idx (d_var 1) (d_bin op_addV (d_var 4) d_int)) (d_bin op_subV (d_var 5) (d_var 4))) (d_var 6)))
  (pss_one (ps_ret d_bl))
  pss_nil))))))))
  (pss_one (ps_ret d_bl)))
theorem ok__law_grown (T : Txt c mg) (F : ∃ fd, FunD c.K "_law_grown" "_law_grown" (defArgs s__law_grown) (defBody s__law_grown) (defScope s__law_grown) [] [] (He.ga c.K "_law_grown") fd)  : Fn P w c.K mg base 1 (He.ga c.K "_law_grown") ["_law_before", "_law_after", "_law_at", "_law_most"] (sp__law_grown c) := by
  obtain ⟨fd, F⟩ := F
  exact Fn.mk' (t := fun E => t__law_grown c E) F sc__law_grown (fun vs H Q E h => by obtain ⟨_, _, _, _, _, _, _, rfl, _⟩ := h; rfl) (fun _ _ _ _ _ _ us hl => match us, hl with | [_, _, _, _], _ => rfl) (fun cdv A outer s H E hr => der__law_grown T hr ) (fun vs H Q E h => sem__law_grown h)
abbrev n_law : List Str := ["_law_script", "_law_state", "_law_places", "_law_many", "_law_pages", "_law_number", "_law_size", "_law_begin_here", "_law_end", "_law_calendar", "_law_one", "_law_two", "_law_old", "_law_at", "_law_other_here", "_law_changed", "_law_new", "_law_spot", "_law_more", "_law_longer", "_law_grown_here", "_law_page_here", "_law_texts"]
abbrev s_law : Stmt := topS 91
theorem sc_law : FnScope ["_law_script", "_law_state", "_law_places", "_law_many", "_law_pages", "_law_number", "_law_size", "_law_begin_here", "_law_end", "_law_calendar", "_law_one", "_law_two", "_law_old", "_law_at", "_law_other_here", "_law_changed", "_law_new", "_law_spot", "_law_more", "_law_longer", "_law_grown_here", "_law_page_here", "_law_texts"] ["_law_script"] (defScope s_law) := ⟨rfl, rfl, rfl, by decide +kernel, rfl, by decide +kernel, by decide +kernel⟩
theorem der_law {f : Addr} {cdv : Value} {A : Around} {outer : List Env} {s : Shared} {H : Hp} {E : XK} (T : Txt c mg) (hr : Room 14 (A.deeper (envOfC "law" (defScope s_law) s.heap.objs.size f cdv))) (Fo__law_begin : Fn P w c.K mg base 1 (He.ga c.K "_law_begin") ["_law_script"] (sp__law_begin c)) (Fo__law_draw : Fn P w c.K mg base 1 (He.ga c.K "_law_draw") ["_law_state", "_law_limit"] (sp__law_draw c)) (Fo__law_entries : Fn P w c.K mg base 2 (He.ga c.K "_law_entries") ["_law_state", "_law_places", "_law_many", "_law_shift"] (sp__law_entries c)) (Fo_Calendar_every : Fn P w c.K mg base 4 (Fx.wfA c.K c.Calendar "staticmethod" "every") ["places"] (sp_Calendar_every c)) (Fo__law_binder : Fn P w c.K mg base 11 (He.ga c.K "_law_binder") ["_law_calendar", "_law_pages"] (sp__law_binder c)) (Fo__law_counts : Fn P w c.K mg base 9 (He.ga c.K "_law_counts") ["_law_places", "_law_binder_here", "_law_pages", "_law_begin_here", "_law_end"] (sp__law_counts c)) (Fo__law_other : Fn P w c.K mg base 3 (He.ga c.K "_law_other") ["_law_state", "_law_places", "_law_page_here"] (sp__law_other c)) (Fo__law_page : Fn P w c.K mg base 1 (He.ga c.K "_law_page") ["_law_sets"] (sp__law_page c)) (Fo_Binder___setitem__ : Fn P w c.K mg base 8 (He.ma c.K c.Binder "__setitem__") ["self", "number", "page"] (sp_Binder___setitem__ c)) (Fo__law_replaced : Fn P w c.K mg base 1 (He.ga c.K "_law_replaced") ["_law_before", "_law_after", "_law_at", "_law_most"] (sp__law_replaced c)) (Fo_Binder_insert : Fn P w c.K mg base 9 (He.ma c.K c.Binder "insert") ["self", "number", "page"] (sp_Binder_insert c)) (Fo__law_grown : Fn P w c.K mg base 1 (He.ga c.K "_law_grown") ["_law_before", "_law_after", "_law_at", "_law_most"] (sp__law_grown c)) (Fo_Binder_remove : Fn P w c.K mg base 9 (He.ma c.K c.Binder "remove") ["self", "number"] (sp_Binder_remove c)) (Fo_Binder___iter__ : Fn P w c.K mg base 1 (He.ma c.K c.Binder "__iter__") ["self"] (sp_Binder___iter__ c)) (Fo_Binder___len__ : Fn P w c.K mg base 1 (He.ma c.K c.Binder "__len__") ["self"] (sp_Binder___len__ c)) :
    PSs (cxOf (L2.CX P w) P w c.K mg base ["_law_script", "_law_state", "_law_places", "_law_many", "_law_pages", "_law_number", "_law_size", "_law_begin_here", "_law_end", "_law_calendar", "_law_one", "_law_two", "_law_old", "_law_at", "_law_other_here", "_law_changed", "_law_new", "_law_spot", "_law_more", "_law_longer", "_law_grown_here", "_law_page_here", "_law_texts"] "law" (defScope s_law) f cdv A outer s H E) (defBody s_law) (t_law c E) := by
  have sc := sc_law
  have hu := hr.units
  have po := po_cx (CX := L2.CX P w) (P := P) (w := w) (K := c.K) (mg := mg) (base := base) (N := ["_law_script", "_law_state", "_law_places", "_law_many", "_law_pages", "_law_number", "_law_size", "_law_begin_here", "_law_end", "_law_calendar", "_law_one", "_law_two", "_law_old", "_law_at", "_law_other_here", "_law_changed", "_law_new", "_law_spot", "_law_more", "_law_longer", "_law_grown_here", "_law_page_here", "_law_texts"]) (qual := "law") (scope := defScope s_law) (f := f) (cd := cdv) (A := A) (outer := outer) (s := s) (H := H) (E := E)
  have px := px_cx (P := P) (w := w) (K := c.K) (mg := mg) (base := base) (N := ["_law_script", "_law_state", "_law_places", "_law_many", "_law_pages", "_law_number", "_law_size", "_law_begin_here", "_law_end", "_law_calendar", "_law_one", "_law_two", "_law_old", "_law_at", "_law_other_here", "_law_changed", "_law_new", "_law_spot", "_law_more", "_law_longer", "_law_grown_here", "_law_page_here", "_law_texts"]) (qual := "law") (scope := defScope s_law) (f := f) (cd := cdv) (A := A) (outer := outer) (s := s) (H := H) (E := E)
  obtain ⟨_, hst_Calendar_every⟩ := T.st_Calendar_every.2
  exact (pss_cons (ps_set (i := 1) sc.nd rfl (by first | exact .inl rfl | exact .inr rfl) (Fo__law_begin.call T.g__law_begin (hr.mono (by decide)) px (a_cons (d_var 0) a_nil)))
  (pss_cons (ps_set (i := 2) sc.nd rfl (by first | exact .inl rfl | exact .inr rfl) (d_idx (d_list (a_cons d_int (a_cons d_int (a_cons d_int (a_cons d_int a_nil))))) (Fo__law_draw.call T.g__law_draw (hr.mono (by decide)) px (a_cons (d_var 1) (a_cons d_int a_nil)))))
  (pss_cons (ps_set (i := 3) sc.nd rfl (by first | exact .inl rfl | exact .inr rfl) (d_idx (d_list (a_cons d_int (a_cons d_int (a_cons d_int (a_cons d_int a_nil))))) (Fo__law_draw.call T.g__law_draw (hr.mono (by decide)) px (a_cons (d_var 1) (a_cons d_int a_nil)))))
  (pss_cons (ps_set (i := 4) sc.nd rfl (by first | exact .inl rfl | exact .inr rfl) (d_list a_nil))
  (pss_cons (d_for po rfl (f_rng1 T.m_range (d_var 3)) (pg_name (i := 5) sc.nd rfl (by first | exact .inl rfl | exact .inr rfl))
  (pss_cons (ps_set (i := 6) sc.nd rfl (by first | exact .inl rfl | exact .inr rfl) (d_idx (d_list (a_cons d_int (a_cons d_int (a_cons d_int (a_cons d_int a_nil))))) (Fo__law_draw.call T.g__law_draw (hr.mono (by decide)) px (a_cons (d_var 1) (a_cons d_int a_nil)))))
  (pss_one (ps_expr (d_lm PySem.F.plainAttrs_list PySem.F.slot_list_append PySem.F.type_list_append m_append (d_var 4) (a_cons (Fo__law_entries.call T.g__law_entries (hr.mono (by decide)) px (a_cons (d_var 1) (a_cons (d_var 2) (a_cons (d_var 6) (a_cons (d_var 5) a_nil))))) a_nil))))))
  (pss_cons (ps_set (i := 7) sc.nd rfl (by first | exact .inl rfl | exact .inr rfl) (d_bin op_subV (d_bin op_modV (d_ct c_int T.m_int boot_int (a_cons (d_bin op_addV d_int (Fo__law_draw.call T.g__law_draw (hr.mono (by decide)) px (a_cons (d_var 1) (a_cons d_int a_nil)))) a_nil)) d_int) d_int))
  (pss_cons (ps_set (i := 8) sc.nd rfl (by first | exact .inl rfl | exact .inr rfl) (d_bin op_addV (d_var 7) (d_bin op_modV (d_ct c_int T.m_int boot_int (a_cons (d_bin op_addV d_int (Fo__law_draw.call T.g__law_draw (hr.mono (by decide)) px (a_cons (d_var 1) (a_cons d_int a_nil)))) a_nil)) d_int)))
  (pss_cons (ps_set (i := 9) sc.nd rfl (by first | exact .inl rfl | exact .inr rfl) (Fo_Calendar_every.stat T.g_Calendar T.rd_Calendar T.st_Calendar_every.1 hst_Calendar_every (hr.mono (by decide)) px (a_cons (d_var 2) a_nil) rfl))
  (pss_cons (ps_set (i := 10) sc.nd rfl (by first | exact .inl rfl | exact .inr rfl) (Fo__law_binder.call T.g__law_binder (hr.mono (by decide)) px (a_cons (d_var 9) (a_cons (d_var 4) a_nil))))
  (pss_cons (ps_set (i := 11) sc.nd rfl (by first | exact .inl rfl | exact .inr rfl) (Fo__law_binder.call T.g__law_binder (hr.mono (by decide)) px (a_cons (d_var 9) (a_cons (d_var 4) a_nil))))
  (pss_cons (ps_set (i := 12) sc.nd rfl (by first | exact .inl rfl | exact .inr rfl) (Fo__law_counts.call T.g__law_counts (hr.mono (by decide)) px (a_cons (d_var 2) (a_cons (d_var 10) (a_cons (d_var 4) (a_cons (d_var 7) (a_cons (d_var 8) a_nil)))))))
  (pss_cons (ps_set (i := 13) sc.nd rfl (by first | exact .inl rfl | exact .inr rfl) (d_bin op_modV (d_ct c_int T.m_int boot_int (a_cons (d_bin op_addV d_int (Fo__law_draw.call T.g__law_draw (hr.mono (by decide)) px (a_cons (d_var 1) (a_cons (d_var 3) a_nil)))) a_nil)) (d_var 3)))
  (pss_cons (ps_set (i := 14) sc.nd rfl (by first | exact .inl rfl | exact .inr rfl) (Fo__law_other.call T.g__law_other (hr.mono (by decide)) px (a_cons (d_var 1) (a_cons (d_var 2) (a_cons (d_idx (d_var 4) (d_var 13)) a_nil)))))
  (pss_cons (ps_set (i := 15) sc.nd rfl (by first | exact .inl rfl | exact .inr rfl) (d_bin op_addV (d_bin op_addV (d_slice (d_var 4) o_none (o_some (d_var 13))) (d_list (a_cons (d_var 14) a_nil))) (d_slice (d_var 4) (o_some (d_bin op_addV (d_var 13) d_int)) o_none)))
  (pss_cons (ps_asg (Fo__law_page.call T.g__law_page (hr.mono (by decide)) px (a_cons (d_var 14) a_nil)) (pg_sub (d_var 11) (d_var 13) (Fo_Binder___setitem__.setI T.nq_Binder T.hs_Binder___setitem__.1 T.hs_Binder___setitem__.2 (hr.mono (by decide)) px)))
  (pss_cons (ps_set (i := 16) sc.nd rfl (by first | exact .inl rfl | exact .inr rfl) (Fo__law_counts.call T.g__law_counts (hr.mono (by decide)) px (a_cons (d_var 2) (a_cons (d_var 11) (a_cons (d_var 15) (a_cons (d_var 7) (a_cons (d_var 8) a_nil)))))))
  (pss_cons (ps_if (t_or (t_cmp (op_eqDV hu) (d_var 12) (d_list a_nil)) (t_cmp (op_eqDV hu) (d_var 16) (d_list a_nil)))
  (pss_one (ps_ret d_bl))
  pss_nil)
  (pss_cons (ps_if (t_not (t_val (Fo__law_replaced.call T.g__law_replaced (hr.mono (by decide)) px (a_cons (d_var 12) (a_cons (d_var 16) (a_cons (d_var 13) (a_cons (d_cb (c_max2 rfl) T.m_max (by decide +kernel) (a_cons (d_cb c_len T.m_len boot_len (a_cons (d_var 14) a_nil)) (a_cons (d_cb c_len T.m_len boot_len (a_cons (d_idx (d_var 4) (d_var 13)) a_nil)) a_nil))) a_nil)))))))
  (pss_one (ps_ret d_bl))
  pss_nil)
  (pss_cons (ps_set (i := 17) sc.nd rfl (by first | exact .inl rfl | exact .inr rfl) (d_bin op_modV (d_ct c_int T.m_int boot_int (a_cons (d_bin op_addV d_int (Fo__law_draw.call T.g__law_draw (hr.mono (by decide)) px (a_cons (d_var 1) (a_cons (d_bin op_addV (d_var 3) d_int) a_nil)))) a_nil)) (d_bin op_addV (d_var 3) d_int)))
  (pss_cons (ps_set (i := 18) sc.nd rfl (by first | exact .inl rfl | exact .inr rfl) (Fo__law_entries.call T.g__law_entries (hr.mono (by decide)) px (a_cons (d_var 1) (a_cons (d_var 2) (a_cons (d_idx (d_list (a_cons d_int (a_cons d_int (a_cons d_int (a_cons d_int a_nil))))) (Fo__law_draw.call T.g__law_draw (hr.mono (by decide)) px (a_cons (d_var 1) (a_cons d_int a_nil)))) (a_cons d_int a_nil))))))
  (pss_cons (ps_set (i := 19) sc.nd rfl (by first | exact .inl rfl | exact .inr rfl) (d_bin op_addV (d_bin op_addV (d_slice (d_var 15) o_none (o_some (d_var 17))) (d_list (a_cons (d_var 18) a_nil))) (d_slice (d_var 15) (o_some (d_var 17)) o_none)))
  (pss_cons (ps_if (t_cmp op_notNV (Fo_Binder_insert.meth T.cl_Binder T.mt_Binder_insert (hr.mono (by decide)) px (d_var 11) (a_cons (d_var 17) (a_cons (Fo__law_page.call T.g__law_page (hr.mono (by decide)) px (a_cons (d_var 18) a_nil)) a_nil)) rfl) d_non)
  (pss_one (ps_ret d_bl))
  pss_nil)
  (pss_cons (ps_set (i := 20) sc.nd rfl (by first | exact .inl rfl | exact .inr rfl) (Fo__law_counts.call T.g__law_counts (hr.mono (by decide)) px (a_cons (d_var 2) (a_cons (d_var 11) (a_cons (d_var 19) (a_cons (d_var 7) (a_cons (d_var 8) a_nil)))))))
  (pss_cons (ps_if (t_or (t_cmp (op_eqDV hu) (d_var 20) (d_list a_nil)) (t_not (t_val (Fo__law_grown.call T.g__law_grown (hr.mono (by decide)) px (a_cons (d_var 16) (a_cons (d_var 20) (a_cons (d_var 17) (a_cons (d_cb c_len T.m_len boot_len (a_cons (d_var 18) a_nil)) a_nil))))))))
  (pss_one (ps_ret d_bl))
  pss_nil)
  (pss_cons (ps_if (t_cmp (op_neDV hu) (Fo__law_counts.call T.g__law_counts (hr.mono (by decide)) px (a_cons (d_var 2) (a_cons (d_var 10) (a_cons (d_var 4) (a_cons (d_var 7) (a_cons (d_var 8) a_nil)))))) (d_var 12))
  (pss_one (ps_ret d_bl))
  pss_nil)
  (pss_cons (ps_if (t_cmp op_neSV (Fo_Binder_remove.meth T.cl_Binder T.mt_Binder_remove (hr.mono (by decide)) px (d_var 11) (a_cons (d_var 17) a_nil) rfl) (Fo__law_page.call T.g__law_page (hr.mono (by decide)) px (a_cons (d_var 18) a_nil)))
  (pss_one (ps_ret d_bl))
  pss_nil)
  (pss_cons (ps_asg (Fo__law_page.call T.g__law_page (hr.mono (by decide)) px (a_cons (d_idx (d_var 4) (d_var 13)) a_nil)) (pg_sub (d_var 11) (d_var 13) (Fo_Binder___setitem__.setI T.nq_Binder T.hs_Binder___setitem__.1 T.hs_Binder___setitem__.2 (hr.mono (by decide)) px)))
  (pss_cons (ps_if (t_cmp (op_neDV hu) (Fo__law_counts.call T.g__law_counts (hr.mono (by decide)) px (a_cons (d_var 2) (a_cons (d_var 11) (a_cons (d_var 4) (a_cons (d_var 7) (a_cons (d_var 8) a_nil)))))) (d_var 12))
  (pss_one (ps_ret d_bl))
  pss_nil)
  (pss_cons (by first | exact (s_setLc (i := 22) (own := [("_law_page_here", 21)]) rfl sc.nd (blkOk_by (N := n_law) (sc := defScope s_law) (by decide +kernel)) rfl rfl (sw_true rfl rfl rfl (by decide +kernel)) (f_list (d_var 4)) (fun _ _ _ _ _ => (pg_name (i := 21) sc.nd rfl (by first | exact .inl rfl | exact .inr rfl))) (fun _ _ _ _ _ => pts_nil) (fun _ _ _ _ _ => (Fo__law_page.call T.g__law_page (hr.mono (by decide)) passL (a_cons (d_var 21) a_nil)))) | exact (ps_set (i := 22) sc.nd rfl (by first | exact .inl rfl | exact .inr rfl) (d_comp (own := [("_law_page_here", 21)]) rfl sc.nd (blkOk_by (N := n_law) (sc := defScope s_law) (by decide +kernel)) (f_list (d_var 4)) (fun _ _ _ _ _ => (pg_name (i := 21) sc.nd rfl (by first | exact .inl rfl | exact .inr rfl))) (fun _ _ _ _ _ => pts_nil) (fun _ _ _ _ _ => (Fo__law_page.call T.g__law_page (hr.mono (by decide)) passL (a_cons (d_var 21) a_nil))))))
  (pss_one (ps_ret (d_and (d_cmp (op_eqDV hu) (d_ct (Fn.lst Fo_Binder___iter__ Fo_Binder___len__ 10 (by decide) (by decide) ⟨T.hs_Binder___iter__.1, T.hs_Binder___iter__.2, T.hs_Binder___len__.1, T.hs_Binder___len__.2⟩ rfl (hr.mono (by decide))) T.m_list boot_list (a_cons (d_var 10) a_nil)) (d_var 22)) (d_cmp (op_eqDV hu) (d_ct (Fn.lst Fo_Binder___iter__ Fo_Binder___len__ 10 (by decide) (by decide) ⟨T.hs_Binder___iter__.1, T.hs_Binder___iter__.2, T.hs_Binder___len__.1, T.hs_Binder___len__.2⟩ rfl (hr.mono (by decide))) T.m_list boot_list (a_cons (d_var 11) a_nil)) (d_var 22))))))))))))))))))))))))))))))))))
theorem okL (T : Txt c mg) {fd : FuncData} (F : FunD c.K "law" "law" (defArgs s_law) (defBody s_law) (defScope s_law) [] [] (He.ga c.K "law") fd) (Fo__law_begin : Fn P w c.K mg base 1 (He.ga c.K "_law_begin") ["_law_script"] (sp__law_begin c)) (Fo__law_draw : Fn P w c.K mg base 1 (He.ga c.K "_law_draw") ["_law_state", "_law_limit"] (sp__law_draw c)) (Fo__law_entries : Fn P w c.K mg base 2 (He.ga c.K "_law_entries") ["_law_state", "_law_places", "_law_many", "_law_shift"] (sp__law_entries c)) (Fo_Calendar_every : Fn P w c.K mg base 4 (Fx.wfA c.K c.Calendar "staticmethod" "every") ["places"] (sp_Calendar_every c)) (Fo__law_binder : Fn P w c.K mg base 11 (He.ga c.K "_law_binder") ["_law_calendar", "_law_pages"] (sp__law_binder c)) (Fo__law_counts : Fn P w c.K mg base 9 (He.ga c.K "_law_counts") ["_law_places", "_law_binder_here", "_law_pages", "_law_begin_here", "_law_end"] (sp__law_counts c)) (Fo__law_other : Fn P w c.K mg base 3 (He.ga c.K "_law_other") ["_law_state", "_law_places", "_law_page_here"] (sp__law_other c)) (Fo__law_page : Fn P w c.K mg base 1 (He.ga c.K "_law_page") ["_law_sets"] (sp__law_page c)) (Fo_Binder___setitem__ : Fn P w c.K mg base 8 (He.ma c.K c.Binder "__setitem__") ["self", "number", "page"] (sp_Binder___setitem__ c)) (Fo__law_replaced : Fn P w c.K mg base 1 (He.ga c.K "_law_replaced") ["_law_before", "_law_after", "_law_at", "_law_most"] (sp__law_replaced c)) (Fo_Binder_insert : Fn P w c.K mg base 9 (He.ma c.K c.Binder "insert") ["self", "number", "page"] (sp_Binder_insert c)) (Fo__law_grown : Fn P w c.K mg base 1 (He.ga c.K "_law_grown") ["_law_before", "_law_after", "_law_at", "_law_most"] (sp__law_grown c)) (Fo_Binder_remove : Fn P w c.K mg base 9 (He.ma c.K c.Binder "remove") ["self", "number"] (sp_Binder_remove c)) (Fo_Binder___iter__ : Fn P w c.K mg base 1 (He.ma c.K c.Binder "__iter__") ["self"] (sp_Binder___iter__ c)) (Fo_Binder___len__ : Fn P w c.K mg base 1 (He.ma c.K c.Binder "__len__") ["self"] (sp_Binder___len__ c)) : FnOk P w c.K mg base (L2.CX P w) 15 (He.ga c.K "law") fd ["_law_script"] (sp_law c) :=
  F.ok sc_law (fun vs H Q E h => by obtain ⟨_, _, rfl, _⟩ := h; rfl) fun cdv A outer s H vs Q E hr h => ⟨t_law c E, der_law T hr Fo__law_begin Fo__law_draw Fo__law_entries Fo_Calendar_every Fo__law_binder Fo__law_counts Fo__law_other Fo__law_page Fo_Binder___setitem__ Fo__law_replaced Fo_Binder_insert Fo__law_grown Fo_Binder_remove Fo_Binder___iter__ Fo_Binder___len__, sem_law h⟩
end
end Ly

/-! Gm -/
set_option Elab.async false
set_option linter.all false
set_option maxRecDepth 100000
set_option maxHeartbeats 0
namespace Ly
open PySem PySem.Spec PyProof.Rows L2 M
def cOf (K : PySem.W.Frag) : CA := ⟨K, He.ga K "Cast", He.ga K "Calendar", He.ga K "Binder", 0⟩
def ck0 : Fx.Ck := fun K => (He.Fa.int "MOST_PLACES" 6).ok K
def ck1 : Fx.Ck := fun K => (He.Fa.free "len").ok K
def ck2 : Fx.Ck := fun K => (He.Fa.free "range").ok K
def ck3 : Fx.Ck := fun K => (He.Fa.free "int").ok K
def ck4 : Fx.Ck := fun K => (He.Fa.free "max").ok K
def ck5 : Fx.Ck := fun K => (He.Fa.glo "check_stretch").ok K
def ck6 : Fx.Ck := fun K => (He.Fa.glo "landing").ok K
def ck7 : Fx.Ck := fun K => (He.Fa.glo "at_place").ok K
def ck8 : Fx.Ck := fun K => (He.Fa.glo "carried_to").ok K
def ck9 : Fx.Ck := fun K => (He.Fa.glo "carried_came").ok K
def ck10 : Fx.Ck := fun K => (He.Fa.free "list").ok K
def ck11 : Fx.Ck := fun K => (He.Fa.free "sum").ok K
def ck12 : Fx.Ck := fun K => (He.Fa.glo "peel").ok K
def ck13 : Fx.Ck := fun K => (He.Fa.glo "came_list").ok K
def ck14 : Fx.Ck := fun K => (He.Fa.glo "step_came").ok K
def ck15 : Fx.Ck := fun K => (He.Fa.glo "heights_of").ok K
def ck16 : Fx.Ck := fun K => Fx.conB K (He.ga K "Cast") "MOST_BALLS" 16
def ck17 : Fx.Ck := fun K => Fx.readB K (He.ga K "Cast")
def ck18 : Fx.Ck := fun K => (He.Fa.glo "Cast").ok K
def ck19 : Fx.Ck := fun K => Fx.conB K (He.ga K "Cast") "MOST_PLACES" 6
def ck20 : Fx.Ck := fun K => (He.Fa.int "MOST_HEIGHT" 96).ok K
def ck21 : Fx.Ck := fun K => (He.Fa.free "tuple").ok K
def ck22 : Fx.Ck := fun K => (He.Fa.noat "Cast" "_heights").ok K
def ck23 : Fx.Ck := fun K => (He.Fa.cls "Cast").ok K
def ck24 : Fx.Ck := fun K => (He.Fa.glo "check_places").ok K
def ck25 : Fx.Ck := fun K => (He.Fa.mkr "Cast").ok K
def ck26 : Fx.Ck := fun K => Fx.propB K (He.ga K "Cast") "heights"
def ck27 : Fx.Ck := fun K => (He.Fa.glo "count_between").ok K
def ck28 : Fx.Ck := fun K => Fx.propB K (He.ga K "Cast") "places"
def ck29 : Fx.Ck := fun K => (He.Fa.glo "check_like").ok K
def ck30 : Fx.Ck := fun K => Fx.propB K (He.ga K "Cast") "balls"
def ck31 : Fx.Ck := fun K => (He.Fa.glo "product_heights").ok K
def ck32 : Fx.Ck := fun K => (He.Fa.str "LETTERS" "abcdefghijklmnopqrstuvwxyz").ok K
def ck33 : Fx.Ck := fun K => (He.Fa.free "enumerate").ok K
def ck34 : Fx.Ck := fun K => (He.Fa.noat "Calendar" "_words").ok K
def ck35 : Fx.Ck := fun K => (He.Fa.cls "Calendar").ok K
def ck36 : Fx.Ck := fun K => (He.Fa.glo "is_rising").ok K
def ck37 : Fx.Ck := fun K => (He.Fa.int "MOST_EVERY" 4).ok K
def ck38 : Fx.Ck := fun K => (He.Fa.mkr "Calendar").ok K
def ck39 : Fx.Ck := fun K => (He.Fa.glo "Calendar").ok K
def ck40 : Fx.Ck := fun K => (He.Fa.int "MOST_PAGE" 16).ok K
def ck41 : Fx.Ck := fun K => Fx.propB K (He.ga K "Calendar") "signs"
def ck42 : Fx.Ck := fun K => (He.Fa.glo "check_page").ok K
def ck43 : Fx.Ck := fun K => (He.Fa.meth "Calendar" "stands").ok K
def ck44 : Fx.Ck := fun K => Fx.propB K (He.ga K "Calendar") "places"
def ck45 : Fx.Ck := fun K => (He.Fa.glo "sets_of").ok K
def ck46 : Fx.Ck := fun K => (He.Fa.glo "came_of").ok K
def ck47 : Fx.Ck := fun K => (He.Fa.int "MOST_BALLS" 16).ok K
def ck48 : Fx.Ck := fun K => PySem.W.selfFirst K (He.ga K "Cast")
def ck49 : Fx.Ck := fun K => Fx.hasB K (He.ga K "Cast") "__mul__"
def ck50 : Fx.Ck := fun K => (He.Fa.glo "pair_product").ok K
def ck51 : Fx.Ck := fun K => (He.Fa.int "MOST_PAGES" 12).ok K
def ck52 : Fx.Ck := fun K => (He.Fa.noat "Binder" "_levels").ok K
def ck53 : Fx.Ck := fun K => (He.Fa.cls "Binder").ok K
def ck54 : Fx.Ck := fun K => (He.Fa.noat "Binder" "_page_list").ok K
def ck55 : Fx.Ck := fun K => (He.Fa.noat "Binder" "calendar").ok K
def ck56 : Fx.Ck := fun K => (He.Fa.glo "check_entries").ok K
def ck57 : Fx.Ck := fun K => (He.Fa.glo "cast_of").ok K
def ck58 : Fx.Ck := fun K => (He.Fa.glo "product_levels").ok K
def ck59 : Fx.Ck := fun K => (He.Fa.glo "check_number").ok K
def ck60 : Fx.Ck := fun K => Fx.statB K (He.ga K "Cast") "none"
def ck61 : Fx.Ck := fun K => (He.Fa.meth "Binder" "part").ok K
def ck62 : Fx.Ck := fun K => (He.Fa.meth "Cast" "count").ok K
def ck63 : Fx.Ck := fun K => (He.Fa.free "iter").ok K
def ck64 : Fx.Ck := fun K => (He.Fa.free "abs").ok K
def ck65 : Fx.Ck := fun K => (He.Fa.free "bool").ok K
def ck66 : Fx.Ck := fun K => (He.Fa.free "isinstance").ok K
def ck67 : Fx.Ck := fun K => (He.Fa.glo "_law_draw").ok K
def ck68 : Fx.Ck := fun K => (He.Fa.glo "_law_stands").ok K
def ck69 : Fx.Ck := fun K => (He.Fa.mkr "Binder").ok K
def ck70 : Fx.Ck := fun K => (He.Fa.glo "Binder").ok K
def ck71 : Fx.Ck := fun K => (He.Fa.meth "Binder" "insert").ok K
def ck72 : Fx.Ck := fun K => Fx.hasB K (He.ga K "Binder") "__len__"
def ck73 : Fx.Ck := fun K => (He.Fa.glo "_law_page").ok K
def ck74 : Fx.Ck := fun K => (He.Fa.glo "_law_entries").ok K
def ck75 : Fx.Ck := fun K => (He.Fa.meth "Binder" "part_count").ok K
def ck76 : Fx.Ck := fun K => (He.Fa.glo "_law_best").ok K
def ck77 : Fx.Ck := fun K => (He.Fa.glo "_law_numbers").ok K
def ck78 : Fx.Ck := fun K => (He.Fa.glo "_law_begin").ok K
def ck79 : Fx.Ck := fun K => Fx.statB K (He.ga K "Calendar") "every"
def ck80 : Fx.Ck := fun K => Fx.readB K (He.ga K "Calendar")
def ck81 : Fx.Ck := fun K => (He.Fa.glo "_law_binder").ok K
def ck82 : Fx.Ck := fun K => (He.Fa.glo "_law_counts").ok K
def ck83 : Fx.Ck := fun K => (He.Fa.glo "_law_other").ok K
def ck84 : Fx.Ck := fun K => PySem.W.noSeq K (He.ga K "Binder")
def ck85 : Fx.Ck := fun K => Fx.hasB K (He.ga K "Binder") "__setitem__"
def ck86 : Fx.Ck := fun K => (He.Fa.glo "_law_replaced").ok K
def ck87 : Fx.Ck := fun K => (He.Fa.glo "_law_grown").ok K
def ck88 : Fx.Ck := fun K => (He.Fa.meth "Binder" "remove").ok K
def ck89 : Fx.Ck := fun K => Fx.hasB K (He.ga K "Binder") "__iter__"
abbrev iLaw : Nat := 90
def ckLaw : Fx.Ck := fun K => (He.Fa.glo "law").ok K
def cks0 : List Fx.Ck := [ck0, ck1, ck2, ck3, ck4, ck5, ck6, ck7, ck8, ck9, ck10, ck11, ck12, ck13, ck14]
def cks1 : List Fx.Ck := [ck15, ck16, ck17, ck18, ck19, ck20, ck21, ck22, ck23, ck24, ck25, ck26, ck27, ck28, ck29]
def cks2 : List Fx.Ck := [ck30, ck31, ck32, ck33, ck34, ck35, ck36, ck37, ck38, ck39, ck40, ck41, ck42, ck43, ck44]
def cks3 : List Fx.Ck := [ck45, ck46, ck47, ck48, ck49, ck50, ck51, ck52, ck53, ck54, ck55, ck56, ck57, ck58, ck59]
def cks4 : List Fx.Ck := [ck60, ck61, ck62, ck63, ck64, ck65, ck66, ck67, ck68, ck69, ck70, ck71, ck72, ck73, ck74]
def cks5 : List Fx.Ck := [ck75, ck76, ck77, ck78, ck79, ck80, ck81, ck82, ck83, ck84, ck85, ck86, ck87, ck88, ck89]
def cks : List Fx.Ck := cks0 ++ cks1 ++ cks2 ++ cks3 ++ cks4 ++ cks5 ++ [ckLaw]
def dd_check_places : Fx.DefA := ⟨fun K => (He.ga (cOf K).K "check_places"), "check_places", "check_places", defArgs s_check_places, defBody s_check_places, defScope s_check_places⟩
def dd_check_stretch : Fx.DefA := ⟨fun K => (He.ga (cOf K).K "check_stretch"), "check_stretch", "check_stretch", defArgs s_check_stretch, defBody s_check_stretch, defScope s_check_stretch⟩
def dd_at_place : Fx.DefA := ⟨fun K => (He.ga (cOf K).K "at_place"), "at_place", "at_place", defArgs s_at_place, defBody s_at_place, defScope s_at_place⟩
def dd_landing : Fx.DefA := ⟨fun K => (He.ga (cOf K).K "landing"), "landing", "landing", defArgs s_landing, defBody s_landing, defScope s_landing⟩
def dd_came_list : Fx.DefA := ⟨fun K => (He.ga (cOf K).K "came_list"), "came_list", "came_list", defArgs s_came_list, defBody s_came_list, defScope s_came_list⟩
def dd_heights_of : Fx.DefA := ⟨fun K => (He.ga (cOf K).K "heights_of"), "heights_of", "heights_of", defArgs s_heights_of, defBody s_heights_of, defScope s_heights_of⟩
def dd_count_between : Fx.DefA := ⟨fun K => (He.ga (cOf K).K "count_between"), "count_between", "count_between", defArgs s_count_between, defBody s_count_between, defScope s_count_between⟩
def dd_carried_to : Fx.DefA := ⟨fun K => (He.ga (cOf K).K "carried_to"), "carried_to", "carried_to", defArgs s_carried_to, defBody s_carried_to, defScope s_carried_to⟩
def dd_carried_came : Fx.DefA := ⟨fun K => (He.ga (cOf K).K "carried_came"), "carried_came", "carried_came", defArgs s_carried_came, defBody s_carried_came, defScope s_carried_came⟩
def dd_step_came : Fx.DefA := ⟨fun K => (He.ga (cOf K).K "step_came"), "step_came", "step_came", defArgs s_step_came, defBody s_step_came, defScope s_step_came⟩
def dd_peel : Fx.DefA := ⟨fun K => (He.ga (cOf K).K "peel"), "peel", "peel", defArgs s_peel, defBody s_peel, defScope s_peel⟩
def dd_product_heights : Fx.DefA := ⟨fun K => (He.ga (cOf K).K "product_heights"), "product_heights", "product_heights", defArgs s_product_heights, defBody s_product_heights, defScope s_product_heights⟩
def dd_Cast___init__ : Fx.DefA := ⟨fun K => (He.ma (cOf K).K (cOf K).Cast "__init__"), "__init__", "Cast.__init__", defArgs s_Cast___init__, defBody s_Cast___init__, defScope s_Cast___init__⟩
def dd_Cast_none : Fx.DefA := ⟨fun K => (Fx.wfA (cOf K).K (cOf K).Cast "staticmethod" "none"), "none", "Cast.none", defArgs s_Cast_none, defBody s_Cast_none, defScope s_Cast_none⟩
def dd_Cast_places : Fx.DefA := ⟨fun K => (Fx.wfA (cOf K).K (cOf K).Cast "property" "places"), "places", "Cast.places", defArgs s_Cast_places, defBody s_Cast_places, defScope s_Cast_places⟩
def dd_Cast_balls : Fx.DefA := ⟨fun K => (Fx.wfA (cOf K).K (cOf K).Cast "property" "balls"), "balls", "Cast.balls", defArgs s_Cast_balls, defBody s_Cast_balls, defScope s_Cast_balls⟩
def dd_Cast_heights : Fx.DefA := ⟨fun K => (Fx.wfA (cOf K).K (cOf K).Cast "property" "heights"), "heights", "Cast.heights", defArgs s_Cast_heights, defBody s_Cast_heights, defScope s_Cast_heights⟩
def dd_Cast_count : Fx.DefA := ⟨fun K => (He.ma (cOf K).K (cOf K).Cast "count"), "count", "Cast.count", defArgs s_Cast_count, defBody s_Cast_count, defScope s_Cast_count⟩
def dd_check_like : Fx.DefA := ⟨fun K => (He.ga (cOf K).K "check_like"), "check_like", "check_like", defArgs s_check_like, defBody s_check_like, defScope s_check_like⟩
def dd_Cast___mul__ : Fx.DefA := ⟨fun K => (He.ma (cOf K).K (cOf K).Cast "__mul__"), "__mul__", "Cast.__mul__", defArgs s_Cast___mul__, defBody s_Cast___mul__, defScope s_Cast___mul__⟩
def dd_is_rising : Fx.DefA := ⟨fun K => (He.ga (cOf K).K "is_rising"), "is_rising", "is_rising", defArgs s_is_rising, defBody s_is_rising, defScope s_is_rising⟩
def dd_Calendar___init__ : Fx.DefA := ⟨fun K => (He.ma (cOf K).K (cOf K).Calendar "__init__"), "__init__", "Calendar.__init__", defArgs s_Calendar___init__, defBody s_Calendar___init__, defScope s_Calendar___init__⟩
def dd_Calendar_every : Fx.DefA := ⟨fun K => (Fx.wfA (cOf K).K (cOf K).Calendar "staticmethod" "every"), "every", "Calendar.every", defArgs s_Calendar_every, defBody s_Calendar_every, defScope s_Calendar_every⟩
def dd_Calendar_places : Fx.DefA := ⟨fun K => (Fx.wfA (cOf K).K (cOf K).Calendar "property" "places"), "places", "Calendar.places", defArgs s_Calendar_places, defBody s_Calendar_places, defScope s_Calendar_places⟩
def dd_Calendar_signs : Fx.DefA := ⟨fun K => (Fx.wfA (cOf K).K (cOf K).Calendar "property" "signs"), "signs", "Calendar.signs", defArgs s_Calendar_signs, defBody s_Calendar_signs, defScope s_Calendar_signs⟩
def dd_Calendar_stands : Fx.DefA := ⟨fun K => (He.ma (cOf K).K (cOf K).Calendar "stands"), "stands", "Calendar.stands", defArgs s_Calendar_stands, defBody s_Calendar_stands, defScope s_Calendar_stands⟩
def dd_check_page : Fx.DefA := ⟨fun K => (He.ga (cOf K).K "check_page"), "check_page", "check_page", defArgs s_check_page, defBody s_check_page, defScope s_check_page⟩
def dd_sets_of : Fx.DefA := ⟨fun K => (He.ga (cOf K).K "sets_of"), "sets_of", "sets_of", defArgs s_sets_of, defBody s_sets_of, defScope s_sets_of⟩
def dd_came_of : Fx.DefA := ⟨fun K => (He.ga (cOf K).K "came_of"), "came_of", "came_of", defArgs s_came_of, defBody s_came_of, defScope s_came_of⟩
def dd_cast_of : Fx.DefA := ⟨fun K => (He.ga (cOf K).K "cast_of"), "cast_of", "cast_of", defArgs s_cast_of, defBody s_cast_of, defScope s_cast_of⟩
def dd_check_number : Fx.DefA := ⟨fun K => (He.ga (cOf K).K "check_number"), "check_number", "check_number", defArgs s_check_number, defBody s_check_number, defScope s_check_number⟩
def dd_check_entries : Fx.DefA := ⟨fun K => (He.ga (cOf K).K "check_entries"), "check_entries", "check_entries", defArgs s_check_entries, defBody s_check_entries, defScope s_check_entries⟩
def dd_pair_product : Fx.DefA := ⟨fun K => (He.ga (cOf K).K "pair_product"), "pair_product", "pair_product", defArgs s_pair_product, defBody s_pair_product, defScope s_pair_product⟩
def dd_product_levels : Fx.DefA := ⟨fun K => (He.ga (cOf K).K "product_levels"), "product_levels", "product_levels", defArgs s_product_levels, defBody s_product_levels, defScope s_product_levels⟩
def dd_Binder___init__ : Fx.DefA := ⟨fun K => (He.ma (cOf K).K (cOf K).Binder "__init__"), "__init__", "Binder.__init__", defArgs s_Binder___init__, defBody s_Binder___init__, defScope s_Binder___init__⟩
def dd_Binder___setitem__ : Fx.DefA := ⟨fun K => (He.ma (cOf K).K (cOf K).Binder "__setitem__"), "__setitem__", "Binder.__setitem__", defArgs s_Binder___setitem__, defBody s_Binder___setitem__, defScope s_Binder___setitem__⟩
def dd_Binder_insert : Fx.DefA := ⟨fun K => (He.ma (cOf K).K (cOf K).Binder "insert"), "insert", "Binder.insert", defArgs s_Binder_insert, defBody s_Binder_insert, defScope s_Binder_insert⟩
def dd_Binder_remove : Fx.DefA := ⟨fun K => (He.ma (cOf K).K (cOf K).Binder "remove"), "remove", "Binder.remove", defArgs s_Binder_remove, defBody s_Binder_remove, defScope s_Binder_remove⟩
def dd_Binder_part : Fx.DefA := ⟨fun K => (He.ma (cOf K).K (cOf K).Binder "part"), "part", "Binder.part", defArgs s_Binder_part, defBody s_Binder_part, defScope s_Binder_part⟩
def dd_Binder_part_count : Fx.DefA := ⟨fun K => (He.ma (cOf K).K (cOf K).Binder "part_count"), "part_count", "Binder.part_count", defArgs s_Binder_part_count, defBody s_Binder_part_count, defScope s_Binder_part_count⟩
def dd_Binder___len__ : Fx.DefA := ⟨fun K => (He.ma (cOf K).K (cOf K).Binder "__len__"), "__len__", "Binder.__len__", defArgs s_Binder___len__, defBody s_Binder___len__, defScope s_Binder___len__⟩
def dd_Binder___iter__ : Fx.DefA := ⟨fun K => (He.ma (cOf K).K (cOf K).Binder "__iter__"), "__iter__", "Binder.__iter__", defArgs s_Binder___iter__, defBody s_Binder___iter__, defScope s_Binder___iter__⟩
def dd__law_begin : Fx.DefA := ⟨fun K => (He.ga (cOf K).K "_law_begin"), "_law_begin", "_law_begin", defArgs s__law_begin, defBody s__law_begin, defScope s__law_begin⟩
def dd__law_draw : Fx.DefA := ⟨fun K => (He.ga (cOf K).K "_law_draw"), "_law_draw", "_law_draw", defArgs s__law_draw, defBody s__law_draw, defScope s__law_draw⟩
def dd__law_best : Fx.DefA := ⟨fun K => (He.ga (cOf K).K "_law_best"), "_law_best", "_law_best", defArgs s__law_best, defBody s__law_best, defScope s__law_best⟩
def dd__law_page : Fx.DefA := ⟨fun K => (He.ga (cOf K).K "_law_page"), "_law_page", "_law_page", defArgs s__law_page, defBody s__law_page, defScope s__law_page⟩
def dd__law_numbers : Fx.DefA := ⟨fun K => (He.ga (cOf K).K "_law_numbers"), "_law_numbers", "_law_numbers", defArgs s__law_numbers, defBody s__law_numbers, defScope s__law_numbers⟩
def dd__law_stands : Fx.DefA := ⟨fun K => (He.ga (cOf K).K "_law_stands"), "_law_stands", "_law_stands", defArgs s__law_stands, defBody s__law_stands, defScope s__law_stands⟩
def dd__law_entries : Fx.DefA := ⟨fun K => (He.ga (cOf K).K "_law_entries"), "_law_entries", "_law_entries", defArgs s__law_entries, defBody s__law_entries, defScope s__law_entries⟩
def dd__law_binder : Fx.DefA := ⟨fun K => (He.ga (cOf K).K "_law_binder"), "_law_binder", "_law_binder", defArgs s__law_binder, defBody s__law_binder, defScope s__law_binder⟩
def dd__law_other : Fx.DefA := ⟨fun K => (He.ga (cOf K).K "_law_other"), "_law_other", "_law_other", defArgs s__law_other, defBody s__law_other, defScope s__law_other⟩
def dd__law_counts : Fx.DefA := ⟨fun K => (He.ga (cOf K).K "_law_counts"), "_law_counts", "_law_counts", defArgs s__law_counts, defBody s__law_counts, defScope s__law_counts⟩
def dd__law_replaced : Fx.DefA := ⟨fun K => (He.ga (cOf K).K "_law_replaced"), "_law_replaced", "_law_replaced", defArgs s__law_replaced, defBody s__law_replaced, defScope s__law_replaced⟩
def dd__law_grown : Fx.DefA := ⟨fun K => (He.ga (cOf K).K "_law_grown"), "_law_grown", "_law_grown", defArgs s__law_grown, defBody s__law_grown, defScope s__law_grown⟩
def dd_law : Fx.DefA := ⟨fun K => (He.ga (cOf K).K "law"), "law", "law", defArgs s_law, defBody s_law, defScope s_law⟩
def dds0 : List Fx.DefA := [dd_check_places, dd_check_stretch, dd_at_place, dd_landing, dd_came_list, dd_heights_of, dd_count_between, dd_carried_to, dd_carried_came, dd_step_came, dd_peel, dd_product_heights, dd_Cast___init__, dd_Cast_none, dd_Cast_places]
def dds1 : List Fx.DefA := [dd_Cast_balls, dd_Cast_heights, dd_Cast_count, dd_check_like, dd_Cast___mul__, dd_is_rising, dd_Calendar___init__, dd_Calendar_every, dd_Calendar_places, dd_Calendar_signs, dd_Calendar_stands, dd_check_page, dd_sets_of, dd_came_of, dd_cast_of]
def dds2 : List Fx.DefA := [dd_check_number, dd_check_entries, dd_pair_product, dd_product_levels, dd_Binder___init__, dd_Binder___setitem__, dd_Binder_insert, dd_Binder_remove, dd_Binder_part, dd_Binder_part_count, dd_Binder___len__, dd_Binder___iter__, dd__law_begin, dd__law_draw, dd__law_best]
def dds3 : List Fx.DefA := [dd__law_page, dd__law_numbers, dd__law_stands, dd__law_entries, dd__law_binder, dd__law_other, dd__law_counts, dd__law_replaced, dd__law_grown, dd_law]
def dds : List Fx.DefA := dds0 ++ dds1 ++ dds2 ++ dds3
def nm0 : List Str := ["_wall", "RollError", "BadSize", "BadHeight", "Collision", "TooManyBalls", "BadStretch", "BadStands", "BadNumber", "Unlike", "NoRoom", "BadText", "BadCalendar", "NoSign", "BadPage", "NoPage", "Full", "MOST_PLACES"]
def nm1 : List Str := ["MOST_BALLS", "MOST_HEIGHT", "MOST_PAGE", "check_places", "check_stretch", "check_stands", "check_page", "check_like", "at_place", "landing", "came_list", "heights_of", "launch", "airborne", "count_between", "one_entry", "carried_came", "carried_to"]
def nm2 : List Str := ["step_came", "peel", "product_heights", "mirrored_heights", "turned_heights", "table_of", "table_row", "heights_of_table", "came_in_table", "is_within", "first_surplus", "surplus_end", "quotient_ahead", "least_difference", "quotient_behind", "DIGITS", "MOST_TIMES", "Cast"]
def nm3 : List Str := ["is_short_number", "check_divisor", "sets_of", "came_of", "cast_of", "MOST_PAGES", "check_number", "check_entries", "pair_product", "product_levels", "Binder", "LETTERS", "MOST_EVERY", "is_rising", "Calendar", "_law_begin", "_law_draw", "_law_best"]
def nm4 : List Str := ["_law_page", "_law_numbers", "_law_stands", "_law_entries", "_law_binder", "_law_other", "_law_counts", "_law_replaced", "_law_grown"]
def names : List Str := nm0 ++ nm1 ++ nm2 ++ nm3 ++ nm4
def rt0 : List Str := ["Binder", "Calendar", "Cast", "LETTERS", "MOST_BALLS", "MOST_EVERY", "MOST_HEIGHT", "MOST_PAGE", "MOST_PAGES", "MOST_PLACES", "_law_begin", "_law_best", "_law_binder", "_law_counts", "_law_draw", "_law_entries", "_law_grown", "_law_numbers"]
def rt1 : List Str := ["_law_other", "_law_page", "_law_replaced", "_law_stands", "at_place", "came_list", "came_of", "carried_came", "carried_to", "cast_of", "check_entries", "check_like", "check_number", "check_page", "check_places", "check_stretch", "count_between", "heights_of"]
def rt2 : List Str := ["is_rising", "landing", "law", "pair_product", "peel", "product_heights", "product_levels", "sets_of", "step_came"]
def roots : List Str := rt0 ++ rt1 ++ rt2
theorem txt_of {K : PySem.W.Frag} {h : Heap} {mg : Str → Option Value} (X : K.In h) (G : h.Ns mainGlobals mg) (s : Fx.SaysA cks dds K) : Txt (cOf K) mg where
  c_MOST_PLACES := He.int_ok X G (s.fact 0 (f := ck0) rfl)
  m_len := He.free_ok X G (s.fact 1 (f := ck1) rfl)
  m_range := He.free_ok X G (s.fact 2 (f := ck2) rfl)
  m_int := He.free_ok X G (s.fact 3 (f := ck3) rfl)
  m_max := He.free_ok X G (s.fact 4 (f := ck4) rfl)
  g_check_stretch := He.glo_ok X G (s.fact 5 (f := ck5) rfl)
  g_landing := He.glo_ok X G (s.fact 6 (f := ck6) rfl)
  g_at_place := He.glo_ok X G (s.fact 7 (f := ck7) rfl)
  g_carried_to := He.glo_ok X G (s.fact 8 (f := ck8) rfl)
  g_carried_came := He.glo_ok X G (s.fact 9 (f := ck9) rfl)
  m_list := He.free_ok X G (s.fact 10 (f := ck10) rfl)
  m_sum := He.free_ok X G (s.fact 11 (f := ck11) rfl)
  g_peel := He.glo_ok X G (s.fact 12 (f := ck12) rfl)
  g_came_list := He.glo_ok X G (s.fact 13 (f := ck13) rfl)
  g_step_came := He.glo_ok X G (s.fact 14 (f := ck14) rfl)
  g_heights_of := He.glo_ok X G (s.fact 15 (f := ck15) rfl)
  k_Cast_MOST_BALLS := Fx.conB_ok (s.fact 16 (f := ck16) rfl)
  rd_Cast := Fx.readB_ok (s.fact 17 (f := ck17) rfl)
  g_Cast := He.glo_ok X G (s.fact 18 (f := ck18) rfl)
  k_Cast_MOST_PLACES := Fx.conB_ok (s.fact 19 (f := ck19) rfl)
  c_MOST_HEIGHT := He.int_ok X G (s.fact 20 (f := ck20) rfl)
  m_tuple := He.free_ok X G (s.fact 21 (f := ck21) rfl)
  n_Cast__heights := He.noat_ok (s.fact 22 (f := ck22) rfl)
  cl_Cast := He.cls_ok (s.fact 23 (f := ck23) rfl)
  g_check_places := He.glo_ok X G (s.fact 24 (f := ck24) rfl)
  mk_Cast := He.mkr_ok (s.fact 25 (f := ck25) rfl)
  pr_Cast_heights := Fx.propB_ok (s.fact 26 (f := ck26) rfl)
  g_count_between := He.glo_ok X G (s.fact 27 (f := ck27) rfl)
  pr_Cast_places := Fx.propB_ok (s.fact 28 (f := ck28) rfl)
  g_check_like := He.glo_ok X G (s.fact 29 (f := ck29) rfl)
  pr_Cast_balls := Fx.propB_ok (s.fact 30 (f := ck30) rfl)
  g_product_heights := He.glo_ok X G (s.fact 31 (f := ck31) rfl)
  c_LETTERS := He.str_ok X G (s.fact 32 (f := ck32) rfl)
  m_enumerate := He.free_ok X G (s.fact 33 (f := ck33) rfl)
  n_Calendar__words := He.noat_ok (s.fact 34 (f := ck34) rfl)
  cl_Calendar := He.cls_ok (s.fact 35 (f := ck35) rfl)
  g_is_rising := He.glo_ok X G (s.fact 36 (f := ck36) rfl)
  c_MOST_EVERY := He.int_ok X G (s.fact 37 (f := ck37) rfl)
  mk_Calendar := He.mkr_ok (s.fact 38 (f := ck38) rfl)
  g_Calendar := He.glo_ok X G (s.fact 39 (f := ck39) rfl)
  c_MOST_PAGE := He.int_ok X G (s.fact 40 (f := ck40) rfl)
  pr_Calendar_signs := Fx.propB_ok (s.fact 41 (f := ck41) rfl)
  g_check_page := He.glo_ok X G (s.fact 42 (f := ck42) rfl)
  mt_Calendar_stands := He.meth_ok (s.fact 43 (f := ck43) rfl)
  pr_Calendar_places := Fx.propB_ok (s.fact 44 (f := ck44) rfl)
  g_sets_of := He.glo_ok X G (s.fact 45 (f := ck45) rfl)
  g_came_of := He.glo_ok X G (s.fact 46 (f := ck46) rfl)
  c_MOST_BALLS := He.int_ok X G (s.fact 47 (f := ck47) rfl)
  sf_Cast := s.fact 48 (f := ck48) rfl
  hs_Cast___mul__ := Fx.hasB_ok (s.fact 49 (f := ck49) rfl)
  g_pair_product := He.glo_ok X G (s.fact 50 (f := ck50) rfl)
  c_MOST_PAGES := He.int_ok X G (s.fact 51 (f := ck51) rfl)
  n_Binder__levels := He.noat_ok (s.fact 52 (f := ck52) rfl)
  cl_Binder := He.cls_ok (s.fact 53 (f := ck53) rfl)
  n_Binder__page_list := He.noat_ok (s.fact 54 (f := ck54) rfl)
  n_Binder_calendar := He.noat_ok (s.fact 55 (f := ck55) rfl)
  g_check_entries := He.glo_ok X G (s.fact 56 (f := ck56) rfl)
  g_cast_of := He.glo_ok X G (s.fact 57 (f := ck57) rfl)
  g_product_levels := He.glo_ok X G (s.fact 58 (f := ck58) rfl)
  g_check_number := He.glo_ok X G (s.fact 59 (f := ck59) rfl)
  st_Cast_none := Fx.statB_ok (s.fact 60 (f := ck60) rfl)
  mt_Binder_part := He.meth_ok (s.fact 61 (f := ck61) rfl)
  mt_Cast_count := He.meth_ok (s.fact 62 (f := ck62) rfl)
  m_iter := He.free_ok X G (s.fact 63 (f := ck63) rfl)
  m_abs := He.free_ok X G (s.fact 64 (f := ck64) rfl)
  m_bool := He.free_ok X G (s.fact 65 (f := ck65) rfl)
  m_isinstance := He.free_ok X G (s.fact 66 (f := ck66) rfl)
  g__law_draw := He.glo_ok X G (s.fact 67 (f := ck67) rfl)
  g__law_stands := He.glo_ok X G (s.fact 68 (f := ck68) rfl)
  mk_Binder := He.mkr_ok (s.fact 69 (f := ck69) rfl)
  g_Binder := He.glo_ok X G (s.fact 70 (f := ck70) rfl)
  mt_Binder_insert := He.meth_ok (s.fact 71 (f := ck71) rfl)
  hs_Binder___len__ := Fx.hasB_ok (s.fact 72 (f := ck72) rfl)
  g__law_page := He.glo_ok X G (s.fact 73 (f := ck73) rfl)
  g__law_entries := He.glo_ok X G (s.fact 74 (f := ck74) rfl)
  mt_Binder_part_count := He.meth_ok (s.fact 75 (f := ck75) rfl)
  g__law_best := He.glo_ok X G (s.fact 76 (f := ck76) rfl)
  g__law_numbers := He.glo_ok X G (s.fact 77 (f := ck77) rfl)
  g__law_begin := He.glo_ok X G (s.fact 78 (f := ck78) rfl)
  st_Calendar_every := Fx.statB_ok (s.fact 79 (f := ck79) rfl)
  rd_Calendar := Fx.readB_ok (s.fact 80 (f := ck80) rfl)
  g__law_binder := He.glo_ok X G (s.fact 81 (f := ck81) rfl)
  g__law_counts := He.glo_ok X G (s.fact 82 (f := ck82) rfl)
  g__law_other := He.glo_ok X G (s.fact 83 (f := ck83) rfl)
  nq_Binder := s.fact 84 (f := ck84) rfl
  hs_Binder___setitem__ := Fx.hasB_ok (s.fact 85 (f := ck85) rfl)
  g__law_replaced := He.glo_ok X G (s.fact 86 (f := ck86) rfl)
  g__law_grown := He.glo_ok X G (s.fact 87 (f := ck87) rfl)
  mt_Binder_remove := He.meth_ok (s.fact 88 (f := ck88) rfl)
  hs_Binder___iter__ := Fx.hasB_ok (s.fact 89 (f := ck89) rfl)
theorem law_fn {P : Program} {w : World} {K : PySem.W.Frag} {h : Heap} {mg : Str → Option Value} (X : K.In h) (G : h.Ns mainGlobals mg) (s : Fx.SaysA cks dds K) :
    ∃ fd : FuncData, (∀ (s : Shared) (v : Value), BindsTo s fd ⟨[v], []⟩ [("_law_script", v)]) ∧ ∀ base : Heap, K.In base → base.Ns mainGlobals mg → FnOk P w K mg base (L2.CX P w) 15 (He.ga K "law") fd ["_law_script"] (sp_law (cOf K)) := by
  have T := txt_of X G s
  have F_check_places := s.def_ 0 (d := dd_check_places) rfl
  have F_check_stretch := s.def_ 1 (d := dd_check_stretch) rfl
  have F_at_place := s.def_ 2 (d := dd_at_place) rfl
  have F_landing := s.def_ 3 (d := dd_landing) rfl
  have F_came_list := s.def_ 4 (d := dd_came_list) rfl
  have F_heights_of := s.def_ 5 (d := dd_heights_of) rfl
  have F_count_between := s.def_ 6 (d := dd_count_between) rfl
  have F_carried_to := s.def_ 7 (d := dd_carried_to) rfl
  have F_carried_came := s.def_ 8 (d := dd_carried_came) rfl
  have F_step_came := s.def_ 9 (d := dd_step_came) rfl
  have F_peel := s.def_ 10 (d := dd_peel) rfl
  have F_product_heights := s.def_ 11 (d := dd_product_heights) rfl
  have F_Cast___init__ := s.def_ 12 (d := dd_Cast___init__) rfl
  have F_Cast_none := s.def_ 13 (d := dd_Cast_none) rfl
  have F_Cast_places := s.def_ 14 (d := dd_Cast_places) rfl
  have F_Cast_balls := s.def_ 15 (d := dd_Cast_balls) rfl
  have F_Cast_heights := s.def_ 16 (d := dd_Cast_heights) rfl
  have F_Cast_count := s.def_ 17 (d := dd_Cast_count) rfl
  have F_check_like := s.def_ 18 (d := dd_check_like) rfl
  have F_Cast___mul__ := s.def_ 19 (d := dd_Cast___mul__) rfl
  have F_is_rising := s.def_ 20 (d := dd_is_rising) rfl
  have F_Calendar___init__ := s.def_ 21 (d := dd_Calendar___init__) rfl
  have F_Calendar_every := s.def_ 22 (d := dd_Calendar_every) rfl
  have F_Calendar_places := s.def_ 23 (d := dd_Calendar_places) rfl
  have F_Calendar_signs := s.def_ 24 (d := dd_Calendar_signs) rfl
  have F_Calendar_stands := s.def_ 25 (d := dd_Calendar_stands) rfl
  have F_check_page := s.def_ 26 (d := dd_check_page) rfl
  have F_sets_of := s.def_ 27 (d := dd_sets_of) rfl
  have F_came_of := s.def_ 28 (d := dd_came_of) rfl
  have F_cast_of := s.def_ 29 (d := dd_cast_of) rfl
  have F_check_number := s.def_ 30 (d := dd_check_number) rfl
  have F_check_entries := s.def_ 31 (d := dd_check_entries) rfl
  have F_pair_product := s.def_ 32 (d := dd_pair_product) rfl
  have F_product_levels := s.def_ 33 (d := dd_product_levels) rfl
  have F_Binder___init__ := s.def_ 34 (d := dd_Binder___init__) rfl
  have F_Binder___setitem__ := s.def_ 35 (d := dd_Binder___setitem__) rfl
  have F_Binder_insert := s.def_ 36 (d := dd_Binder_insert) rfl
  have F_Binder_remove := s.def_ 37 (d := dd_Binder_remove) rfl
  have F_Binder_part := s.def_ 38 (d := dd_Binder_part) rfl
  have F_Binder_part_count := s.def_ 39 (d := dd_Binder_part_count) rfl
  have F_Binder___len__ := s.def_ 40 (d := dd_Binder___len__) rfl
  have F_Binder___iter__ := s.def_ 41 (d := dd_Binder___iter__) rfl
  have F__law_begin := s.def_ 42 (d := dd__law_begin) rfl
  have F__law_draw := s.def_ 43 (d := dd__law_draw) rfl
  have F__law_best := s.def_ 44 (d := dd__law_best) rfl
  have F__law_page := s.def_ 45 (d := dd__law_page) rfl
  have F__law_numbers := s.def_ 46 (d := dd__law_numbers) rfl
  have F__law_stands := s.def_ 47 (d := dd__law_stands) rfl
  have F__law_entries := s.def_ 48 (d := dd__law_entries) rfl
  have F__law_binder := s.def_ 49 (d := dd__law_binder) rfl
  have F__law_other := s.def_ 50 (d := dd__law_other) rfl
  have F__law_counts := s.def_ 51 (d := dd__law_counts) rfl
  have F__law_replaced := s.def_ 52 (d := dd__law_replaced) rfl
  have F__law_grown := s.def_ 53 (d := dd__law_grown) rfl
  have F_law := s.def_ 54 (d := dd_law) rfl
  obtain ⟨fd, F⟩ := F_law
  have b := FunD.bindsA (ps := ["_law_script"]) F fun _ _ _ _ _ _ us hl => match us, hl with | [_], _ => rfl
  refine ⟨fd, fun s v => b s [v] rfl, fun base _ _ => ?_⟩
  have Fo_check_places := ok_check_places (P := P) (w := w) (base := base) (c := cOf K) T F_check_places 
  have Fo_check_stretch := ok_check_stretch (P := P) (w := w) (base := base) (c := cOf K) T F_check_stretch 
  have Fo_at_place := ok_at_place (P := P) (w := w) (base := base) (c := cOf K) T F_at_place 
  have Fo_landing := ok_landing (P := P) (w := w) (base := base) (c := cOf K) T F_landing 
  have Fo_came_list := ok_came_list (P := P) (w := w) (base := base) (c := cOf K) T F_came_list 
  have Fo_heights_of := ok_heights_of (P := P) (w := w) (base := base) (c := cOf K) T F_heights_of 
  have Fo_count_between := ok_count_between (P := P) (w := w) (base := base) (c := cOf K) T F_count_between Fo_check_stretch Fo_landing
  have Fo_carried_to := ok_carried_to (P := P) (w := w) (base := base) (c := cOf K) T F_carried_to Fo_at_place
  have Fo_carried_came := ok_carried_came (P := P) (w := w) (base := base) (c := cOf K) T F_carried_came Fo_carried_to
  have Fo_step_came := ok_step_came (P := P) (w := w) (base := base) (c := cOf K) T F_step_came Fo_carried_came
  have Fo_peel := ok_peel (P := P) (w := w) (base := base) (c := cOf K) T F_peel 
  have Fo_product_heights := ok_product_heights (P := P) (w := w) (base := base) (c := cOf K) T F_product_heights Fo_peel Fo_came_list Fo_step_came Fo_heights_of
  have Fo_Cast___init__ := ok_Cast___init__ (P := P) (w := w) (base := base) (c := cOf K) T F_Cast___init__ 
  have Fo_Cast_none := ok_Cast_none (P := P) (w := w) (base := base) (c := cOf K) T F_Cast_none Fo_check_places Fo_Cast___init__
  have Fo_Cast_places := ok_Cast_places (P := P) (w := w) (base := base) (c := cOf K) T F_Cast_places 
  have Fo_Cast_balls := ok_Cast_balls (P := P) (w := w) (base := base) (c := cOf K) T F_Cast_balls 
  have Fo_Cast_heights := ok_Cast_heights (P := P) (w := w) (base := base) (c := cOf K) T F_Cast_heights 
  have Fo_Cast_count := ok_Cast_count (P := P) (w := w) (base := base) (c := cOf K) T F_Cast_count Fo_Cast_heights Fo_count_between
  have Fo_check_like := ok_check_like (P := P) (w := w) (base := base) (c := cOf K) T F_check_like Fo_Cast_places
  have Fo_Cast___mul__ := ok_Cast___mul__ (P := P) (w := w) (base := base) (c := cOf K) T F_Cast___mul__ Fo_check_like Fo_Cast_balls Fo_Cast_heights Fo_product_heights Fo_Cast___init__
  have Fo_is_rising := ok_is_rising (P := P) (w := w) (base := base) (c := cOf K) T F_is_rising 
  have Fo_Calendar___init__ := ok_Calendar___init__ (P := P) (w := w) (base := base) (c := cOf K) T F_Calendar___init__ Fo_is_rising
  have Fo_Calendar_every := ok_Calendar_every (P := P) (w := w) (base := base) (c := cOf K) T F_Calendar_every Fo_Calendar___init__
  have Fo_Calendar_places := ok_Calendar_places (P := P) (w := w) (base := base) (c := cOf K) T F_Calendar_places 
  have Fo_Calendar_signs := ok_Calendar_signs (P := P) (w := w) (base := base) (c := cOf K) T F_Calendar_signs 
  have Fo_Calendar_stands := ok_Calendar_stands (P := P) (w := w) (base := base) (c := cOf K) T F_Calendar_stands 
  have Fo_check_page := ok_check_page (P := P) (w := w) (base := base) (c := cOf K) T F_check_page Fo_Calendar_signs
  have Fo_sets_of := ok_sets_of (P := P) (w := w) (base := base) (c := cOf K) T F_sets_of Fo_check_page Fo_Calendar_stands
  have Fo_came_of := ok_came_of (P := P) (w := w) (base := base) (c := cOf K) T F_came_of Fo_Calendar_places Fo_sets_of Fo_step_came
  have Fo_cast_of := ok_cast_of (P := P) (w := w) (base := base) (c := cOf K) T F_cast_of Fo_came_of Fo_heights_of Fo_Cast___init__
  have Fo_check_number := ok_check_number (P := P) (w := w) (base := base) (c := cOf K) T F_check_number 
  have Fo_check_entries := ok_check_entries (P := P) (w := w) (base := base) (c := cOf K) T F_check_entries 
  have Fo_pair_product := ok_pair_product (P := P) (w := w) (base := base) (c := cOf K) T F_pair_product Fo_Cast___mul__
  have Fo_product_levels := ok_product_levels (P := P) (w := w) (base := base) (c := cOf K) T F_product_levels Fo_pair_product
  have Fo_Binder___init__ := ok_Binder___init__ (P := P) (w := w) (base := base) (c := cOf K) T F_Binder___init__ Fo_check_page Fo_check_entries Fo_cast_of Fo_product_levels
  have Fo_Binder___setitem__ := ok_Binder___setitem__ (P := P) (w := w) (base := base) (c := cOf K) T F_Binder___setitem__ Fo_check_number Fo_check_page Fo_check_entries Fo_cast_of Fo_pair_product
  have Fo_Binder_insert := ok_Binder_insert (P := P) (w := w) (base := base) (c := cOf K) T F_Binder_insert Fo_check_number Fo_check_page Fo_check_entries Fo_cast_of Fo_product_levels
  have Fo_Binder_remove := ok_Binder_remove (P := P) (w := w) (base := base) (c := cOf K) T F_Binder_remove Fo_check_number Fo_product_levels
  have Fo_Binder_part := ok_Binder_part (P := P) (w := w) (base := base) (c := cOf K) T F_Binder_part Fo_check_number Fo_Calendar_places Fo_Cast_none Fo_Cast___mul__
  have Fo_Binder_part_count := ok_Binder_part_count (P := P) (w := w) (base := base) (c := cOf K) T F_Binder_part_count Fo_Binder_part Fo_Cast_count
  have Fo_Binder___len__ := ok_Binder___len__ (P := P) (w := w) (base := base) (c := cOf K) T F_Binder___len__ 
  have Fo_Binder___iter__ := ok_Binder___iter__ (P := P) (w := w) (base := base) (c := cOf K) T F_Binder___iter__ 
  have Fo__law_begin := ok__law_begin (P := P) (w := w) (base := base) (c := cOf K) T F__law_begin 
  have Fo__law_draw := ok__law_draw (P := P) (w := w) (base := base) (c := cOf K) T F__law_draw 
  have Fo__law_best := ok__law_best (P := P) (w := w) (base := base) (c := cOf K) T F__law_best 
  have Fo__law_page := ok__law_page (P := P) (w := w) (base := base) (c := cOf K) T F__law_page 
  have Fo__law_numbers := ok__law_numbers (P := P) (w := w) (base := base) (c := cOf K) T F__law_numbers 
  have Fo__law_stands := ok__law_stands (P := P) (w := w) (base := base) (c := cOf K) T F__law_stands 
  have Fo__law_entries := ok__law_entries (P := P) (w := w) (base := base) (c := cOf K) T F__law_entries Fo__law_draw Fo__law_stands
  have Fo__law_binder := ok__law_binder (P := P) (w := w) (base := base) (c := cOf K) T F__law_binder Fo_Binder___init__ Fo_Binder_insert Fo_Binder___len__ Fo__law_page
  have Fo__law_other := ok__law_other (P := P) (w := w) (base := base) (c := cOf K) T F__law_other Fo__law_draw Fo__law_entries
  have Fo__law_counts := ok__law_counts (P := P) (w := w) (base := base) (c := cOf K) T F__law_counts Fo_Binder_part_count Fo__law_best Fo__law_numbers
  have Fo__law_replaced := ok__law_replaced (P := P) (w := w) (base := base) (c := cOf K) T F__law_replaced 
  have Fo__law_grown := ok__law_grown (P := P) (w := w) (base := base) (c := cOf K) T F__law_grown 
  exact okL (c := cOf K) T F Fo__law_begin Fo__law_draw Fo__law_entries Fo_Calendar_every Fo__law_binder Fo__law_counts Fo__law_other Fo__law_page Fo_Binder___setitem__ Fo__law_replaced Fo_Binder_insert Fo__law_grown Fo_Binder_remove Fo_Binder___iter__ Fo_Binder___len__
end Ly

/-! Gh -/
set_option Elab.async false
set_option linter.all false
set_option maxRecDepth 100000
set_option maxHeartbeats 0
namespace Ly
open PySem PySem.Spec PyProof.Rows L2
abbrev R : PySem.W.OpenRow := PySem.W.OpenLaw.row PySem.Challenge.rw_datelessrolls_k79_binder_reach
abbrev hk : PySem.W.Hook := Fx.hookA roots 6 cks dds
def ob (s : PySem.W.SharedT) : He.AlD := Fx.obsAG roots 6 cks dds (HandSHeadRun.getT s)
theorem ob_eq (s : PySem.W.SharedT) : ob s = hk.obs s.abs := Fx.obsAG_eq (HandSHeadRun.getT_eq s)
theorem fn_cx {P : Program} {w : World} {K : PySem.W.Frag} {mg : Str → Option Value} {base : Heap} {CX CX' : CXT} {k : Nat} {f : Addr} {fd : FuncData} {ps : List Str} {sp : Sp} (F : FnOk P w K mg base CX k f fd ps sp) (h : ∀ outer H s E e s', CX outer H s E e s' → CX' outer H s E e s') : FnOk P w K mg base CX' k f fd ps sp :=
  ⟨F.len, fun A outer s H args us vs Q E hr e0 b r hs => codeAny_mono (F.run A outer s H args us vs Q E hr e0 b r hs) fun r s' hq => by
    cases r with
    | error e => exact h _ _ _ _ _ _ hq
    | ok fl => cases fl <;> exact hq⟩
def CXw (P : Program) : CXT := fun outer H s E e s' => ∃ w, L2.CX P w outer H s E e s'
theorem run (w : World) : HandSHeadRun.RunEq R (PySem.W.view R.prog [91]) hk ob 100000 names w := by
  intro os
  kernel_rfl
end Ly
open PySem PySem.W PySem.Calls PyProof.Rows
theorem PySem.Challenge.cw_datelessrolls_k79_binder_reach_holds : PySem.Challenge.rw_datelessrolls_k79_binder_reach.Holds := by
  w_on; o_law
  refine HandSHeadRun.head_any (r := OpenLaw.row PySem.Challenge.rw_datelessrolls_k79_binder_reach) (q := view (OpenLaw.row PySem.Challenge.rw_datelessrolls_k79_binder_reach).prog [91]) (H := Ly.hk) (ob := Ly.ob) (M := 100000) (loose := Ly.names) (d := HandSHeadRun.topDef (OpenLaw.row PySem.Challenge.rw_datelessrolls_k79_binder_reach).prog 91) (kwd := []) Ly.ob_eq
    (by kernel_rfl) (fun s => by kernel_rfl) Ly.run (by kernel_rfl) (by kernel_rfl) (by kernel_rfl) (by rfl) (by first | assumption | decide +kernel) (by decide +kernel) ⟨rfl, rfl, rfl, rfl, rfl, by decide +kernel⟩ ?hw ?hc
  case hw => w_witness2
  case hc =>
    refine L2.walk_ofE (l := PySem.Challenge.rw_datelessrolls_k79_binder_reach) (n := 63) (k := 15) (x := "_law_script") (CX := Ly.CXw (PySem.Challenge.rw_datelessrolls_k79_binder_reach).prog) rfl (by decide) (by kernel_rfl) ⟨rfl, by decide, by decide⟩ ?F ?C
    case C =>
      intro H s e s' h
      obtain ⟨_, _, _, _, _, _, _, _, _, _, _, _, _, hE⟩ := h
      exact hE
    intro w mg fa h Y G hmg0
    obtain ⟨K, KX, c⟩ := Y
    have hmg : mg ("law" : PySem.Str) = some (.ref fa) := by
      have e : (HandSHeadRun.topDef (OpenLaw.row PySem.Challenge.rw_datelessrolls_k79_binder_reach).prog 91).name = ("law" : PySem.Str) := by kernel_rfl
      rw [← e]
      exact hmg0
    obtain ⟨fd, hb, hF⟩ := Ly.law_fn (P := (PySem.Challenge.rw_datelessrolls_k79_binder_reach).prog) (w := w) KX G c
    have e2 := hmg.symm.trans (He.glo_ok KX G (c.fact Ly.iLaw (f := Ly.ckLaw) rfl))
    cases e2
    exact ⟨K, fd, Ly.sp_law (Ly.cOf K), KX, hb, fun H a ns hl _ hS => ⟨a, ns, rfl, hS, fun _ => rfl⟩, fun base h1 h2 => Ly.fn_cx (hF base h1 h2) fun _ _ _ _ _ _ z => ⟨w, z⟩⟩
