import PyProof.Rows.All
import KE.GoesZip
import KE.GoesMore
import KE.GoesEnum
import HandS.SortInts
import HandS.SetFor
import HandS.TupMul
import Wide.All
import OpenK.AllK
import Wide.FinOn
import HandS.ForMost
import HandS.Exc
import HandS.TryOnly
import HandS.ExcOwn
import HandS.WordsExc
import HandS.IsInst
import HandS.Style
import HandS.Codes
import HandS.Wide
import HandS.TupAny
import HandS.EndBits
import KE.IntTextLaws
import HandS.NoneIn
import HandS.More
import HandS.Walk
import HandS.ExcInit
import HandS.ExcField
import HandS.ClsMeth
import HandS.TryMany
import PySem.Challenge.RW_iceopened_k23_breakings_told
set_option Elab.async false
set_option autoImplicit false
set_option linter.all false
set_option maxRecDepth 100000
set_option maxHeartbeats 4000000
/-! ### P0: more rules over the hand layer, and a tactic for readings (walk_at "rd") -/
namespace My
open PySem PySem.Spec PyProof.Rows L2

/-! #### values that repr shows without looking into the heap -/
def shown0 : V → Option Str
  | .non => some "None"
  | .bl b => some (if b then "True" else "False")
  | .int i => if i.natAbs.log2 < 1920 then some (toString i) else none
  | .str x => if (reprText x).length ≤ sizeLine then some (reprText x) else none
  | _ => none
def rRepr0 : List V → Hp → VK → Prop := fun xs H Q => ∃ v t, xs = [v] ∧ shown0 v = some t ∧ Q (.str t) H
section
variable {X : Cx}
theorem call_repr0 : CallR X (.builtin "repr") rRepr0 := by
  intro pins s σ H xs us Q I r h
  obtain ⟨v, t, rfl, e, q⟩ := h
  obtain ⟨u, rfl, r1⟩ := vals1 r
  cases v with
  | non =>
    cases (show u = Value.none from r1)
    cases e
    exact PySem.P.repr_of_none ⟨.str _, H, I.tok _, ⟨_, rfl⟩, q⟩
  | bl b =>
    cases (show u = Value.bool b from r1)
    cases e
    exact PySem.P.repr_of_bool ⟨.str _, H, I.tok _, ⟨_, rfl⟩, q⟩
  | int i =>
    obtain ⟨t', rfl⟩ := (show ∃ t, u = Value.int i t from r1)
    have e' : (if i.natAbs.log2 < 1920 then some (toString i : Str) else none) = some t := e
    split at e'
    · rename_i hz
      cases e'
      exact PySem.P.repr_of_int hz ⟨.str _, H, I.tok _, ⟨_, rfl⟩, q⟩
    · cases e'
  | str x =>
    obtain ⟨t', rfl⟩ := (show ∃ t, u = Value.str x t from r1)
    have e' : (if (reprText x).length ≤ sizeLine then some (reprText x) else none) = some t := e
    split at e'
    · rename_i hz
      cases e'
      exact PySem.P.repr_of_str ⟨.str _, H, I.tok _, ⟨_, rfl⟩, q⟩ hz
    · cases e'
  | byt _ => cases e
  | flt _ => cases e
  | ref _ => cases e
  | ty _ => cases e

/-! #### a text times a small number -/
def rRepS : R2 := fun x y H Q => ∃ a n, x = .str a ∧ y = .int n ∧ MulOk a n ∧ Q (.str (Txt.mul a n)) H
theorem op_repS : OpR X (binaryOp .Mult) rRepS := by
  intro pins s σ H x y v u Q I rx ry h
  obtain ⟨a, n, rfl, rfl, hm, q⟩ := h
  obtain ⟨t, rfl⟩ := rx
  obtain ⟨t', rfl⟩ := ry
  exact SB.mul hm fun t2 k => ⟨.str _, H, I.tok k, ⟨_, rfl⟩, q⟩
end

/-! #### rules with the written part named -/
section
variable {X : Cx} {K : PySem.W.Frag}
theorem ixK (h : X.K = K) : IxR X (rIx K) := h ▸ ix_seq
theorem ixLK (h : X.K = K) : IxR X (rIxL K) := h ▸ ix_list
theorem ixTK (h : X.K = K) : IxR X (rIxT K) := h ▸ ix_tup
def rLenA (K : PySem.W.Frag) : List V → Hp → VK → Prop := fun xs H Q => ∃ x n, xs = [x] ∧ LenV K x H n ∧ Q (.int n) H
theorem lenK (h : X.K = K) : CallR X (.builtin "len") (rLenA K) := h ▸ call_len
theorem isiK (h : X.K = K) : CallR X (.builtin "isinstance") (rIsi K) := h ▸ call_isi
theorem isiTK (h : X.K = K) : CallR X (.builtin "isinstance") (rIsiT K) := h ▸ call_isiT
theorem allK (h : X.K = K) (hc : X.calm = true) : CallR X (.builtin "all") (rAll K) := h ▸ cr_all hc
theorem anyK (h : X.K = K) (hc : X.calm = true) : CallR X (.builtin "any") (rAny K) := h ▸ cr_any hc
def rInt1 : List V → Hp → VK → Prop := fun xs H Q => (∃ i, xs = [.int i] ∧ Q (.int i) H) ∨ ∃ k, xs = [.bl k] ∧ Q (.int (if k then 1 else 0)) H
theorem int1 : CallR X (.type "int") rInt1 := call_int1
theorem slTK (h : X.K = K) : SlR X (rSlA K) := h ▸ sl_tupA
theorem eqDK (h : X.K = K) (hu : X.A.units + 64 < cLine) : OpR X (compareOp .Eq) (rEqD K) := h ▸ op_eqD hu
theorem neDK (h : X.K = K) (hu : X.A.units + 64 < cLine) : OpR X (compareOp .NotEq) (rNeD K) := h ▸ op_neD hu
theorem catAK (h : X.K = K) : OpR X (binaryOp .Add) (rCatA K) := h ▸ op_catA
theorem inSeqK (h : X.K = K) : OpR X (compareOp .In) (rIn K false) := h ▸ op_in_seq
theorem notInSeqK (h : X.K = K) : OpR X (compareOp .NotIn) (rIn K true) := h ▸ op_notIn_seq
theorem slLK (h : X.K = K) : SlR X (rSlL K) := h ▸ sl_list
theorem pi_listK {tg l : Expr} {tl : TE} (h : X.K = K) (hl : PE X l tl) : PI X tg l (iList K tl) := h ▸ pi_list hl
theorem pi_tupK {tg l : Expr} {tl : TE} (h : X.K = K) (hl : PE X l tl) : PI X tg l (iTup K tl) := h ▸ pi_tup hl
theorem pe_revLK {e : Expr} {te : TE} {k : Nat} {p1 p2 p3 pos : Pos} (h : X.K = K) (he : PE X e te) : PE X (.Subscript e (.Slice none none (some (.UnaryOp .USub (.Constant (.int 1) k p1) p2)) p3) pos) (tRevL K te) := h ▸ pe_revL he
def rAddSt : R2 := fun x y H Q => ∃ i j, x = .str i ∧ y = .str j ∧ i.length + j.length ≤ sizeLine ∧ Q (.str (i ++ j)) H
theorem addS : OpR X (binaryOp .Add) rAddSt := op_add_str
def rInSg : R2 := fun x y H Q => ∃ (c : Nat) (z : Str), x = .str ⟨#[c]⟩ ∧ y = .str z ∧ Q (.bl (decide (c ∈ z.cps.toList))) H
theorem inSg : OpR X (compareOp .In) rInSg := op_in_sign
def rNotInSg : R2 := fun x y H Q => ∃ (c : Nat) (z : Str), x = .str ⟨#[c]⟩ ∧ y = .str z ∧ Q (.bl (!decide (c ∈ z.cps.toList))) H
theorem notInSg : OpR X (compareOp .NotIn) rNotInSg := op_notIn_sign
def rIntS : List V → Hp → VK → Prop := fun xs H Q => ∃ a n, xs = [.str a] ∧ PySem.intText? a = some n ∧ a.length ≤ 640 ∧ Q (.int n) H
theorem intS : CallR X (.type "int") rIntS := call_int_str
def rStrI : List V → Hp → VK → Prop := fun xs H Q => ∃ i : Int, xs = [.int i] ∧ i.natAbs.log2 < 1920 ∧ Q (.str (toString i)) H
theorem strI : CallR X (.type "str") rStrI := call_str_int
def rMax2 : List V → Hp → VK → Prop := fun xs H Q => ∃ i j, xs = [.int i, .int j] ∧ Q (.int (if j > i then j else i)) H
theorem max2 (hc : X.calm = true) : CallR X (.builtin "max") rMax2 := call_max2 hc
def rMin2 : List V → Hp → VK → Prop := fun xs H Q => ∃ i j, xs = [.int i, .int j] ∧ Q (.int (if j < i then j else i)) H
theorem min2 (hc : X.calm = true) : CallR X (.builtin "min") rMin2 := call_min2 hc
def rFind : V → List V → Hp → VK → Prop := fun x xs H Q => ∃ a b, x = .str a ∧ xs = [.str b] ∧ Q (.int (Txt.find a b)) H
theorem findS : MtR X "str.find" rFind := mt_find
/-- is True, is False, of anything -/
def rIsBA : R2 := fun x y H Q => ∃ b, y = .bl b ∧ Q (.bl (decide (x = .bl b))) H
theorem isBA : OpR X (compareOp .Is) rIsBA := by
  intro pins s σ H x y v u Q I rx ry h
  obtain ⟨b, rfl, q⟩ := h
  cases (show u = Value.bool b from ry)
  have no : ∀ z : V, z ≠ .bl b → Q (.bl (decide (z = .bl b))) H → Q (.bl false) H := fun z hz q => by
    rw [decide_eq_false hz] at q
    exact q
  cases x with
  | bl a =>
    cases (show v = Value.bool a from rx)
    by_cases e : a = b
    · subst e
      exact wpAny_is_self rfl ⟨.bl true, H, I, rfl, by simpa using q⟩
    · exact wpAny_is_other rfl (fun z => e (Value.bool.inj z)) ⟨.bl false, H, I, rfl, by simpa [e] using q⟩
  | non => cases (show v = Value.none from rx); exact wpAny_is_other rfl (fun z => by cases z) ⟨.bl false, H, I, rfl, no _ (fun z => by cases z) q⟩
  | int i => obtain ⟨t, rfl⟩ := (show ∃ t, v = Value.int i t from rx); exact wpAny_is_other rfl (fun z => by cases z) ⟨.bl false, H, I, rfl, no _ (fun z => by cases z) q⟩
  | str i => obtain ⟨t, rfl⟩ := (show ∃ t, v = Value.str i t from rx); exact wpAny_is_other rfl (fun z => by cases z) ⟨.bl false, H, I, rfl, no _ (fun z => by cases z) q⟩
  | byt i => obtain ⟨t, rfl⟩ := (show ∃ t, v = Value.bytes i t from rx); exact wpAny_is_other rfl (fun z => by cases z) ⟨.bl false, H, I, rfl, no _ (fun z => by cases z) q⟩
  | flt i => obtain ⟨t, rfl⟩ := (show ∃ t, v = Value.float i t from rx); exact wpAny_is_other rfl (fun z => by cases z) ⟨.bl false, H, I, rfl, no _ (fun z => by cases z) q⟩
  | ref a => cases (show v = Value.ref a from rx); exact wpAny_is_other rfl (fun z => by cases z) ⟨.bl false, H, I, rfl, no _ (fun z => by cases z) q⟩
  | ty n => cases (show v = Value.type n from rx); exact wpAny_is_other rfl (fun z => by cases z) ⟨.bl false, H, I, rfl, no _ (fun z => by cases z) q⟩
def rJoin (K : PySem.W.Frag) : V → List V → Hp → VK → Prop := fun x xs H Q => ∃ a p, ∃ ys : List Str, x = .str a ∧ xs = [.ref p] ∧ (SqL K H p (ys.map V.str) ∨ SqT K H p (ys.map V.str)) ∧ (ys.map (·.length)).sum + ys.length * a.length ≤ 16777216 ∧ Q (.str (Txt.join a ys)) H
theorem pe_joinK {o e : Expr} {to te : TE} {pos apos : Pos} (h : X.K = K) (ho : PE X o to) (he : PE X e te) (hs : starEach [e] X.env = [(false, eval e X.env)] := by rfl) (hbase : attributeBase o "join" X.env (eval o X.env) = eval o X.env := by rfl)
    (hline : (apos.endLine == pos.line) = true := by rfl) : PE X (.Call (.Attribute o "join" apos) [e] [] pos) (tM1 (rJoin K) to te) := by
  subst h
  exact pe_join ho he hs hbase hline
end

/-! #### a list that is set aside while an expression is evaluated -/
/-- the heap without what stands at D -/
def Wo (D : Addr) (H : Hp) : Hp := fun b => if b = D then none else H b
theorem wo_same {D : Addr} {H : Hp} : Wo D H D = none := if_pos rfl
theorem wo_ne {D b : Addr} {H : Hp} (h : b ≠ D) : Wo D H b = H b := if_neg h
theorem wo_upd {D : Addr} {H : Hp} {o : HO} (h : H D = none) : Wo D (upd H D o) = H := by
  funext b
  by_cases e : b = D
  · subst e
    rw [wo_same, h]
  · rw [wo_ne e, upd_ne e]
def tFrm (te : TE) : TE := fun σ H Q => ∃ (D : Addr) (xs : List V), H D = some (.lst xs) ∧ te σ (Wo D H) fun v H' => H' D = none → Q v (upd H' D (.lst xs))
theorem pe_frm {X : Cx} {e : Expr} {te : TE} (he : PE X e te) : PE X e (tFrm te) := by
  refine ⟨fun pins s σ H Q I h => ?_⟩
  obtain ⟨D, xs, hD, h⟩ := h
  obtain ⟨hz, its, n, rv, hg⟩ := (show ObjOk X.prog X.w H s.heap D (.lst xs) from I.hok D _ hD)
  have nD : ∀ b, H b = none → b ≠ D := fun b hb e => by rw [e, hD] at hb; cases hb
  have nO : ∀ b o, H b = some o → o ≠ .lst xs → b ≠ D := fun b o hb ho e => by rw [e, hD] at hb; exact ho (Option.some.inj hb).symm
  have I2 : Inv X ((D, { cls := .type "list", data := .seq its.toArray n }) :: pins) σ (Wo D H) s := by
    refine ⟨I.ok, I.os, I.bare, ⟨I.base.keep, I.base.slot, fun b o e1 e2 e3 => ?_, I.base.there, fun b ys e => ?_, fun b o u e => ?_, fun b ps e => ?_⟩, I.loc, I.cell, ?_, fun x c e => ?_, fun p hp => ?_, fun a o e => ?_, I.len⟩
    · have q := I.base.free b o e1 e2 e3
      rw [wo_ne (nD b q)]
      exact q
    · have q := I.base.tups b ys e
      rw [wo_ne (nO b _ q (fun z => by cases z))]
      exact q
    · have q := I.base.frzs b o u e
      rw [wo_ne (nO b _ q (fun z => by cases z))]
      exact q
    · obtain ⟨m, q⟩ := I.base.tbls b ps e
      exact ⟨m, by rw [wo_ne (nO b _ q (fun z => by cases z))]; exact q⟩
    · rw [wo_ne (nD _ I.free)]
      exact I.free
    · rw [wo_ne (nD _ (I.freeC x c e))]
      exact I.freeC x c e
    · have old : ∀ p ∈ X.pn ++ pins, s.heap.get? p.1 = some p.2 ∧ Wo D H p.1 = none ∧ p.1 ≠ X.env.locals ∧ p.1 ∉ X.fs ∧ ∀ v, p.2.data ≠ .cell v := fun p hp => by
        obtain ⟨a1, a2, a3, a4, a5⟩ := I.pin p hp
        exact ⟨a1, by rw [wo_ne (nD _ a2)]; exact a2, a3, a4, a5⟩
      rcases List.mem_append.mp hp with hp | hp
      · exact old p (List.mem_append_left _ hp)
      · rcases List.mem_cons.mp hp with rfl | hp
        · refine ⟨hg, wo_same, fun z => nD _ I.free z.symm, fun z => ?_, fun v z => by cases z⟩
          by_cases hf : H D = none
          · rw [hD] at hf
            cases hf
          · obtain ⟨_, ob, ho, _⟩ := I.ok.funs.mem z
            exact hf (I.base.free D ob ho (I.ok.frf D z) fun y => I.ok.exfs D y z)
        · exact old p (List.mem_append_right _ hp)
    · by_cases ha : a = D
      · subst ha
        rw [wo_same] at e
        cases e
      · rw [wo_ne ha] at e
        refine (I.hok a o e).stay (fun b u _ q => q) (fun b q => ?_) fun b ys q => ?_
        · rw [wo_ne (nO b _ q (fun z => by cases z))]
          exact q
        · rw [wo_ne (nO b _ q (fun z => by cases z))]
          exact q
  refine thn (he.run _ s σ (Wo D H) _ I2 h) fun u s1 hh => ?_
  obtain ⟨v, H', I', r, q⟩ := hh
  obtain ⟨p1, p2, p3, p4, _⟩ := I'.pin (D, { cls := .type "list", data := .seq its.toArray n }) (List.mem_append_right _ List.mem_cons_self)
  have p1 : s1.heap.get? D = some { cls := .type "list", data := .seq its.toArray n } := p1
  have p2 : H' D = none := p2
  have mD : ∀ b o, H' b = some o → b ≠ D := fun b o e z => by rw [z, p2] at e; cases e
  refine ⟨v, upd H' D (.lst xs), ⟨I'.ok, I'.os, I'.bare, ⟨I'.base.keep, I'.base.slot, fun b o e1 e2 e3 => ?_, I'.base.there, fun b ys e => ?_, fun b o u e => ?_, fun b ps e => ?_⟩, I'.loc, I'.cell, ?_, fun x c e => ?_, fun p hp => ?_, fun a o e => ?_, I'.len⟩, r, q p2⟩
  · rw [upd_ne (nD _ (I.base.free b o e1 e2 e3))]
    exact I'.base.free b o e1 e2 e3
  · have z := I'.base.tups b ys e
    rw [upd_ne (mD _ _ z)]
    exact z
  · have z := I'.base.frzs b o u e
    rw [upd_ne (mD _ _ z)]
    exact z
  · obtain ⟨m, z⟩ := I'.base.tbls b ps e
    exact ⟨m, by rw [upd_ne (mD _ _ z)]; exact z⟩
  · rw [upd_ne (fun z => p3 z.symm)]
    exact I'.free
  · rw [upd_ne (nD _ (I.freeC x c e))]
    exact I'.freeC x c e
  · obtain ⟨a1, a2, a3, a4, a5⟩ := I'.pin p (by
      rcases List.mem_append.mp hp with hp | hp
      · exact List.mem_append_left _ hp
      · exact List.mem_append_right _ (List.mem_cons_of_mem _ hp))
    exact ⟨a1, by rw [upd_ne (nD _ (I.pin p hp).2.1)]; exact a2, a3, a4, a5⟩
  · by_cases ha : a = D
    · subst ha
      rw [upd_same] at e
      cases e
      exact ⟨hz, its, n, rv, p1⟩
    · rw [upd_ne ha] at e
      refine (I'.hok a o e).stay (fun b u _ q => q) (fun b z => ?_) fun b ys z => ?_
      · rw [upd_ne (mD _ _ z)]
        exact z
      · rw [upd_ne (mD _ _ z)]
        exact z

/-! #### readings, one step each -/
section
variable {K : PySem.W.Frag} {σ : L2.St} {H : Hp} {i : Nat} {v x y : V} {Q : VK} {r : R2} {ta tb te : TE} {D : Ends} {t u : TS} {tt tu : TT} {g : TG} {tr : TA}
theorem rd_var (h : σ[i]? = some (some v)) (q : Q v H) : tVar i σ H Q := ⟨v, h, q⟩
theorem rd_c (q : Q v H) : tC v σ H Q := q
theorem rd_op (h : ta σ H fun x H1 => tb σ H1 fun y H2 => r x y H2 Q) : tOp r ta tb σ H Q := h
theorem rd_seq (h : t { D with nx := u D } σ H) : tSeq t u D σ H := h
theorem rd_asg (h : te σ H fun x H1 => g x σ H1 D.nx) : tAsg te g D σ H := h
theorem rd_name {P : L2.St → Hp → Prop} (h : P (σ.set i (some v)) H) : gName i v σ H P := h
theorem rd_next (h : D.nx σ H) : tNext D σ H := h
theorem rd_ret (h : te σ H D.rt) : tRet te D σ H := h
theorem rd_retN (h : D.rt .non H) : tRetN D σ H := h
theorem rd_drop (h : te σ H fun _ H1 => D.nx σ H1) : tDrop te D σ H := h
theorem rd_ifS {tc : TT} (h : tc σ H fun b H1 => if b = true then t D σ H1 else u D σ H1) : tIfS tc t u D σ H := h
theorem rd_if {tc : TT} (h : tc σ H fun c H1 => if c = true then ta σ H1 Q else tb σ H1 Q) : tIf tc ta tb σ H Q := h
theorem rd_test {P : Bool → Hp → Prop} (h : te σ H fun x H' => ∃ k, x = .bl k ∧ P k H') : tTest te σ H P := h
theorem rd_B {P : Bool → Hp → Prop} (h : te σ H fun x H' => ∃ k, x = .bl k ∧ P k H') : tB te σ H P := h
theorem rd_not {P : Bool → Hp → Prop} (h : tt σ H fun c H1 => P (!c) H1) : tNot tt σ H P := h
theorem rd_and {P : Bool → Hp → Prop} (h : tt σ H fun c H1 => if c = true then tu σ H1 P else P false H1) : tAnd tt tu σ H P := h
theorem rd_or {P : Bool → Hp → Prop} (h : tt σ H fun c H1 => if c = true then P true H1 else tu σ H1 P) : tOr tt tu σ H P := h
theorem rd_nil {P : List V → Hp → Prop} (h : P [] H) : tNil σ H P := h
theorem rd_cons {P : List V → Hp → Prop} (h : te σ H fun x H1 => tr σ H1 fun xs H2 => P (x :: xs) H2) : tCons te tr σ H P := h
theorem rd_cb {rr : List V → Hp → VK → Prop} (h : tr σ H fun vs H1 => rr vs H1 Q) : tCB rr tr σ H Q := h
theorem rd_call {sp : Sp} {dvs : List V} {E : XK} (h : tr σ H fun vs H1 => sp (vs ++ dvs) H1 Q E) : tCall sp dvs E tr σ H Q := h
theorem rd_I0 {f : Int → Int → V} {a b : Int} (h : Q (f a b) H) : rI0 f (.int a) (.int b) H Q := ⟨a, b, rfl, rfl, h⟩
theorem rd_I {C : Int → Int → Prop} {f : Int → Int → V} {a b : Int} (hc : C a b) (h : Q (f a b) H) : rI C f (.int a) (.int b) H Q := ⟨a, b, rfl, rfl, hc, h⟩
theorem rd_eq (h : scal x y = true) (q : Q (.bl (decide (x = y))) H) : rEq x y H Q := ⟨h, q⟩
theorem rd_ne (h : scal x y = true) (q : Q (.bl (!decide (x = y))) H) : rNe x y H Q := ⟨h, q⟩
theorem rd_ex_bl {P : Bool → Prop} {b : Bool} (h : P b) : ∃ k, V.bl b = V.bl k ∧ P k := ⟨b, rfl, h⟩
theorem rd_un {rr : V → Hp → VK → Prop} (h : ta σ H fun x H1 => rr x H1 Q) : tUn rr ta σ H Q := h
theorem rd_U {f : Int → V} {a : Int} (h : Q (f a) H) : rU f (.int a) H Q := ⟨a, rfl, h⟩
theorem rd_chain {r' : R2} {tc : TE} (h : ta σ H fun x H1 => tb σ H1 fun y H2 => r x y H2 fun z H3 => ∃ k, z = .bl k ∧ (if k = true then tc σ H3 fun w' H4 => r' y w' H4 Q else Q (.bl false) H3)) : tChain r r' ta tb tc σ H Q := h
/-- what a new list, a new tuple hands on -/
def LstK (Q : VK) : List V → Hp → Prop := fun xs H1 => xs.length ≤ sizeLine ∧ ∀ p, H1 p = none → Q (.ref p) (upd H1 p (.lst xs))
def TupK (Q : VK) : List V → Hp → Prop := fun xs H1 => xs.length ≤ sizeLine ∧ ∀ p, H1 p = none → Q (.ref p) (upd H1 p (.tup xs))
theorem rd_lst (h : tr σ H (LstK Q)) : tLst tr σ H Q := h
theorem rd_tup (h : tr σ H (TupK Q)) : tTup tr σ H Q := h
theorem rd_andV (h : ta σ H fun x H1 => ∃ c, x = .bl c ∧ if c = true then tb σ H1 Q else Q (.bl false) H1) : tAndV ta tb σ H Q := h
theorem rd_orV (h : ta σ H fun x H1 => ∃ c, x = .bl c ∧ if c = true then Q (.bl true) H1 else tb σ H1 Q) : tOrV ta tb σ H Q := h
theorem rd_notV (h : ta σ H fun x H1 => ∃ c, x = .bl c ∧ Q (.bl (!c)) H1) : tNotV ta σ H Q := h
theorem rd_sub {tt3 : V → V → V → Hp → (Hp → Prop) → Prop} {P : L2.St → Hp → Prop} (h : ta σ H fun o H1 => tb σ H1 fun i H2 => tt3 o i v H2 fun H3 => P σ H3) : gSub ta tb tt3 v σ H P := h
theorem rd_ite {c : Prop} [Decidable c] {A B : Prop} (h1 : c → A) (h2 : ¬ c → B) : if c then A else B := ite2 h1 h2
theorem rd_iteD {c : Prop} [Decidable c] {A B : Prop} (h1 : c → A) (h2 : ¬ c → B) : if decide c = true then A else B := by
  by_cases h : c
  · rw [if_pos (decide_eq_true h)]; exact h1 h
  · rw [if_neg (by simpa using h)]; exact h2 h
theorem rd_iteN {b : Bool} {A B : Prop} (h : if b = true then B else A) : if (!b) = true then A else B := by
  cases b with
  | true => exact iteF (by simpa using h)
  | false => exact iteT (by simpa using h)
theorem rd_iteND {c : Prop} [Decidable c] {A B : Prop} (h1 : c → B) (h2 : ¬ c → A) : if (!decide c) = true then A else B := rd_iteN (rd_iteD h1 h2)
theorem rd_ixL {xs : List V} {p : Addr} {k : Int} (h : SqL K H p xs) (ha : atI xs k = some v) (q : Q v H) : rIx K (.ref p) (.int k) H Q := .inl ⟨p, xs, k, v, rfl, rfl, h, ha, q⟩
theorem rd_ixL1 {xs : List V} {p : Addr} {k : Int} (h : SqL K H p xs) (ha : atI xs k = some v) (q : Q v H) : rIxL K (.ref p) (.int k) H Q := ⟨p, xs, k, v, rfl, rfl, h, ha, q⟩
theorem rd_ixT {xs : List V} {p : Addr} {k : Int} (h : SqT K H p xs) (ha : atI xs k = some v) (q : Q v H) : rIx K (.ref p) (.int k) H Q := .inr (.inl ⟨p, xs, k, v, rfl, rfl, h, ha, q⟩)
theorem rd_ixT1 {xs : List V} {p : Addr} {k : Int} (h : SqT K H p xs) (ha : atI xs k = some v) (q : Q v H) : rIxT K (.ref p) (.int k) H Q := ⟨p, xs, k, v, rfl, rfl, h, ha, q⟩
theorem rd_ixS {z : Str} {k : Int} {c : Nat} (h : z.length ≤ sizeLine) (ha : atI z.cps.toList k = some c) (q : Q (.str ⟨#[c]⟩) H) : rIx K (.str z) (.int k) H Q := .inr (.inr ⟨z, k, c, rfl, rfl, h, ha, q⟩)
theorem rd_ixS1 {z : Str} {k : Int} {c : Nat} (h : z.length ≤ sizeLine) (ha : atI z.cps.toList k = some c) (q : Q (.str ⟨#[c]⟩) H) : rIxS (.str z) (.int k) H Q := ⟨z, k, c, rfl, rfl, h, ha, q⟩
theorem rd_modA {i j : Int} (hj : 0 < j) (q : ∀ r, 0 ≤ r → r < j → Q (.int r) H) : rI (fun _ j => 0 < j) (fun i j => .int (i % j)) (.int i) (.int j) H Q :=
  ⟨i, j, rfl, rfl, hj, q _ (Int.emod_nonneg _ (by omega)) (Int.emod_lt_of_pos _ hj)⟩
theorem rd_setL {p : Addr} {xs : List V} {k : Int} {j : Nat} {P : Hp → Prop} (h : H p = some (.lst xs)) (hj : ixN xs.length k = some j) (q : P (upd H p (.lst (xs.set j v)))) : rSetL (.ref p) (.int k) v H P := ⟨p, xs, k, j, rfl, rfl, h, hj, q⟩
theorem rd_isi {t n : String} {b : Bool} (ty : TyX K H v (.type t)) (k : kitB t n = some b) (q : Q (.bl b) H) : rIsi K [v, .ty n] H Q := ⟨v, .ty n, _, _, b, rfl, ClsV.ty n, ty, kit_ty k, q⟩
theorem rd_lenS {z : Str} (h : z.length ≤ sizeLine) (q : Q (.int (z.length : Nat)) H) : rLenA K [.str z] H Q := ⟨_, _, rfl, ⟨h, rfl⟩, q⟩
theorem rd_lenL {p : Addr} {xs : List V} (h : SqL K H p xs) (q : Q (.int (xs.length : Nat)) H) : rLenA K [.ref p] H Q := ⟨_, _, rfl, .inl ⟨_, h, rfl⟩, q⟩
theorem rd_lenT {p : Addr} {xs : List V} (h : SqT K H p xs) (q : Q (.int (xs.length : Nat)) H) : rLenA K [.ref p] H Q := ⟨_, _, rfl, .inr ⟨_, h, rfl⟩, q⟩
theorem rd_inS {z : Str} {c : Nat} (q : Q (.bl (decide (c ∈ z.cps.toList))) H) : rInSg (.str ⟨#[c]⟩) (.str z) H Q := ⟨c, z, rfl, rfl, q⟩
theorem rd_notInS {z : Str} {c : Nat} (q : Q (.bl (!decide (c ∈ z.cps.toList))) H) : rNotInSg (.str ⟨#[c]⟩) (.str z) H Q := ⟨c, z, rfl, rfl, q⟩
theorem rd_max2 {a b : Int} (q : ∀ c : Int, (c = a ∧ b ≤ a ∨ c = b ∧ a < b) → Q (.int c) H) : rMax2 [.int a, .int b] H Q := ⟨a, b, rfl, q _ (by by_cases h : b > a <;> simp [h] <;> omega)⟩
theorem rd_min2 {a b : Int} (q : ∀ c : Int, (c = a ∧ a ≤ b ∨ c = b ∧ b < a) → Q (.int c) H) : rMin2 [.int a, .int b] H Q := ⟨a, b, rfl, q _ (by by_cases h : b < a <;> simp [h] <;> omega)⟩
theorem rd_find {a b : Str} (q : Q (.int (Txt.find a b)) H) : rFind (.str a) [.str b] H Q := ⟨a, b, rfl, rfl, q⟩
theorem rd_m1 {rr : V → List V → Hp → VK → Prop} (h : ta σ H fun x H1 => (∃ a, x = .str a) ∧ tb σ H1 fun y H2 => rr x [y] H2 Q) : tM1 rr ta tb σ H Q := h
theorem rd_exStr {a : Str} {B : Prop} (h : B) : (∃ b, V.str a = V.str b) ∧ B := ⟨⟨a, rfl⟩, h⟩
theorem small_sz {n : Nat} (h : n ≤ 100000) : n ≤ sizeLine := Nat.le_trans h (by decide)
/-- what a comprehension's turn hands on: the list at D has one more item -/
def LcK (n : Nat) (D : Addr) (Pv : Nat → List V → Hp → Prop) (i : Nat) : VK := fun y H4 => ∃ acc, H4 D = some (.lst acc) ∧ acc.length < sizeLine ∧ ∃ acc', acc'.length = i + 1 ∧ (upd H4 D (.lst (acc ++ [y]))) D = some (.lst acc') ∧ Pv (i + 1) acc' (upd H4 D (.lst (acc ++ [y])))
theorem lcK {n : Nat} {D : Addr} {Pv : Nat → List V → Hp → Prop} {i : Nat} {y : V} {H4 : Hp} {acc : List V} (h : H4 D = some (.lst acc)) (hl : acc.length = i) (hn : i < n) (hz : n ≤ 100000) (hp : Pv (i + 1) (acc ++ [y]) (upd H4 D (.lst (acc ++ [y])))) : LcK n D Pv i y H4 :=
  ⟨acc, h, Nat.lt_of_lt_of_le (show acc.length < 100000 by omega) (by decide), acc ++ [y], by rw [List.length_append, hl]; rfl, upd_same, hp⟩
theorem lc_yes {J : It} {n : Nat} {G : Hp → Prop} {Y : Nat → Hp → V → Hp → Prop} (w : Walk J n G Y) {te : TE} {vs : List Nat} {σ : L2.St} {H1 : Hp} {D : Addr} {Qd : Hp → Prop} (Pv : Nat → List V → Hp → Prop) (h0 : Pv 0 [] (upd H1 D (.lst [])))
    (hG : ∀ i acc H, i ≤ n → Pv i acc H → G H)
    (hs : ∀ i x acc H H', i < n → acc.length = i → H D = some (.lst acc) → Pv i acc H → Y i H x H' → g x (wipe σ vs) H' fun σ2 H2 => wipe σ2 vs = wipe σ vs ∧ te σ2 H2 (LcK n D Pv i))
    (hd : ∀ acc H, acc.length = n → H D = some (.lst acc) → Pv n acc H → Qd H) :
    ∃ W : Nat → Nat → Hp → Prop, (∃ m, W 0 m (upd H1 D (.lst []))) ∧ ∀ i m H, W i m H →
      (J.stop i H ∧ Qd H) ∨ (J.go i H ∧ ∃ Nx : Hp → Prop, (∀ H', Nx H' → ∃ m', m' < m ∧ W (i + 1) m' H') ∧ ∀ x H', J.yld i H x H' → g x (wipe σ vs) H' fun σ2 H2 => wipe σ2 vs = wipe σ vs ∧ tYes σ2 H2 fun b H3 =>
        if b = true then te σ2 H3 fun y H4 => ∃ acc, H4 D = some (.lst acc) ∧ acc.length < sizeLine ∧ Nx (upd H4 D (.lst (acc ++ [y]))) else Nx H3) :=
  lc_it w (fun i H => ∃ acc, acc.length = i ∧ H D = some (.lst acc) ∧ Pv i acc H) ⟨[], rfl, upd_same, h0⟩ (fun i H hi ⟨acc, _, _, p⟩ => hG i acc H hi p)
    (fun i x H H' hi ⟨acc, hl, hD, p⟩ y => hs i x acc H H' hi hl hD p y) (fun H ⟨acc, hl, hD, p⟩ => hd acc H hl hD p)
/-! what is walked, comprehensions, loops -/
def Rng1K (R : It → Hp → Prop) : List V → Hp → Prop := fun vs H1 => ∃ j : Int, vs = [.int j] ∧ -(2 ^ 62) ≤ j ∧ j < 2 ^ 62 ∧ R (Itr 0 j.toNat) H1
def Rng2K (R : It → Hp → Prop) : List V → Hp → Prop := fun vs H1 => ∃ i j : Int, vs = [.int i, .int j] ∧ (-(2 ^ 62) ≤ i ∧ i < 2 ^ 62 ∧ -(2 ^ 62) ≤ j ∧ j < 2 ^ 62) ∧ R (Itr i (j - i).toNat) H1
def LstIt (K : PySem.W.Frag) (R : It → Hp → Prop) : VK := fun x H1 => ∃ a, x = .ref a ∧ (∃ xs, SqL K H1 a xs) ∧ R (Itl K a) H1
def TupIt (K : PySem.W.Frag) (R : It → Hp → Prop) : VK := fun x H1 => ∃ a, x = .ref a ∧ (∃ xs, SqT K H1 a xs) ∧ R (Itt K a) H1
def StrIt (R : It → Hp → Prop) : VK := fun v H1 => ∃ x, v = .str x ∧ R (Its x) H1
theorem rd_iR1 {R : It → Hp → Prop} (h : tr σ H (Rng1K R)) : iRng1 tr σ H R := h
theorem rd_iR2 {R : It → Hp → Prop} (h : tr σ H (Rng2K R)) : iRng2 tr σ H R := h
theorem rd_iL {R : It → Hp → Prop} (h : te σ H (LstIt K R)) : iList K te σ H R := h
theorem rd_iT {R : It → Hp → Prop} (h : te σ H (TupIt K R)) : iTup K te σ H R := h
theorem rd_iS {R : It → Hp → Prop} (h : te σ H (StrIt R)) : iStr te σ H R := h
theorem rd_r1 {R : It → Hp → Prop} {j : Int} (h0 : -1000000 ≤ j) (h1 : j ≤ 1000000) (q : R (Itr 0 j.toNat) H) : Rng1K R [.int j] H := ⟨j, rfl, by omega, by omega, q⟩
theorem rd_r2 {R : It → Hp → Prop} {i j : Int} (h0 : -1000000000000 ≤ i ∧ i ≤ 1000000000000) (h1 : -1000000000000 ≤ j ∧ j ≤ 1000000000000) (q : R (Itr i (j - i).toNat) H) : Rng2K R [.int i, .int j] H := ⟨i, j, rfl, by omega, q⟩
theorem rd_il {R : It → Hp → Prop} {p : Addr} {xs : List V} (h : SqL K H p xs) (q : R (Itl K p) H) : LstIt K R (.ref p) H := ⟨p, rfl, ⟨xs, h⟩, q⟩
theorem rd_it {R : It → Hp → Prop} {p : Addr} {xs : List V} (h : SqT K H p xs) (q : R (Itt K p) H) : TupIt K R (.ref p) H := ⟨p, rfl, ⟨xs, h⟩, q⟩
theorem rd_is {R : It → Hp → Prop} {z : Str} (q : R (Its z) H) : StrIt R (.str z) H := ⟨z, rfl, q⟩
def LcGo (J : It) (g : TG) (tt : TT) (te : TE) (vs : List Nat) (σ : L2.St) (H1 : Hp) (Q : VK) : Prop := ∀ D, H1 D = none → ∃ W : Nat → Nat → Hp → Prop, (∃ m, W 0 m (upd H1 D (.lst []))) ∧ ∀ i m H, W i m H →
  (J.stop i H ∧ Q (.ref D) H) ∨ (J.go i H ∧ ∃ Nx : Hp → Prop, (∀ H', Nx H' → ∃ m', m' < m ∧ W (i + 1) m' H') ∧ ∀ x H', J.yld i H x H' → g x (wipe σ vs) H' fun σ2 H2 => wipe σ2 vs = wipe σ vs ∧ tt σ2 H2 fun b H3 =>
    if b = true then te σ2 H3 fun y H4 => ∃ acc, H4 D = some (.lst acc) ∧ acc.length < sizeLine ∧ Nx (upd H4 D (.lst (acc ++ [y]))) else Nx H3)
theorem rd_lc {wi : TI} {vs : List Nat} (h : wi σ H fun J H1 => LcGo J g tt te vs σ H1 Q) : tLc wi g tt te vs σ H Q := h
theorem lcgo {J : It} {n : Nat} {G : Hp → Prop} {Y : Nat → Hp → V → Hp → Prop} (w : Walk J n G Y) {vs : List Nat} {H1 : Hp} (Pv : Addr → Nat → List V → Hp → Prop) (h0 : ∀ D, H1 D = none → Pv D 0 [] (upd H1 D (.lst [])))
    (hG : ∀ D i acc H, H1 D = none → i ≤ n → Pv D i acc H → G H)
    (hs : ∀ D i x acc H H', H1 D = none → i < n → acc.length = i → H D = some (.lst acc) → Pv D i acc H → Y i H x H' → g x (wipe σ vs) H' fun σ2 H2 => wipe σ2 vs = wipe σ vs ∧ te σ2 H2 (LcK n D (Pv D) i))
    (hd : ∀ D acc H, H1 D = none → acc.length = n → H D = some (.lst acc) → Pv D n acc H → Q (.ref D) H) : LcGo J g tYes te vs σ H1 Q :=
  fun D hD => lc_yes w (Pv D) (h0 D hD) (fun i acc H a b => hG D i acc H hD a b) (fun i x acc H H' a b c d e => hs D i x acc H H' hD a b c d e) fun acc H a b c => hd D acc H hD a b c
def ForGo (J : It) (g : TG) (tb : TS) (D : Ends) (σ : L2.St) (H1 : Hp) : Prop := ∃ W : Nat → Nat → L2.St → Hp → Prop, (∃ m, W 0 m σ H1) ∧ ∀ i m σ H, W i m σ H →
  (J.stop i H ∧ D.nx σ H) ∨ (J.go i H ∧ ∃ N : L2.St → Hp → Prop, (∀ σ' H', N σ' H' → ∃ m', m' < m ∧ W (i + 1) m' σ' H') ∧ ∀ x H', J.yld i H x H' → g x σ H' fun σ2 H2 => tb { D with nx := N, ct := N, bk := D.nx } σ2 H2)
theorem rd_for {wi : TI} (h : wi σ H fun J H1 => ForGo J g t D σ H1) : tFor wi g t D σ H := h
theorem forgo {J : It} {n : Nat} {G : Hp → Prop} {Y : Nat → Hp → V → Hp → Prop} (w : Walk J n G Y) (Pv : Nat → L2.St → Hp → Prop) (h0 : Pv 0 σ H) (hG : ∀ i σ H, i ≤ n → Pv i σ H → G H)
    (hs : ∀ i x σ H H', i < n → Pv i σ H → Y i H x H' → g x σ H' fun σ2 H2 => t { D with nx := Pv (i + 1), ct := Pv (i + 1), bk := D.nx } σ2 H2) (hd : ∀ σ H, Pv n σ H → D.nx σ H) : ForGo J g t D σ H := for_it w Pv h0 hG hs hd
theorem rd_lstA {xs : List V} (hz : xs.length ≤ 100000) (q : ∀ p H', H p = none → Same H H' → H' p = some (.lst xs) → Q (.ref p) H') : LstK Q xs H :=
  ⟨Nat.le_trans hz (by decide), fun p hp => q p _ hp (fun b x e => by rw [upd_ne (ne_of_none e hp)]; exact e) upd_same⟩
theorem rd_tupA {xs : List V} (hz : xs.length ≤ 100000) (q : ∀ p H', H p = none → Same H H' → H' p = some (.tup xs) → Q (.ref p) H') : TupK Q xs H :=
  ⟨Nat.le_trans hz (by decide), fun p hp => q p _ hp (fun b x e => by rw [upd_ne (ne_of_none e hp)]; exact e) upd_same⟩
theorem len_le : ∀ {xs : List V} {n : Nat}, xs.length = n → n ≤ 100000 → xs.length ≤ 100000 := fun e h => e ▸ h
theorem rd_nx {a c d : L2.St → Hp → Prop} {b : VK} (h : a σ H) : Ends.nx ⟨a, b, c, d⟩ σ H := h
theorem rd_rt {a c d : L2.St → Hp → Prop} {b : VK} (h : b v H) : Ends.rt ⟨a, b, c, d⟩ v H := h
theorem rd_sl {rs : V → Option Int → Option Int → Hp → VK → Prop} {tl th : TO} (h : ta σ H fun x H1 => tl σ H1 fun lo H2 => th σ H2 fun hi H3 => rs x lo hi H3 Q) : tSl rs ta tl th σ H Q := h
theorem rd_nopart {P : Option Int → Hp → Prop} (h : P none H) : tNoPart σ H P := h
theorem rd_part {P : Option Int → Hp → Prop} (h : te σ H fun x H1 => ∃ i, x = .int i ∧ P (some i) H1) : tPart te σ H P := h
theorem rd_ex_int {P : Int → Prop} {b : Int} (h : P b) : ∃ k, V.int b = V.int k ∧ P k := ⟨b, rfl, h⟩
theorem rd_slS {z : Str} {lo hi : Option Int} (hz : z.length ≤ sizeLine) (h : Q (.str (cutS z lo hi)) H) : rSlS (.str z) lo hi H Q := ⟨z, rfl, hz, h⟩
theorem rd_addS {a b : Str} (hz : a.length + b.length ≤ 100000) (h : Q (.str (a ++ b)) H) : rAddSt (.str a) (.str b) H Q := ⟨a, b, rfl, rfl, Nat.le_trans hz (by decide), h⟩
theorem rd_repS {a : Str} {n : Int} (hm : MulOk a n) (h : Q (.str (Txt.mul a n)) H) : rRepS (.str a) (.int n) H Q := ⟨a, n, rfl, rfl, hm, h⟩
theorem rd_repr0 {t : Str} (h : shown0 v = some t) (q : Q (.str t) H) : rRepr0 [v] H Q := ⟨v, t, rfl, h, q⟩
def RevK (K : PySem.W.Frag) (Q : VK) : VK := fun x H1 => ∃ a xs, x = .ref a ∧ SqL K H1 a xs ∧ ∀ p, H1 p = none → Q (.ref p) (upd H1 p (.lst xs.reverse))
theorem rd_revL (h : te σ H (RevK K Q)) : tRevL K te σ H Q := h
theorem rd_revK {p : Addr} {xs : List V} (h : SqL K H p xs) (q : ∀ p H', H p = none → Same H H' → H' p = some (.lst xs.reverse) → Q (.ref p) H') : RevK K Q (.ref p) H :=
  ⟨p, xs, rfl, h, fun p hp => q p _ hp (fun b x e => by rw [upd_ne (ne_of_none e hp)]; exact e) upd_same⟩
theorem rd_cat {l b : Addr} {xs zs : List V} (h1 : H l = some (.lst xs)) (h2 : H b = some (.lst zs)) (hz : xs.length + zs.length ≤ 100000) (q : ∀ p H', H p = none → Same H H' → H' p = some (.lst (xs ++ zs)) → Q (.ref p) H') : rCat (.ref l) (.ref b) H Q :=
  ⟨l, b, xs, zs, rfl, rfl, h1, h2, Nat.le_trans hz (by decide), fun p hp => q p _ hp (fun b x e => by rw [upd_ne (ne_of_none e hp)]; exact e) upd_same⟩
theorem rd_catA {a b : Addr} {x y : V} {xs ys : List V} (h1 : SqT K H a (x :: xs)) (h2 : SqT K H b (y :: ys)) (hz : (x :: xs).length + (y :: ys).length ≤ 100000) (q : ∀ p H', H p = none → Same H H' → H' p = some (.tup ((x :: xs) ++ (y :: ys))) → Q (.ref p) H') : rCatA K (.ref a) (.ref b) H Q :=
  ⟨a, b, _, _, rfl, rfl, h1, h2, Nat.le_trans hz (by decide), (fun e => nomatch e), (fun _ e => nomatch e), fun _ _ p hp => q p _ hp (fun b x e => by rw [upd_ne (ne_of_none e hp)]; exact e) upd_same⟩
theorem cutV_whole {xs : List V} {lo hi : Option Int} (h : HT.sIx xs.length 0 lo = 0 ∧ HT.sIx xs.length xs.length hi = xs.length) : cutV xs lo hi = xs := by
  unfold cutV
  rw [h.1, h.2, List.drop_zero, Nat.sub_zero, List.take_length]
/-- a part of a tuple -/
theorem rd_slA {a : Addr} {xs : List V} {lo hi : Option Int} (h : H a = some (.tup xs)) (q : ∀ p H', Same H H' → H' p = some (.tup (cutV xs lo hi)) → Q (.ref p) H') : rSlA K (.ref a) lo hi H Q :=
  ⟨a, xs, rfl, .inl (.inl h), fun w => q a H (Same.refl H) (by rw [cutV_whole w]; exact h), fun _ p hp => q p _ (fun b x e => by rw [upd_ne (ne_of_none e hp)]; exact e) upd_same⟩
theorem rd_neD {x y : V} {d e : PyData} (hd : Dp K H x d) (he : Dp K H y e) (sd : SeqAt.shaped d = true) (se : SeqAt.shaped e = true) (q : Q (.bl (!PyData.eqv d e)) H) : rNeD K x y H Q := ⟨d, e, hd, he, sd, se, q⟩
theorem rd_eqD {x y : V} {d e : PyData} (hd : Dp K H x d) (he : Dp K H y e) (sd : SeqAt.shaped d = true) (se : SeqAt.shaped e = true) (q : Q (.bl (PyData.eqv d e)) H) : rEqD K x y H Q := ⟨d, e, hd, he, sd, se, q⟩
theorem rd_inT {x : V} {p : Addr} {xs : List V} (h : SqT K H p xs) (f1 : flatV x = true) (f2 : xs.all flatV = true) (q : Q (.bl (inV x xs)) H) : rIn K false x (.ref p) H Q := ⟨p, xs, rfl, .inr h, f1, f2, q⟩
theorem rd_inL {x : V} {p : Addr} {xs : List V} (h : SqL K H p xs) (f1 : flatV x = true) (f2 : xs.all flatV = true) (q : Q (.bl (inV x xs)) H) : rIn K false x (.ref p) H Q := ⟨p, xs, rfl, .inl h, f1, f2, q⟩
theorem rd_isBA {b : Bool} (q : Q (.bl (decide (v = .bl b))) H) : rIsBA v (.bl b) H Q := ⟨b, rfl, q⟩
theorem rd_gtup {n : Nat} {tt2 : List V → L2.St → Hp → (L2.St → Hp → Prop) → Prop} {P : L2.St → Hp → Prop} {p : Addr} {xs : List V} (h : SqT K H p xs) (hl : xs.length = n) (q : tt2 xs σ H P) : gTup K n tt2 (.ref p) σ H P := ⟨p, xs, rfl, h, hl, q⟩
theorem rd_glst {n : Nat} {tt2 : List V → L2.St → Hp → (L2.St → Hp → Prop) → Prop} {P : L2.St → Hp → Prop} {p : Addr} {xs : List V} (h : SqL K H p xs) (hl : xs.length = n) (q : tt2 xs σ H P) : gLst K n tt2 (.ref p) σ H P := ⟨p, xs, rfl, h, hl, q⟩
theorem rd_intB {b : Bool} (q : ∀ i : Int, 0 ≤ i → i < 2 → Q (.int i) H) : rInt1 [.bl b] H Q := .inr ⟨b, rfl, q _ (by cases b <;> decide) (by cases b <;> decide)⟩
theorem rd_gcons {tt2 : List V → L2.St → Hp → (L2.St → Hp → Prop) → Prop} {P : L2.St → Hp → Prop} {xs : List V} (h : g v σ H fun σ' H' => tt2 xs σ' H' P) : gCons g tt2 (v :: xs) σ H P := ⟨v, xs, rfl, h⟩
theorem rd_gnil {P : L2.St → Hp → Prop} (h : P σ H) : gNil [] σ H P := ⟨rfl, h⟩
/-- xs.append(e) -/
theorem rd_bm {T : String} {rr : V → List V → Hp → VK → Prop} (h : te σ H fun x H1 => tyV K T x H1 ∧ tr σ H1 fun xs H2 => rr x xs H2 Q) : tBM K T rr te tr σ H Q := h
theorem rd_tyL {p : Addr} {xs : List V} {B : Prop} (h : SqL K H p xs) (q : B) : tyV K "list" (.ref p) H ∧ B := ⟨.inl ⟨rfl, xs, h⟩, q⟩
theorem rd_append {l : Addr} {xs : List V} {y : V} (h : H l = some (.lst xs)) (hz : xs.length < 100000) (q : Q .non (upd H l (.lst (xs ++ [y])))) : rAppend (.ref l) [y] H Q := ⟨l, xs, y, rfl, rfl, h, Nat.lt_of_lt_of_le hz (by decide), q⟩
theorem rd_frm {D : Addr} {xs : List V} (h : H D = some (.lst xs)) (q : te σ (Wo D H) fun v H' => H' D = none → Q v (upd H' D (.lst xs))) : tFrm te σ H Q := ⟨D, xs, h, q⟩
theorem join_len {ys : List Str} (h : ∀ y ∈ ys, y.length = 1) : (Txt.join (Str.ofString "") ys).length ≤ ys.length ∧ (ys.map (·.length)).sum = ys.length := by
  have e : (ys.map (·.length)).sum = ys.length := by
    induction ys with
    | nil => rfl
    | cons a r ih =>
      rw [List.map_cons, List.sum_cons, ih fun y hy => h y (List.mem_cons_of_mem _ hy), h a List.mem_cons_self, List.length_cons]
      omega
  refine ⟨?_, e⟩
  have := size_glued (Str.ofString "") ys
  have e0 : (Str.ofString "").length = 0 := by decide +kernel
  rw [e0, Nat.mul_zero, Nat.add_zero, e] at this
  exact Nat.le_of_eq this
/-- "".join of signs -/
theorem rd_join1 {p : Addr} {ys : List Str} (h : SqL K H p (ys.map V.str)) (h1 : ∀ y ∈ ys, y.length = 1) (hl : ys.length ≤ 100000) (q : ∀ z : Str, z = Txt.join (Str.ofString "") ys → z.length ≤ ys.length → Q (.str z) H) : rJoin K (.str (Str.ofString "")) [.ref p] H Q := by
  obtain ⟨j1, j2⟩ := join_len h1
  have e0 : (Str.ofString "").length = 0 := by decide +kernel
  refine ⟨_, p, ys, rfl, rfl, .inl h, ?_, q _ rfl j1⟩
  rw [j2, e0]
  omega
theorem rd_disp1 {tk tv : TE} {kx : Key} {y : V} (hk : ∀ H' (P : VK), P (kV kx) H' → tk σ H' P) (hv : ∀ H' (P : VK), P y H' → tv σ H' P) (q : ∀ p H', H p = none → Same H H' → H' p = some (.dK [(kx, y)]) → Q (.ref p) H') : tDisp [(tk, tv)] σ H Q := by
  intro p hp
  refine hk _ _ (hv _ _ ⟨upd_same, [(kx, y)], rfl, (show 1 ≤ 15 by decide), ?_⟩)
  rw [upd_upd]
  exact q p _ hp (fun b x e => by rw [upd_ne (ne_of_none e hp)]; exact e) upd_same
theorem rd_dnew (q : ∀ p H', H p = none → Same H H' → H' p = some (.dK []) → Q (.ref p) H') : tDNewK σ H Q :=
  fun p hp => q p _ hp (fun b x e => by rw [upd_ne (ne_of_none e hp)]; exact e) upd_same
theorem atI_mem {xs : List V} {k : Int} (h0 : 0 ≤ k) (h1 : k < (xs.length : Int)) : ∃ v, v ∈ xs ∧ atI xs k = some v := by
  obtain ⟨j, rfl⟩ : ∃ j : Nat, k = (j : Int) := ⟨k.toNat, by omega⟩
  have hj : j < xs.length := by omega
  exact ⟨xs[j], List.getElem_mem hj, atI_nat (List.getElem?_eq_getElem hj)⟩
theorem rd_ixAny1 {xs : List V} {p : Addr} {k : Int} (h : SqL K H p xs) (h0 : 0 ≤ k) (h1 : k < (xs.length : Int)) (q : ∀ v, v ∈ xs → Q v H) : rIxL K (.ref p) (.int k) H Q := by
  obtain ⟨v, hv, ha⟩ := atI_mem h0 h1
  exact ⟨p, xs, k, v, rfl, rfl, h, ha, q v hv⟩
theorem rd_ixAny {xs : List V} {p : Addr} {k : Int} (h : SqL K H p xs) (h0 : 0 ≤ k) (h1 : k < (xs.length : Int)) (q : ∀ v, v ∈ xs → Q v H) : rIx K (.ref p) (.int k) H Q := .inl (rd_ixAny1 h h0 h1 q)
theorem rd_ixSany {z : Str} {k : Int} (hz : z.length ≤ 100000) (h0 : 0 ≤ k) (h1 : k < (z.length : Int)) (q : ∀ c, c ∈ z.cps.toList → Q (.str ⟨#[c]⟩) H) : rIxS (.str z) (.int k) H Q := by
  obtain ⟨j, rfl⟩ : ∃ j : Nat, k = (j : Int) := ⟨k.toNat, by omega⟩
  have hl : z.length = z.cps.toList.length := by simp [Str.length]
  have hj : j < z.cps.toList.length := by omega
  exact ⟨z, _, z.cps.toList[j], rfl, rfl, Nat.le_trans hz (by decide), atI_nat (List.getElem?_eq_getElem hj), q _ (List.getElem_mem hj)⟩
/-- a comprehension whose list is set aside while an element is evaluated -/
theorem lcgoF {J : It} {n k : Nat} {G : Hp → Prop} {Y : Nat → Hp → V → Hp → Prop} {te : TE} {vs : List Nat} {H1 : Hp} (w : Walk J n G Y) (hz : n ≤ 100000) (Yx : Nat → V → Prop) (hY : ∀ i H x H', i < n → G H → Y i H x H' → H' = H ∧ Yx i x)
    (hw : ∀ x, wipe ((wipe σ vs).set k (some x)) vs = wipe σ vs) (Pv : Nat → List V → Hp → Prop) (h0 : Pv 0 [] H1) (hG : ∀ i acc H D, i ≤ n → Pv i acc H → H D = none → G (upd H D (.lst acc)))
    (hs : ∀ i x acc H (Qc : VK), i < n → acc.length = i → Pv i acc H → Yx i x → (∀ y H', Pv (i + 1) (acc ++ [y]) H' → Qc y H') → te ((wipe σ vs).set k (some x)) H Qc)
    (hd : ∀ acc H D, acc.length = n → Pv n acc H → H D = none → Q (.ref D) (upd H D (.lst acc))) : LcGo J (gName k) tYes (tFrm te) vs σ H1 Q := by
  refine fun D hD => lc_yes w (fun i acc H => ∃ H0, H = upd H0 D (.lst acc) ∧ H0 D = none ∧ Pv i acc H0) ⟨H1, rfl, hD, h0⟩ (fun i acc H hi ⟨H0, e, hn, p⟩ => e ▸ hG i acc H0 D hi p hn) ?_ ?_
  · rintro i x acc H H' hi hla hDa ⟨H0, rfl, hn, p⟩ y
    obtain ⟨rfl, yx⟩ := hY i _ x H' hi (hG i acc H0 D (Nat.le_of_lt hi) p hn) y
    refine ⟨hw _, D, acc, upd_same, ?_⟩
    rw [wo_upd hn]
    exact hs i x acc H0 _ hi hla p yx fun y H' p' hD' => lcK (acc := acc) upd_same hla hi hz ⟨H', by rw [upd_upd], hD', p'⟩
  · rintro acc H hla hDa ⟨H0, rfl, hn, p⟩
    exact hd acc H0 D hla p hn
theorem walkR_Y {lo : Int} {i : Nat} {H : Hp} {x : V} {H' : Hp} (h : YFn (fun i => .int (lo + (i : Nat))) i H x H') : H' = H ∧ x = .int (lo + (i : Nat)) := h
/-- a comprehension over the signs of a text, its element a function of the sign -/
theorem lcgo_str {te : TE} {vs : List Nat} {k : Nat} {f : Nat → V} {z : Str} (hz : z.length ≤ 100000) (hw : ∀ x, wipe ((wipe σ vs).set k (some x)) vs = wipe σ vs)
    (he : ∀ (c : Nat) (H' : Hp) (Q' : VK), c ∈ z.cps.toList → Q' (f c) H' → te ((wipe σ vs).set k (some (.str ⟨#[c]⟩))) H' Q')
    (hq : ∀ D, H D = none → Q (.ref D) (upd H D (.lst (z.cps.toList.map f)))) : LcGo (Its z) (gName k) tYes (tFrm te) vs σ H Q := by
  have hl : z.cps.size = z.cps.toList.length := by simp
  refine lcgoF walk_str hz (fun i x => ∃ c, z.cps.toList[i]? = some c ∧ x = .str ⟨#[c]⟩) (fun i H x H' _ _ ⟨e, c, hc, hx⟩ => ⟨e, c, by simpa using hc, hx⟩) hw (fun i acc H' => H' = H ∧ acc = (z.cps.toList.take i).map f) ⟨rfl, rfl⟩ (fun _ _ _ _ _ _ _ => trivial) ?_ ?_
  · rintro i x acc H' Qc hin hla ⟨rfl, ha⟩ ⟨c, hc, rfl⟩ hq'
    refine he c _ _ (List.mem_of_getElem? hc) (hq' _ _ ⟨rfl, ?_⟩)
    rw [List.take_add_one, hc, List.map_append, ← ha]
    rfl
  · rintro acc H' D hla ⟨rfl, ha⟩ hD
    have e : z.cps.toList.take z.cps.size = z.cps.toList := List.take_of_length_le (by rw [← hl]; exact Nat.le_refl _)
    rw [e] at ha
    subst ha
    exact hq D hD
theorem rd_all {p : Addr} {bs : List Bool} (h : SqL K H p (bs.map V.bl)) (q : Q (.bl (bs.all id)) H) : rAll K [.ref p] H Q := ⟨p, bs, rfl, h, q⟩
theorem rd_intStr {z : Str} {n : Int} (h : PySem.intText? z = some n) (hz : z.length ≤ 640) (q : Q (.int n) H) : rIntS [.str z] H Q := ⟨z, n, rfl, h, hz, q⟩
theorem rd_strI {i : Int} (h : i.natAbs.log2 < 1920) (q : Q (.str (toString i)) H) : rStrI [.int i] H Q := ⟨i, rfl, h, q⟩
theorem atI0 {α : Type} {a : α} {l : List α} : atI (a :: l) (0 : Int) = some a := atI_nat (j := 0) rfl
theorem atI1 {α : Type} {a b : α} {l : List α} : atI (a :: b :: l) (1 : Int) = some b := atI_nat (j := 1) rfl
theorem atI2 {α : Type} {a b c : α} {l : List α} : atI (a :: b :: c :: l) (2 : Int) = some c := atI_nat (j := 2) rfl
theorem atI3 {α : Type} {a b c d : α} {l : List α} : atI (a :: b :: c :: d :: l) (3 : Int) = some d := atI_nat (j := 3) rfl
theorem atI4 {α : Type} {a b c d e : α} {l : List α} : atI (a :: b :: c :: d :: e :: l) (4 : Int) = some e := atI_nat (j := 4) rfl
theorem atI5 {α : Type} {a b c d e f : α} {l : List α} : atI (a :: b :: c :: d :: e :: f :: l) (5 : Int) = some f := atI_nat (j := 5) rfl
theorem atI6 {α : Type} {a b c d e f g : α} {l : List α} : atI (a :: b :: c :: d :: e :: f :: g :: l) (6 : Int) = some g := atI_nat (j := 6) rfl
theorem atI7 {α : Type} {a b c d e f g h : α} {l : List α} : atI (a :: b :: c :: d :: e :: f :: g :: h :: l) (7 : Int) = some h := atI_nat (j := 7) rfl
theorem sqL_of {K : PySem.W.Frag} {H : Hp} {p : Addr} {xs : List V} (h : H p = some (.lst xs)) : SqL K H p xs := .inl (.inl h)
theorem sqT_of {K : PySem.W.Frag} {H : Hp} {p : Addr} {xs : List V} (h : H p = some (.tup xs)) : SqT K H p xs := .inl (.inl h)
end
end My
local macro_rules | `(tactic| walk_at "sql") => `(tactic| first | assumption | exact My.sqL_of L2.upd_same | (refine My.sqL_of ?_; assumption))
local macro_rules | `(tactic| walk_at "sz") => `(tactic| first | assumption | exact My.small_sz (by omega) | exact My.small_sz (by decide +kernel))
local macro_rules | `(tactic| walk_at "sqt") => `(tactic| first | assumption | exact My.sqT_of L2.upd_same | (refine My.sqT_of ?_; assumption))
local macro_rules | `(tactic| walk_at "ati") => `(tactic| first | with_reducible exact My.atI0 | with_reducible exact My.atI1 | with_reducible exact My.atI2 | with_reducible exact My.atI3 | with_reducible exact My.atI4 | with_reducible exact My.atI5 | with_reducible exact My.atI6 | with_reducible exact My.atI7)
local macro_rules | `(tactic| walk_at "ri") => `(tactic| first | exact ⟨by decide, by decide, by decide⟩ | exact ⟨by decide, by decide +kernel⟩ | exact .inl ⟨by decide, by decide⟩ | exact .inr ⟨by decide, by decide⟩)
local macro_rules | `(tactic| walk_at "rd1") => `(tactic| first
  | (with_reducible refine My.rd_seq ?_)
  | (with_reducible refine My.rd_asg ?_)
  | ((with_reducible refine My.rd_var (v := ?vv) ?hvar ?_); (case hvar => exact rfl))
  | (with_reducible refine My.rd_c ?_)
  | (with_reducible refine My.rd_op ?_)
  | (with_reducible refine My.rd_I0 ?_)
  | ((with_reducible refine My.rd_I ?hri ?_); (case hri => walk_at "ri"))
  | (with_reducible refine My.rd_name ?_)
  | (with_reducible refine My.rd_next ?_)
  | (with_reducible refine My.rd_ret ?_)
  | (with_reducible refine My.rd_retN ?_)
  | (with_reducible refine My.rd_drop ?_)
  | (with_reducible refine My.rd_ifS ?_)
  | (with_reducible refine My.rd_if ?_)
  | (with_reducible refine My.rd_test ?_)
  | (with_reducible refine My.rd_B ?_)
  | (with_reducible refine My.rd_not ?_)
  | (with_reducible refine My.rd_and ?_)
  | (with_reducible refine My.rd_or ?_)
  | (with_reducible refine My.rd_nil ?_)
  | (with_reducible refine My.rd_cons ?_)
  | (with_reducible refine My.rd_cb ?_)
  | (with_reducible refine My.rd_call ?_)
  | (with_reducible refine My.rd_ex_bl ?_)
  | (with_reducible refine L2.iteT ?_)
  | (with_reducible refine L2.iteF ?_)
  | (with_reducible refine My.rd_iteN ?_)
  | (with_reducible refine My.rd_inS ?_)
  | (with_reducible refine My.rd_notInS ?_)
  | (with_reducible refine My.rd_find ?_)
  | (with_reducible refine My.rd_gcons ?_)
  | (with_reducible refine My.rd_gnil ?_)
  | (with_reducible refine My.rd_bm ?_)
  | (with_reducible refine My.rd_isBA ?_)
  | (with_reducible refine My.rd_m1 ?_)
  | (with_reducible refine My.rd_exStr ?_)
  | ((with_reducible refine My.rd_lenS ?hsz ?_); (case hsz => walk_at "sz"))
  | ((with_reducible refine My.rd_lenL (xs := ?xx) ?hsql ?_); (case hsql => walk_at "sql"))
  | ((with_reducible refine My.rd_lenT (xs := ?xx) ?hsql ?_); (case hsql => walk_at "sqt"))
  | (with_reducible refine My.rd_nx ?_)
  | (with_reducible refine My.rd_rt ?_)
  | (with_reducible refine My.rd_lc ?_)
  | (with_reducible refine My.rd_for ?_)
  | (with_reducible refine My.rd_iR1 ?_)
  | (with_reducible refine My.rd_iR2 ?_)
  | (with_reducible refine My.rd_iL ?_)
  | (with_reducible refine My.rd_iT ?_)
  | (with_reducible refine My.rd_iS ?_)
  | (with_reducible refine My.rd_is ?_)
  | (with_reducible refine My.rd_sl ?_)
  | (with_reducible refine My.rd_revL ?_)
  | (with_reducible refine My.rd_nopart ?_)
  | (with_reducible refine My.rd_part ?_)
  | (with_reducible refine My.rd_ex_int ?_)
  | ((with_reducible refine My.rd_slS ?hsz ?_); (case hsz => walk_at "sz"))
  | (with_reducible refine My.rd_un ?_)
  | (with_reducible refine My.rd_U ?_)
  | (with_reducible refine My.rd_chain ?_)
  | (with_reducible refine My.rd_lst ?_)
  | (with_reducible refine My.rd_tup ?_)
  | (with_reducible refine My.rd_andV ?_)
  | (with_reducible refine My.rd_orV ?_)
  | (with_reducible refine My.rd_notV ?_)
  | (with_reducible refine My.rd_sub ?_)
  | ((with_reducible refine My.rd_ixL (v := ?vv) (xs := ?xx) ?hsql ?hati ?_); (case hsql => walk_at "sql"); (case hati => walk_at "ati"))
  | ((with_reducible refine My.rd_ixL1 (v := ?vv) (xs := ?xx) ?hsql ?hati ?_); (case hsql => walk_at "sql"); (case hati => walk_at "ati"))
  | ((with_reducible refine My.rd_ixT (v := ?vv) (xs := ?xx) ?hsql ?hati ?_); (case hsql => walk_at "sqt"); (case hati => walk_at "ati"))
  | ((with_reducible refine My.rd_ixT1 (v := ?vv) (xs := ?xx) ?hsql ?hati ?_); (case hsql => walk_at "sqt"); (case hati => walk_at "ati"))
  | ((with_reducible refine My.rd_eq ?hscal ?_); (case hscal => rfl))
  | ((with_reducible refine My.rd_ne ?hscal ?_); (case hscal => rfl)))
local macro_rules | `(tactic| walk_at "rd") => `(tactic| (repeat' walk_at "rd1"))

/-! ### P0G: defs that are called where no repr is under way (so that repr of lists, tuples, dicts is told), and the law's end for such a def -/
namespace My
open PySem PySem.Spec PyProof.Rows L2
/-- as FnOk, where the guards around are known to be none; no exception leaves the def -/
structure FnOkG (P : Program) (w : World) (K : PySem.W.Frag) (mg : Str → Option Value) (base : Heap) (k : Nat) (f : Addr) (fd : FuncData) (ps : List Str) (sp : Sp) : Prop where
  len : ∀ vs H Q E, sp vs H Q E → vs.length = ps.length
  run : ∀ (A : Around) (outer : List Env) (s : Shared) (H : Hp) (args : Args) (us : List Value) (vs : List V) (Q : VK) (E : XK), A.guards = some [] → Room k A → Env0 P w K mg base A outer s H →
    BindsTo s fd args (ps.zip us) → Vals vs us → sp vs H Q E → codeAny (model P w) A (.call (.ref f) args) (CR CX0 outer P w H s Q E) s
section
variable {P : Program} {w : World} {K : PySem.W.Frag} {mg : Str → Option Value} {base : Heap}
theorem okG {x qual : Str} {st : Stmt} {f : Addr} {fd : FuncData} {N ps : List Str} {k : Nat} {sp : Sp} (F : Fun K x qual st f fd) (S : FnScope N ps (defScope st)) (len : ∀ vs H Q E, sp vs H Q E → vs.length = ps.length)
    (hbody : ∀ (cdv : Value) (A : Around) (outer : List Env) (s : Shared) (H : Hp) (vs : List V) (Q : VK) (E : XK), A.guards = some [] → Room k (A.deeper (envOfC qual (defScope st) s.heap.objs.size f cdv)) → sp vs H Q E →
      ∃ t, PSs (cxOf CX0 P w K mg base N qual (defScope st) f cdv A outer s H E).nox (defBody st) t ∧ t { nx := fun _ H' => Q .non H', rt := Q } (L2.start N vs) H) : FnOkG P w K mg base (k + 1) f fd ps sp := by
  obtain ⟨oc, od, kV, doc, pm, an, cdv, ct, osl, rfl, lk, hcd⟩ := F.ex
  constructor
  · exact len
  intro A outer s H args us vs Q E hguard hroom env bind rel hsp
  have inK : K.In s.heap := env.mod.kin.keeps fun b o e => And.left (env.bs b o e)
  have nolim : s.heap.NoLimit := env.mod.nolimit.keeps fun b o e => And.left (env.bs b o e)
  have kinds : ∀ y ∈ ps.zip us, (defScope st).names.lookup y.1 = some .local ∨ ((defScope st).names.lookup y.1 = some .cell ∧ ((cellsFrom (s.heap.objs.size + 1) (defScope st).names []).lookup y.1).isSome = true) := by
    rintro ⟨n, v⟩ hy
    have hn : n ∈ ps := And.left (List.of_mem_zip hy)
    exact (S.par n hn).imp id fun q => ⟨q, PySem.W.cellsFrom_some _ _ _ (.inl q)⟩
  have cr := PySem.W.codeRec_of inK hcd
  refine codeAny_call_function (Room.depth hroom) (inK _ _ lk) rfl S.co S.gen rfl cr (bind _ _ _ _ ?enter)
  case enter =>
    refine wpAny_newFunctionEnv_cells S.kind kinds ?_
    rintro env' rfl s1 made
    refine ⟨Heap.NoLimit.keeps nolim made.toInCall.keep, ?_⟩
    refine codeAny_func ?_
    obtain ⟨t, drv, rd⟩ := hbody cdv A outer s H vs Q E hguard (Room.deeper hroom _) hsp
    have I0 := inv_start (CX := CX0) (cd := cdv) (A := A) (E := E) S hroom.hd env (len _ _ _ _ hsp) rel made
    refine wpAny_mono (drv.nox.run [] s1 (L2.start N vs) H _ I0 rd) ?_ fun e s' q => q
    intro fl s' q
    cases fl with
    | next =>
      obtain ⟨σ', H', J, z⟩ := q
      exact ⟨V.non, H', J.os, J.bare, J.base, J.hok, rfl, z⟩
    | ret u =>
      obtain ⟨v, σ', H', J, rv, z⟩ := q
      exact ⟨v, H', J.os, J.bare, J.base, J.hok, rv, z⟩
    | brk => exact q.elim fun _ q => q.elim fun _ q => False.elim q.2
    | cont => exact q.elim fun _ q => q.elim fun _ q => False.elim q.2
/-- f(e, ..), f such a def -/
theorem pe_callG {X : Cx} {k : Nat} {f : Addr} {fd : FuncData} {ps : List Str} {sp : Sp} {x : Str} {p pos : Pos} {e : Expr} {es : List Expr} {t : TA} (hG : X.A.guards = some []) (F : FnOkG X.prog X.w X.K X.mg X.base k f fd ps sp) (hr : Room k X.A) (hg : Gl X x)
    (hm : X.mg x = some (.ref f)) (hk : PySem.W.keepIn X.K (.ref f) = true) (hb : Binds X.K fd ps []) (ha : PA X (e :: es) t) (hdb : (x == ("__debug__" : Str)) = false := by decide)
    (he : starEach (e :: es) X.env = (false, eval e X.env) :: starEach es X.env := by rfl) (hpl : (backTo pos (starEach es X.env)).any (·.1) = false := by rfl) : PE X (.Call (.Name x p) (e :: es) [] pos) (tCall sp [] E0 t) := by
  constructor
  intro pins s σ H Q I h
  refine wpAny_Call_Name_kw (ld_glob I hg hm ?go hdb)
  case go =>
    have args := ha.run pos pins s σ H _ I h
    refine PySem.W.callWith_K (h₀ := X.base) I.ok.mod.kin hk (thn args ?then_) he hpl
    rintro us s1 ⟨vs, H1, I1, rel, q⟩
    have q : sp vs H1 Q E0 := by rw [List.append_nil] at q; exact q
    have hl : us.length = ps.length := rel.length.symm.trans (F.len _ _ _ _ q)
    have bind := hb s1 us I1.kIn (by rw [List.append_nil]; exact hl)
    rw [List.append_nil] at bind
    refine ⟨I1.kIn, wpAny_call (codeAny_mono (F.run X.A X.stack s1 H1 ⟨us, []⟩ us vs Q E0 hG hr I1.env0 bind rel q) ?_)⟩
    intro r s2 hq
    match r, hq with
    | .error _, hq => exact False.elim hq
    | .ok (.ret u), hq => exact I1.after hq
    | .ok .next, hq => exact False.elim hq
    | .ok .brk, hq => exact False.elim hq
    | .ok .cont, hq => exact False.elim hq
/-- the script's list in the abstract heap: tracked as it stands, or an object of the written part -/
theorem script_heap {s : Shared} {a : Addr} {vs : List Value} {ns : List Int} (KX : K.In s.heap) (ha : s.heap.get? a = some { cls := .type "list", data := .seq vs.toArray }) (hi : IntsAre vs ns) (hl : ns.length ≤ sizeLine) :
    ∃ H : Hp, Only H ∧ SqL K H a (ns.map V.int) ∧ HOk P w H s.heap ∧ ∀ b u, H b = some u → b = a ∧ K.lookup a = none := by
  have rv := vals_ints hi
  cases hk : K.lookup a with
  | some o =>
    have e := KX a o hk
    rw [ha] at e
    cases e
    have no : ∀ (b : Addr) (u : HO), ¬ (fun _ => none : Hp) b = some u := fun b u z => by
      have z' : (none : Option HO) = some u := z
      cases z'
    refine ⟨fun _ => none, fun _ => .inl rfl, ?_, fun b u z => (no b u z).elim, fun b u z => (no b u z).elim⟩
    exact .inr ⟨_, vs.toArray, _, hk, rfl, rfl, rfl, by rw [List.size_toArray, hi.length]; exact hl, by simpa using rv⟩
  | none =>
    refine ⟨fun b => if b = a then some (.frz { cls := .type "list", data := .seq vs.toArray } (.lst (ns.map V.int))) else none, ?_, .inl (.inr ⟨_, if_pos rfl⟩), ?_, ?_⟩
    · intro b
      by_cases e : b = a
      · exact .inr ⟨_, _, if_pos e⟩
      · exact .inl (if_neg e)
    · intro b u z
      by_cases e : b = a
      · subst e
        cases (if_pos rfl).symm.trans z
        refine ⟨ha, ?_, vs, _, rv, ha⟩
        rw [List.length_map]
        exact hl
      · cases (if_neg e).symm.trans z
    · intro b u z
      by_cases e : b = a
      · exact ⟨e, rfl⟩
      · cases (if_neg e).symm.trans z
/-- the law's def, called at the heap behind the top -/
theorem law_callG {mb : Str → Option Value} {k : Nat} {fa a : Addr} {fd : FuncData} {x : Str} {sp : Sp} {s : Shared} {vs : List Value} {ns : List Int} (KX : K.In s.heap) (hns : s.heap.Ns mainGlobals mg) (hb : s.heap.Ns builtinsNs mb)
    (hbb : ∀ x : Str, x ≠ "__name__" → mb x = bootBuiltins x) (hlim : s.heap.NoLimit) (hg : s.gens = #[]) (ha : s.heap.get? a = some { cls := .type "list", data := .seq vs.toArray }) (hi : IntsAre vs ns) (hl : ns.length ≤ sizeLine) (hr : Room k callerA)
    (F : ∀ base : Heap, K.In base → base.Ns mainGlobals mg → FnOkG P w K mg base k fa fd [x] sp) (hbind : ∀ (s : Shared) (u : Value), BindsTo s fd ⟨[u], []⟩ [(x, u)])
    (hsp : ∀ H : Hp, Only H → SqL K H a (ns.map V.int) → sp [.ref a] H (fun v _ => v = .bl true) fun _ _ _ => False) :
    codeAny (model P w) callerA (.call (.ref fa) ⟨[.ref a], []⟩) (fun r s' => r = .ok (.ret (.bool true)) ∧ OldK s.heap s'.heap ∧ s'.os = s.os ∧ AllBare s'.gens) s := by
  obtain ⟨H, only, seq, hok, at_⟩ := script_heap (P := P) (w := w) KX ha hi hl
  have hid : ∀ {b : Addr} {o : Obj}, s.heap.get? b = some o → (∀ u, H b ≠ some u) → (hidT s.heap H).get? b = some o := fun {b o} e n => hidT_get e (by
    cases q : H b with
    | none => rfl
    | some u => exact (n u q).elim)
  have nodict : ∀ {b : Addr} {o : Obj} {es : Array DictEntry} {ep : Nat}, s.heap.get? b = some o → o.data = .dict es ep → ∀ u, H b ≠ some u := fun {b o es ep} e d u q => by
    have eb := (at_ b u q).1
    subst eb
    rw [ha] at e
    cases e
    cases (show Data.seq vs.toArray _ = Data.dict es ep from d)
  have names : ∀ {b : Addr} {m : Str → Option Value}, s.heap.Ns b m → (hidT s.heap H).Ns b m := by
    rintro b m ⟨o, es, ep, e, d, r⟩
    exact ⟨o, es, ep, hid e (nodict e d), d, r⟩
  have inK : K.In (hidT s.heap H) := by
    intro b o e
    refine hid (KX b o e) fun u q => ?_
    obtain ⟨eb, ek⟩ := at_ b u q
    rw [← eb, e] at ek
    cases ek
  have md : Mod K mg (hidT s.heap H) := by
    obtain ⟨mc, h1, h2⟩ := hlim
    exact ⟨inK, names hns, ⟨mb, names hb, hbb⟩, mc, names h1, h2⟩
  have env : Env0 P w K mg (hidT s.heap H) callerA [] s H := by
    refine ⟨rfl, md, ?_, Nat.le_of_eq (hidT_size _ _), trivial, fun b hb => absurd hb (List.not_mem_nil (a := b)), hok, .of_eq hg⟩
    exact fun b o e => of_hidT e
  have run := (F _ inK (names hns)).run callerA [] s H ⟨[.ref a], []⟩ [.ref a] [.ref a] _ _ rfl hr env (hbind s (.ref a)) (.cons rfl .nil) (hsp H only seq)
  refine codeAny_mono run ?_
  intro r s' h
  match r, h with
  | .error _, h => exact False.elim h
  | .ok .next, h => exact False.elim h
  | .ok .brk, h => exact False.elim h
  | .ok .cont, h => exact False.elim h
  | .ok (.ret u), h =>
    obtain ⟨v, H', os, bare, un, hok', rel, rfl⟩ := h
    cases (show u = Value.bool true from rel)
    refine ⟨rfl, OldK.of_keep ?_, os, bare⟩
    intro b o e
    cases q : H b with
    | none => exact un.keep b o e q (List.not_mem_nil (a := b)) (List.not_mem_nil (a := b))
    | some u =>
      rcases only b with z | ⟨ob, xs, z⟩
      · rw [q] at z
        cases z
      · have g1 := (hok b _ z).1
        have g2 := (hok' b _ (un.frzs b ob _ z)).1
        rw [g1] at e
        cases e
        exact g2
end
theorem walk_ofG {l : PySem.W.OpenLaw} {n k : Nat} {q : Program} {loose : List Str} {XP : (Str → Option Value) → Heap → Prop} {YP : World → Heap → Prop} {d : DefRec} {K : Params → PySem.W.Frag} {sp : World → Sp} {x : Str} (hn : l.most = some n) (hn2 : n ≤ sizeLine)
    (hdf : d.params.defaults = []) (hr : Room k callerA) (hY : ∀ (w : World) (h : Heap), YP w h → (K w.params).In h)
    (F : ∀ (w : World) (mg : Str → Option Value) (fa : Addr) (h : Heap), (K w.params).In h → h.Ns mainGlobals mg → mg d.name = some (.ref fa) →
      ∃ fd : FuncData, (∀ (s : Shared) (u : Value), BindsTo s fd ⟨[u], []⟩ [(x, u)]) ∧ ∀ base : Heap, (K w.params).In base → base.Ns mainGlobals mg → FnOkG l.prog w (K w.params) mg base k fa fd [x] (sp w))
    (hsp : ∀ (w : World) (H : Hp) (a : Addr) (ns : List Int), ns.length ≤ n → (∀ z ∈ ns, Builtin.Int.intBits z ≤ 1048576) → Only H → SqL (K w.params) H a (ns.map V.int) → sp w [.ref a] H (fun v _ => v = .bl true) fun _ _ _ => False) :
    PySem.W.WalkO q loose XP YP l.row.toRowW d [] (fun f vs => PySem.call f vs) := by
  refine Att.attach_callB hn hdf ?_
  intro w s0 s1 mg mb fa o pm cd doc a vs ns G Y _ _ _ hmg hobj hints hlen hbits hgens
  have KX := hY w _ Y
  obtain ⟨fd, hb, hF⟩ := F w mg fa _ KX G.T.g hmg
  exact law_callG KX G.T.g G.T.b G.T.builtins G.T.nolimit hgens hobj hints (Nat.le_trans hlen hn2) hr hF hb fun H hO hS => hsp w H a ns hlen hbits hO hS
/-! #### repr of data -/
mutual
theorem dp_nodict {K : PySem.W.Frag} {H : Hp} : ∀ (d : PyData) (v : V), Dp K H v d → d.hasDict = false
  | .none, _, _ => by simp only [PyData.hasDict]
  | .bool _, _, _ => by simp only [PyData.hasDict]
  | .int _, _, _ => by simp only [PyData.hasDict]
  | .str _, _, _ => by simp only [PyData.hasDict]
  | .list ds, _, h => by
    cases h with
    | lst _ ha =>
      simp only [PyData.hasDict]
      exact dp_nodictAll ds _ ha
  | .tuple ds, _, h => by
    cases h with
    | tup _ ha =>
      simp only [PyData.hasDict]
      exact dp_nodictAll ds _ ha
  | .dict _, _, h => by cases h
theorem dp_nodictAll {K : PySem.W.Frag} {H : Hp} : ∀ (ds : List PyData) (vs : List V), DpAll K H vs ds → PyData.hasDictAll ds = false
  | [], _, _ => by simp only [PyData.hasDictAll]
  | d :: ds, _, h => by
    cases h with
    | cons h1 h2 => simp only [PyData.hasDictAll, dp_nodict d _ h1, dp_nodictAll ds _ h2, Bool.or_self]
end
def rReprD (K : PySem.W.Frag) : List V → Hp → VK → Prop := fun xs H Q => ∃ v d, xs = [v] ∧ Dp K H v d ∧ d.showable = true ∧ d.depth ≤ 60 ∧ d.shown.length ≤ 10000000 ∧ Q (.str d.shown) H
theorem reprD {X : Cx} {K : PySem.W.Frag} (hK : X.K = K) (hG : X.A.guards = some []) (hu : X.A.units + 64 < cLine) : CallR X (.builtin "repr") (rReprD K) := by
  subst hK
  intro pins s σ H xs us Q I r h
  obtain ⟨v, d, rfl, hd, hs, hdep, hlen, q⟩ := h
  obtain ⟨u, rfl, r1⟩ := vals1 r
  have hlen' : d.shown.length ≤ sizeLine := Nat.le_trans hlen (by decide)
  cases v with
  | ref a =>
    cases (show u = Value.ref a from r1)
    obtain ⟨as, rd⟩ := Dp.reads I d (.ref a) (.ref a) hd rfl
    refine repr_of_reads' rd hs (PyData.noDict_hsm (dp_nodict d _ hd)) hG (by omega) (fun b o e => e) (fun h' u tk keep => ?_) hlen'
    exact ⟨.str _, H, I.kept (t' := tk) keep, ⟨_, rfl⟩, q⟩
  | non =>
    cases hd
    cases (show u = Value.none from r1)
    simp only [PyData.shown] at q
    exact PySem.P.repr_of_none ⟨.str _, H, I.tok _, ⟨_, rfl⟩, q⟩
  | bl b =>
    cases hd
    cases (show u = Value.bool b from r1)
    simp only [PyData.shown] at q
    refine PySem.P.repr_of_bool ⟨.str _, H, I.tok _, ⟨_, rfl⟩, ?_⟩
    cases b <;> exact q
  | int i =>
    cases hd
    obtain ⟨t', rfl⟩ := (show ∃ t, u = Value.int i t from r1)
    simp only [PyData.shown] at q
    simp only [PyData.showable, decide_eq_true_eq] at hs
    exact PySem.P.repr_of_int hs ⟨.str _, H, I.tok _, ⟨_, rfl⟩, q⟩
  | str x =>
    cases hd
    obtain ⟨t', rfl⟩ := (show ∃ t, u = Value.str x t from r1)
    simp only [PyData.shown] at q hlen'
    exact PySem.P.repr_of_str ⟨.str _, H, I.tok _, ⟨_, rfl⟩, q⟩ hlen'
  | byt _ => cases hd
  | flt _ => cases hd
  | ty _ => cases hd
theorem rd_reprD {K : PySem.W.Frag} {H : Hp} {Q : VK} {v : V} {d : PyData} (hd : Dp K H v d) (h1 : d.showable = true) (h2 : d.depth ≤ 60) (h3 : d.shown.length ≤ 10000000) (q : Q (.str d.shown) H) : rReprD K [v] H Q := ⟨v, d, rfl, hd, h1, h2, h3, q⟩
theorem dp_tup {K : PySem.W.Frag} {H : Hp} {p : Addr} {xs : List V} {ds : List PyData} (h : H p = some (.tup xs)) (a : DpAll K H xs ds) : Dp K H (.ref p) (.tuple ds) := .tup (sqT_of h) a
theorem dp_lst {K : PySem.W.Frag} {H : Hp} {p : Addr} {xs : List V} {ds : List PyData} (h : H p = some (.lst xs)) (a : DpAll K H xs ds) : Dp K H (.ref p) (.list ds) := .lst (sqL_of h) a
mutual
theorem dp_same {K : PySem.W.Frag} {H H' : Hp} (e : ∀ b o, H b = some o → H' b = some o) : ∀ (d : PyData) (v : V), Dp K H v d → Dp K H' v d
  | .none, _, h => by cases h; exact .non
  | .bool b, _, h => by cases h; exact .bl b
  | .int i, _, h => by cases h; exact .int i
  | .str x, _, h => by cases h; exact .str x
  | .list ds, _, h => by
    cases h with
    | lst hs ha =>
      refine .lst ?_ (dp_sameAll e ds _ ha)
      rcases hs with (h | ⟨o, h⟩) | h
      · exact .inl (.inl (e _ _ h))
      · exact .inl (.inr ⟨o, e _ _ h⟩)
      · exact .inr h
  | .tuple ds, _, h => by
    cases h with
    | tup hs ha =>
      refine .tup ?_ (dp_sameAll e ds _ ha)
      rcases hs with (h | ⟨o, h⟩) | h
      · exact .inl (.inl (e _ _ h))
      · exact .inl (.inr ⟨o, e _ _ h⟩)
      · exact .inr h
  | .dict _, _, h => by cases h
theorem dp_sameAll {K : PySem.W.Frag} {H H' : Hp} (e : ∀ b o, H b = some o → H' b = some o) : ∀ (ds : List PyData) (vs : List V), DpAll K H vs ds → DpAll K H' vs ds
  | [], _, h => by cases h; exact .nil
  | d :: ds, _, h => by
    cases h with
    | cons h1 h2 => exact .cons (dp_same e d _ h1) (dp_sameAll e ds _ h2)
end
end My

/-! ### P0E: == and != of nested lists, tuples, objects (by identity), flat values: what comes of it, as it comes -/
namespace My
open PySem PySem.Spec PyProof.Rows L2
/-- two sequences -/
def EqS (K : PySem.W.Frag) (H : Hp) (E : V → V → Bool → Prop) (x y : V) (c : Bool) : Prop :=
  (∃ (a b : Addr) (xs ys : List V) (e : Nat → Bool), x = .ref a ∧ y = .ref b ∧ SqL K H a xs ∧ SqL K H b ys ∧ (a ≠ b ∨ c = true) ∧ xs.length = ys.length ∧ (∀ j u v, xs[j]? = some u → ys[j]? = some v → E u v (e j)) ∧ c = (List.range xs.length).all e) ∨
  (∃ (a b : Addr) (xs ys : List V) (e : Nat → Bool), x = .ref a ∧ y = .ref b ∧ SqT K H a xs ∧ SqT K H b ys ∧ (a ≠ b ∨ c = true) ∧ (∀ j u v, xs[j]? = some u → ys[j]? = some v → E u v (e j)) ∧ c = ((List.range (min xs.length ys.length)).all e && xs.length == ys.length)) ∨
  (∃ (a b : Addr) (xs ys : List V), x = .ref a ∧ y = .ref b ∧ SqL K H a xs ∧ SqL K H b ys ∧ a ≠ b ∧ xs.length ≠ ys.length ∧ c = false)
/-- what x == y comes to, of nesting below n -/
def EqQ (K : PySem.W.Frag) (H : Hp) : Nat → V → V → Bool → Prop
  | 0 => fun _ _ _ => False
  | n + 1 => fun x y c => (flatV x = true ∧ flatV y = true ∧ c = eqV x y) ∨ (∃ a, x = .ref a ∧ y = .ref a ∧ c = true) ∨ EqS K H (EqQ K H n) x y c
theorem rc_atQ {prog : Program} {w : World} {A : Around} {s : Shared} {a b : Value} {k : Bool} {E Q : Value → Shared → Prop} (h : SeqAt.RcAt A s a b k) (q : Q (.bool k) s) : wpAny (model prog w) A (compareOp .Eq a b) Q E s := h prog w E Q q
section
variable {X : Cx} {pins : List (Addr × Obj)} {σ : L2.St} {H : Hp} {s : Shared}
theorem vals_at {xs : List V} {us : List Value} (h : Vals xs us) : ∀ (j : Nat) (x : V) (u : Value), xs[j]? = some x → us[j]? = some u → RelV x u := by
  induction h with
  | nil => exact fun _ _ _ e _ => nomatch e
  | cons r _ ih =>
    intro j x u e1 e2
    cases j with
    | zero =>
      cases e1
      cases e2
      exact r
    | succ j => exact ih j x u e1 e2
theorem get_of {α : Type} {l : List α} {j : Nat} (h : j < l.length) : l[j]? = some l[j] := List.getElem?_eq_getElem h
theorem eqS_run (I : Inv X pins σ H s) {A : Around} {F : V → V → Bool → Prop} (hu : A.units < cLine) (ih : ∀ x y v u c, F x y c → RelV x v → RelV y u → SeqAt.EqAt A.in1 s v u c) {x y : V} {v u : Value} {c : Bool} (h : EqS X.K H F x y c) (rx : RelV x v) (ry : RelV y u) :
    SeqAt.RcAt A s v u c ∧ SeqAt.RcNeAt A s v u (!c) := by
  have items : ∀ {xs ys : List V} {us ws : List Value} {e : Nat → Bool}, Vals xs us → Vals ys ws → (∀ j a b, xs[j]? = some a → ys[j]? = some b → F a b (e j)) → ∀ j (h1 : j < us.toArray.size) (h2 : j < ws.toArray.size), SeqAt.EqAt A.in1 s us.toArray[j] ws.toArray[j] (e j) := by
    intro xs ys us ws e r1 r2 hp j h1 h2
    have l1 : j < xs.length := by rw [r1.length]; simpa using h1
    have l2 : j < ys.length := by rw [r2.length]; simpa using h2
    have q1 := vals_at r1 j _ us[j] (get_of l1) (get_of (by simpa using h1))
    have q2 := vals_at r2 j _ ws[j] (get_of l2) (get_of (by simpa using h2))
    exact ih _ _ _ _ _ (hp j _ _ (get_of l1) (get_of l2)) q1 q2
  rcases h with ⟨a, b, xs, ys, e, rfl, rfl, ha, hb, hn, hl, hp, rfl⟩ | ⟨a, b, xs, ys, e, rfl, rfl, ha, hb, hn, hp, rfl⟩ | ⟨a, b, xs, ys, rfl, rfl, ha, hb, hn, hl, rfl⟩
  · cases (show v = Value.ref a from rx)
    cases (show u = Value.ref b from ry)
    obtain ⟨us, r1, p1, _⟩ := I.list ha
    obtain ⟨ws, r2, p2, _⟩ := I.list hb
    have hsz : us.toArray.size = ws.toArray.size := by
      rw [List.size_toArray, List.size_toArray, ← r1.length, ← r2.length]
      exact hl
    have z1 := SeqAt.RcAt.lists p1.isList p2.isList hsz hu (items r1 r2 hp)
    have z2 := SeqAt.RcNeAt.lists p1.isList p2.isList hsz hu (items r1 r2 hp)
    rw [List.size_toArray, ← r1.length] at z1 z2
    exact ⟨z1, z2⟩
  · cases (show v = Value.ref a from rx)
    cases (show u = Value.ref b from ry)
    obtain ⟨us, r1, p1, _⟩ := I.tuple ha
    obtain ⟨ws, r2, p2, _⟩ := I.tuple hb
    have z1 := SeqAt.RcAt.tuples p1 p2 hu (items r1 r2 hp)
    have z2 := SeqAt.RcNeAt.tuples p1 p2 hu (items r1 r2 hp)
    rw [List.size_toArray, List.size_toArray, ← r1.length, ← r2.length] at z1 z2
    exact ⟨z1, z2⟩
  · cases (show v = Value.ref a from rx)
    cases (show u = Value.ref b from ry)
    obtain ⟨us, r1, p1, _⟩ := I.list ha
    obtain ⟨ws, r2, p2, _⟩ := I.list hb
    have hsz : (us.toArray.size != ws.toArray.size) = true := by
      rw [List.size_toArray, List.size_toArray, ← r1.length, ← r2.length]
      simpa using hl
    exact ⟨SeqAt.RcAt.lists_lengths p1.isList p2.isList hsz hu, SeqAt.RcNeAt.lists_lengths p1.isList p2.isList hsz hu⟩
theorem eqQ_run (I : Inv X pins σ H s) : ∀ (n : Nat) (A : Around), A.units + n < cLine → ∀ (x y : V) (v u : Value) (c : Bool), EqQ X.K H n x y c → RelV x v → RelV y u → SeqAt.EqAt A s v u c
  | 0, _, _, _, _, _, _, _, h, _, _ => (show False from h).elim
  | n + 1, A, hu, x, y, v, u, c, h, rx, ry => by
    rcases h with ⟨f1, f2, rfl⟩ | ⟨a, rfl, rfl, rfl⟩ | h
    · exact eqAt_V rx ry f1 f2
    · cases (show v = Value.ref a from rx)
      cases (show u = Value.ref a from ry)
      exact SeqAt.EqAt.same _
    · have step := (eqS_run I (A := A) (by omega) (eqQ_run I n A.in1 (by show A.units + 1 + n < cLine; omega)) h rx ry).1
      obtain ⟨a, b, rfl, rfl, hab⟩ : ∃ a b, x = .ref a ∧ y = .ref b ∧ (a ≠ b ∨ c = true) := by
        rcases h with ⟨a, b, _, _, _, e1, e2, _, _, h, _⟩ | ⟨a, b, _, _, _, e1, e2, _, _, h, _⟩ | ⟨a, b, _, _, e1, e2, _, _, h, _⟩
        · exact ⟨a, b, e1, e2, h⟩
        · exact ⟨a, b, e1, e2, h⟩
        · exact ⟨a, b, e1, e2, .inl h⟩
      cases (show v = Value.ref a from rx)
      cases (show u = Value.ref b from ry)
      by_cases e : a = b
      · subst e
        rcases hab with h | rfl
        · exact absurd rfl h
        · exact SeqAt.EqAt.same _
      · exact SeqAt.EqAt.of_refs e step
end
section
variable {X : Cx} {K : PySem.W.Frag}
def rEqW (K : PySem.W.Frag) : R2 := fun x y H Q => ∃ n c, n ≤ 60 ∧ EqS K H (EqQ K H n) x y c ∧ Q (.bl c) H
def rNeW (K : PySem.W.Frag) : R2 := fun x y H Q => ∃ n c, n ≤ 60 ∧ EqS K H (EqQ K H n) x y c ∧ Q (.bl (!c)) H
theorem eqW (h : X.K = K) (hu : X.A.units + 64 < cLine) : OpR X (compareOp .Eq) (rEqW K) := by
  subst h
  intro pins s σ H x y v u Q I rx ry h
  obtain ⟨n, c, hn, h, q⟩ := h
  exact (eqS_run I (A := X.A) (by omega) (eqQ_run I n X.A.in1 (by show X.A.units + 1 + n < cLine; omega)) h rx ry).1 _ _ _ _ ⟨.bl c, H, I, rfl, q⟩
theorem neW (h : X.K = K) (hu : X.A.units + 64 < cLine) : OpR X (compareOp .NotEq) (rNeW K) := by
  subst h
  intro pins s σ H x y v u Q I rx ry h
  obtain ⟨n, c, hn, h, q⟩ := h
  exact (eqS_run I (A := X.A) (by omega) (eqQ_run I n X.A.in1 (by show X.A.units + 1 + n < cLine; omega)) h rx ry).2 _ _ _ _ ⟨.bl (!c), H, I, rfl, q⟩
/-- None against a list, too -/
def rEqO (K : PySem.W.Frag) : R2 := fun x y H Q => (x = .non ∧ ∃ b ys, y = .ref b ∧ SqL K H b ys ∧ Q (.bl false) H) ∨ rEqW K x y H Q
theorem eqO (h : X.K = K) (hu : X.A.units + 64 < cLine) : OpR X (compareOp .Eq) (rEqO K) := by
  intro pins s σ H x y v u Q I rx ry hh
  rcases hh with ⟨rfl, b, ys, rfl, hb, q⟩ | hh
  · subst h
    cases (show v = Value.none from rx)
    cases (show u = Value.ref b from ry)
    obtain ⟨ws, r2, p2, _⟩ := I.list hb
    exact SeqAt.RcAt.none_list (A := X.A) p2.isList (by omega) _ _ _ _ ⟨.bl false, H, I, rfl, q⟩
  · exact eqW h hu _ _ _ _ _ _ _ _ _ I rx ry hh
end
/-! #### alike: what compares equal -/
/-- equal, of nesting below n -/
def Alk (K : PySem.W.Frag) (H : Hp) (n : Nat) (x y : V) : Prop := EqQ K H n x y true
def AlkAll (K : PySem.W.Frag) (H : Hp) (n : Nat) (xs ys : List V) : Prop := xs.length = ys.length ∧ ∀ (j : Nat) (u v : V), xs[j]? = some u → ys[j]? = some v → Alk K H n u v
section
variable {K : PySem.W.Frag} {H : Hp} {n : Nat}
theorem Alk.flat {x : V} (h : flatV x = true) : Alk K H (n + 1) x x := .inl ⟨h, h, by
  cases x with
  | non => rfl
  | bl b => exact (beq_self_eq_true b).symm
  | int i => exact (beq_self_eq_true i).symm
  | str z => exact (beq_self_eq_true z).symm
  | _ => cases h⟩
theorem Alk.ref {a : Addr} : Alk K H (n + 1) (.ref a) (.ref a) := .inr (.inl ⟨a, rfl, rfl, rfl⟩)
theorem all_true (k : Nat) : true = (List.range k).all fun _ => true := (List.all_eq_true.mpr fun _ _ => rfl).symm
theorem eqS_lst {a b : Addr} {xs ys : List V} (ha : SqL K H a xs) (hb : SqL K H b ys) (h : AlkAll K H n xs ys) : EqS K H (EqQ K H n) (.ref a) (.ref b) true :=
  .inl ⟨a, b, xs, ys, fun _ => true, rfl, rfl, ha, hb, .inr rfl, h.1, h.2, all_true _⟩
theorem eqS_tup {a b : Addr} {xs ys : List V} (ha : SqT K H a xs) (hb : SqT K H b ys) (h : AlkAll K H n xs ys) : EqS K H (EqQ K H n) (.ref a) (.ref b) true :=
  .inr (.inl ⟨a, b, xs, ys, fun _ => true, rfl, rfl, ha, hb, .inr rfl, h.2, by rw [← all_true, h.1, beq_self_eq_true]; rfl⟩)
theorem Alk.lst {a b : Addr} {xs ys : List V} (ha : SqL K H a xs) (hb : SqL K H b ys) (h : AlkAll K H n xs ys) : Alk K H (n + 1) (.ref a) (.ref b) := .inr (.inr (eqS_lst ha hb h))
theorem Alk.tup {a b : Addr} {xs ys : List V} (ha : SqT K H a xs) (hb : SqT K H b ys) (h : AlkAll K H n xs ys) : Alk K H (n + 1) (.ref a) (.ref b) := .inr (.inr (eqS_tup ha hb h))
theorem AlkAll.nil : AlkAll K H n [] [] := ⟨rfl, fun _ _ _ h => nomatch h⟩
theorem AlkAll.cons {x y : V} {xs ys : List V} (h : Alk K H n x y) (r : AlkAll K H n xs ys) : AlkAll K H n (x :: xs) (y :: ys) := ⟨by rw [List.length_cons, List.length_cons, r.1], fun j u v e1 e2 => by
  cases j with
  | zero =>
    cases e1
    cases e2
    exact h
  | succ j => exact r.2 j u v e1 e2⟩
theorem AlkAll.flat {xs : List V} (h : ∀ x ∈ xs, flatV x = true) : AlkAll K H (n + 1) xs xs := ⟨rfl, fun j u v e1 e2 => by
  cases e1.symm.trans e2
  exact Alk.flat (h _ (List.mem_of_getElem? e1))⟩
theorem rd_eqW {Q : VK} {x y : V} (h : EqS K H (EqQ K H n) x y true) (q : Q (.bl true) H) (hn : n ≤ 60 := by decide) : rEqW K x y H Q := ⟨n, true, hn, h, q⟩
theorem rd_neW {Q : VK} {x y : V} (h : EqS K H (EqQ K H n) x y true) (q : Q (.bl false) H) (hn : n ≤ 60 := by decide) : rNeW K x y H Q := ⟨n, true, hn, h, q⟩
theorem rd_eqWF {Q : VK} {x y : V} (h : EqS K H (EqQ K H n) x y false) (q : Q (.bl false) H) (hn : n ≤ 60 := by decide) : rEqW K x y H Q := ⟨n, false, hn, h, q⟩
theorem rd_neWF {Q : VK} {x y : V} (h : EqS K H (EqQ K H n) x y false) (q : Q (.bl true) H) (hn : n ≤ 60 := by decide) : rNeW K x y H Q := ⟨n, false, hn, h, q⟩
/-- lists, tuples of unlike lengths -/
theorem eqS_len {a b : Addr} {xs ys : List V} (ha : SqL K H a xs) (hb : SqL K H b ys) (h : a ≠ b) (l : xs.length ≠ ys.length) : EqS K H (EqQ K H n) (.ref a) (.ref b) false := .inr (.inr ⟨a, b, xs, ys, rfl, rfl, ha, hb, h, l, rfl⟩)
end
end My

/-! ### P0F: comprehensions with a test; zip of a tuple with a list -/
namespace My
open PySem PySem.Spec PyProof.Rows L2
section
variable {K : PySem.W.Frag} {σ : L2.St} {Q : VK}
/-- the list under construction is set aside while an element is evaluated, not while the test is -/
theorem lcgoT {J : It} {n k : Nat} {G : Hp → Prop} {Y : Nat → Hp → V → Hp → Prop} {te : TE} {tt : TT} {vs : List Nat} {H1 : Hp} (w : Walk J n G Y) (hz : n ≤ 100000) (Yx : Nat → V → Prop) (hY : ∀ i H x H', i < n → G H → Y i H x H' → H' = H ∧ Yx i x)
    (hw : ∀ x, wipe ((wipe σ vs).set k (some x)) vs = wipe σ vs) (Pv : Nat → List V → Hp → Prop) (h0 : Pv 0 [] H1) (hG : ∀ i acc H D, i ≤ n → Pv i acc H → H D = none → G (upd H D (.lst acc)))
    (hs : ∀ i x acc H D, i < n → acc.length ≤ i → Pv i acc H → H D = none → Yx i x → ∃ b : Bool, (∀ P : Bool → Hp → Prop, P b (upd H D (.lst acc)) → tt ((wipe σ vs).set k (some x)) (upd H D (.lst acc)) P) ∧ (b = false → Pv (i + 1) acc H) ∧
      (b = true → ∀ Qc : VK, (∀ y H', Pv (i + 1) (acc ++ [y]) H' → Qc y H') → te ((wipe σ vs).set k (some x)) H Qc))
    (hd : ∀ acc H D, acc.length ≤ n → Pv n acc H → H D = none → Q (.ref D) (upd H D (.lst acc))) : LcGo J (gName k) tt (tFrm te) vs σ H1 Q := by
  refine fun D hD => lc_it w (fun i H => ∃ acc H0, acc.length ≤ i ∧ H = upd H0 D (.lst acc) ∧ H0 D = none ∧ Pv i acc H0) ⟨[], H1, Nat.le_refl _, rfl, hD, h0⟩ (fun i H hi ⟨acc, H0, _, e, hn, p⟩ => e ▸ hG i acc H0 D hi p hn) ?_ ?_
  · rintro i x H H' hi ⟨acc, H0, hla, rfl, hn, p⟩ y
    obtain ⟨rfl, yx⟩ := hY i _ x H' hi (hG i acc H0 D (Nat.le_of_lt hi) p hn) y
    refine ⟨hw _, ?_⟩
    obtain ⟨b, ht, hf, hy⟩ := hs i x acc H0 D hi hla p hn yx
    refine ht _ ?_
    cases b with
    | false => exact iteF ⟨acc, H0, by omega, rfl, hn, hf rfl⟩
    | true =>
      refine iteT ⟨D, acc, upd_same, ?_⟩
      rw [wo_upd hn]
      refine hy rfl _ fun y H' p' hD' => ⟨acc, upd_same, Nat.lt_of_lt_of_le (show acc.length < 100000 by omega) (by decide), acc ++ [y], H', by rw [List.length_append]; show acc.length + 1 ≤ i + 1; omega, by rw [upd_upd], hD', p'⟩
  · rintro H ⟨acc, H0, hla, rfl, hn, p⟩
    exact hd acc H0 D hla p hn
/-- .. its test, its element functions of the item -/
theorem lcgo_filt {J : It} {n k : Nat} {G : Hp → Prop} {Y : Nat → Hp → V → Hp → Prop} {te : TE} {tt : TT} {vs : List Nat} {H1 : Hp} {xs : List V} (w : Walk J n G Y) (hn : xs.length = n) (hz : n ≤ 100000) (f : V → Bool) (g : V → V) (hY : ∀ i H x H', i < n → G H → Y i H x H' → H' = H ∧ xs[i]? = some x)
    (hw : ∀ x, wipe ((wipe σ vs).set k (some x)) vs = wipe σ vs) (hG : ∀ acc D, H1 D = none → G (upd H1 D (.lst acc)))
    (ht : ∀ x ∈ xs, ∀ acc D (P : Bool → Hp → Prop), H1 D = none → P (f x) (upd H1 D (.lst acc)) → tt ((wipe σ vs).set k (some x)) (upd H1 D (.lst acc)) P)
    (he : ∀ x ∈ xs, f x = true → ∀ Q' : VK, Q' (g x) H1 → te ((wipe σ vs).set k (some x)) H1 Q')
    (hq : ∀ D, H1 D = none → Q (.ref D) (upd H1 D (.lst ((xs.filter f).map g)))) : LcGo J (gName k) tt (tFrm te) vs σ H1 Q := by
  refine lcgoT w hz (fun i x => xs[i]? = some x) hY hw (fun i acc H => H = H1 ∧ acc = ((xs.take i).filter f).map g) ⟨rfl, rfl⟩ (fun i acc H D _ p hD => by rw [p.1] at hD ⊢; exact hG acc D hD) ?_ ?_
  · rintro i x acc H D hi hla ⟨rfl, rfl⟩ hD hx
    have hm := List.mem_of_getElem? hx
    have e : xs.take (i + 1) = xs.take i ++ [x] := by rw [List.take_add_one, hx]; rfl
    refine ⟨f x, fun P p => ht x hm _ D P hD p, fun hf => ⟨rfl, ?_⟩, fun hf Qc hq' => he x hm hf _ (hq' _ _ ⟨rfl, ?_⟩)⟩
    · rw [e, List.filter_append, List.filter_cons, hf]
      simp
    · rw [e, List.filter_append, List.filter_cons, hf]
      simp
  · rintro acc H D hla ⟨rfl, rfl⟩ hD
    have e : xs.take n = xs := List.take_of_length_le (by omega)
    rw [e]
    exact hq D hD
/-- .. over the signs of a text -/
theorem lcgo_fstr {te : TE} {tt : TT} {vs : List Nat} {k : Nat} {z : Str} {H : Hp} (f : Nat → Bool) (g : Nat → V) (hz : z.length ≤ 100000) (hw : ∀ x, wipe ((wipe σ vs).set k (some x)) vs = wipe σ vs)
    (ht : ∀ (c : Nat) (H' : Hp) (P : Bool → Hp → Prop), c ∈ z.cps.toList → P (f c) H' → tt ((wipe σ vs).set k (some (.str ⟨#[c]⟩))) H' P)
    (he : ∀ (c : Nat) (H' : Hp) (Q' : VK), c ∈ z.cps.toList → f c = true → Q' (g c) H' → te ((wipe σ vs).set k (some (.str ⟨#[c]⟩))) H' Q')
    (hq : ∀ D, H D = none → Q (.ref D) (upd H D (.lst ((z.cps.toList.filter f).map g)))) : LcGo (Its z) (gName k) tt (tFrm te) vs σ H Q := by
  have hl : z.cps.size = z.cps.toList.length := by simp
  refine lcgoT walk_str hz (fun i x => ∃ c, z.cps.toList[i]? = some c ∧ x = .str ⟨#[c]⟩) (fun i H x H' _ _ ⟨e, c, hc, hx⟩ => ⟨e, c, by simpa using hc, hx⟩) hw (fun i acc H' => H' = H ∧ acc = ((z.cps.toList.take i).filter f).map g) ⟨rfl, rfl⟩ (fun _ _ _ _ _ _ _ => trivial) ?_ ?_
  · rintro i x acc H' D hi hla ⟨rfl, rfl⟩ hD ⟨c, hc, rfl⟩
    have hm := List.mem_of_getElem? hc
    have e : z.cps.toList.take (i + 1) = z.cps.toList.take i ++ [c] := by rw [List.take_add_one, hc]; rfl
    refine ⟨f c, fun P p => ht c _ P hm p, fun hf => ⟨rfl, ?_⟩, fun hf Qc hq' => he c _ _ hm hf (hq' _ _ ⟨rfl, ?_⟩)⟩
    · rw [e, List.filter_append, List.filter_cons, hf]
      simp
    · rw [e, List.filter_append, List.filter_cons, hf]
      simp
  · rintro acc H' D hla ⟨rfl, rfl⟩ hD
    have e : z.cps.toList.take z.cps.size = z.cps.toList := List.take_of_length_le (by rw [← hl]; exact Nat.le_refl _)
    rw [e]
    exact hq D hD
end
end My

/-! ### P0L: lists of tuples, tables with int keys, what a deed leaves alone; comprehensions of any target -/
namespace My
open PySem PySem.Spec PyProof.Rows L2
section
variable {K : PySem.W.Frag} {σ : L2.St} {H : Hp} {Q : VK} {v : V}
/-! #### a comprehension, its target and test of any kind; its list is set aside while an element is evaluated -/
theorem lcgoG {J : It} {n : Nat} {G : Hp → Prop} {Y : Nat → Hp → V → Hp → Prop} {te : TE} {tt : TT} {g : TG} {vs : List Nat} {H1 : Hp} (w : Walk J n G Y) (hz : n ≤ 100000) (Yx : Nat → V → Prop) (hY : ∀ i H x H', i < n → G H → Y i H x H' → H' = H ∧ Yx i x)
    (Pv : Nat → List V → Hp → Prop) (h0 : Pv 0 [] H1) (hG : ∀ i acc H D, i ≤ n → Pv i acc H → H D = none → G (upd H D (.lst acc)))
    (hs : ∀ i x acc H D, i < n → acc.length ≤ i → Pv i acc H → H D = none → Yx i x → ∃ (σ2 : L2.St) (b : Bool), wipe σ2 vs = wipe σ vs ∧
      (∀ P : L2.St → Hp → Prop, P σ2 (upd H D (.lst acc)) → g x (wipe σ vs) (upd H D (.lst acc)) P) ∧
      (∀ P : Bool → Hp → Prop, P b (upd H D (.lst acc)) → tt σ2 (upd H D (.lst acc)) P) ∧ (b = false → Pv (i + 1) acc H) ∧
      (b = true → ∀ Qc : VK, (∀ y H', Pv (i + 1) (acc ++ [y]) H' → Qc y H') → te σ2 H Qc))
    (hd : ∀ acc H D, acc.length ≤ n → Pv n acc H → H D = none → Q (.ref D) (upd H D (.lst acc))) : LcGo J g tt (tFrm te) vs σ H1 Q := by
  refine fun D hD => lc_it w (fun i H => ∃ acc H0, acc.length ≤ i ∧ H = upd H0 D (.lst acc) ∧ H0 D = none ∧ Pv i acc H0) ⟨[], H1, Nat.le_refl _, rfl, hD, h0⟩ (fun i H hi ⟨acc, H0, _, e, hn, p⟩ => e ▸ hG i acc H0 D hi p hn) ?_ ?_
  · rintro i x H H' hi ⟨acc, H0, hla, rfl, hn, p⟩ y
    obtain ⟨rfl, yx⟩ := hY i _ x H' hi (hG i acc H0 D (Nat.le_of_lt hi) p hn) y
    obtain ⟨σ2, b, hw, hg, ht, hf, hy⟩ := hs i x acc H0 D hi hla p hn yx
    refine hg _ ⟨hw, ?_⟩
    refine ht _ ?_
    cases b with
    | false => exact iteF ⟨acc, H0, by omega, rfl, hn, hf rfl⟩
    | true =>
      refine iteT ⟨D, acc, upd_same, ?_⟩
      rw [wo_upd hn]
      refine hy rfl _ fun y H' p' hD' => ⟨acc, upd_same, Nat.lt_of_lt_of_le (show acc.length < 100000 by omega) (by decide), acc ++ [y], H', by rw [List.length_append]; show acc.length + 1 ≤ i + 1; omega, by rw [upd_upd], hD', p'⟩
  · rintro H ⟨acc, H0, hla, rfl, hn, p⟩
    exact hd acc H0 D hla p hn
theorem yes_b {P : Bool → Hp → Prop} (h : P true H) : tYes σ H P := h
/-! #### lists of tuples -/
inductive RowsAt (H : Hp) : List V → List (List V) → Prop
  | nil : RowsAt H [] []
  | cons {t : Addr} {r : List V} {ps : List V} {rs : List (List V)} (h : H t = some (.tup r)) (k : RowsAt H ps rs) : RowsAt H (.ref t :: ps) (r :: rs)
theorem RowsAt.same {H H' : Hp} (s : ∀ b xs, H b = some (.tup xs) → H' b = some (.tup xs)) {ps : List V} {rs : List (List V)} (h : RowsAt H ps rs) : RowsAt H' ps rs := by
  induction h with
  | nil => exact .nil
  | cons h _ ih => exact .cons (s _ _ h) ih
theorem RowsAt.keep {H H' : Hp} (s : Same H H') {ps : List V} {rs : List (List V)} (h : RowsAt H ps rs) : RowsAt H' ps rs := h.same fun b _ e => s b _ e
theorem RowsAt.app {H : Hp} {ps qs : List V} {rs ss : List (List V)} (h : RowsAt H ps rs) (k : RowsAt H qs ss) : RowsAt H (ps ++ qs) (rs ++ ss) := by
  induction h with
  | nil => exact k
  | cons h _ ih => exact .cons h ih
theorem RowsAt.snoc {H : Hp} {ps : List V} {rs : List (List V)} {t : Addr} {r : List V} (h : RowsAt H ps rs) (e : H t = some (.tup r)) : RowsAt H (ps ++ [.ref t]) (rs ++ [r]) := h.app (.cons e .nil)
theorem RowsAt.len {H : Hp} {ps : List V} {rs : List (List V)} (h : RowsAt H ps rs) : ps.length = rs.length := by
  induction h with
  | nil => rfl
  | cons _ _ ih => rw [List.length_cons, List.length_cons, ih]
theorem RowsAt.get {H : Hp} {ps : List V} {rs : List (List V)} (h : RowsAt H ps rs) : ∀ {i : Nat} {x : V}, ps[i]? = some x → ∃ t r, x = .ref t ∧ rs[i]? = some r ∧ H t = some (.tup r) := by
  induction h with
  | nil => intro i x e; simp at e
  | @cons t r ps rs h _ ih =>
    intro i x e
    cases i with
    | zero => exact ⟨t, r, (Option.some.inj e).symm, rfl, h⟩
    | succ i => exact ih (by simpa using e)
theorem RowsAt.mem {H : Hp} {ps : List V} {rs : List (List V)} (h : RowsAt H ps rs) {x : V} (m : x ∈ ps) : ∃ t r, x = .ref t ∧ r ∈ rs ∧ H t = some (.tup r) := by
  obtain ⟨i, hi⟩ := List.getElem?_of_mem m
  obtain ⟨t, r, e, e2, e3⟩ := h.get hi
  exact ⟨t, r, e, List.mem_of_getElem? e2, e3⟩
/-- a test of the items of a list of tuples, as one of the tuples -/
def onTup (H : Hp) (f : List V → Bool) : V → Bool
  | .ref a => match H a with
    | some (.tup xs) => f xs
    | _ => false
  | _ => false
theorem onTup_eq {H : Hp} {f : List V → Bool} {t : Addr} {r : List V} (h : H t = some (.tup r)) : onTup H f (.ref t) = f r := by
  simp only [onTup, h]
theorem RowsAt.filter {H H1 : Hp} (f : List V → Bool) {ps : List V} {rs : List (List V)} (h : RowsAt H ps rs) (s : ∀ b xs, H b = some (.tup xs) → H1 b = some (.tup xs)) : RowsAt H (ps.filter (onTup H1 f)) (rs.filter f) := by
  induction h with
  | nil => exact .nil
  | @cons t r ps rs h k ih =>
    rw [List.filter_cons, List.filter_cons, onTup_eq (s _ _ h)]
    cases f r with
    | true => exact .cons h ih
    | false => exact ih
theorem RowsAt.reverse {H : Hp} {ps : List V} {rs : List (List V)} (h : RowsAt H ps rs) : RowsAt H ps.reverse rs.reverse := by
  induction h with
  | nil => exact .nil
  | cons h _ ih =>
    rw [List.reverse_cons, List.reverse_cons]
    exact ih.snoc h
theorem RowsAt.drop {H : Hp} {ps : List V} {rs : List (List V)} (h : RowsAt H ps rs) : ∀ n : Nat, RowsAt H (ps.drop n) (rs.drop n) := by
  induction h with
  | nil => intro n; simp only [List.drop_nil]; exact .nil
  | cons h k ih =>
    intro n
    cases n with
    | zero => exact .cons h k
    | succ n => exact ih n
theorem RowsAt.dropLast {H : Hp} {ps : List V} {rs : List (List V)} (h : RowsAt H ps rs) : RowsAt H ps.dropLast rs.dropLast := by
  induction h with
  | nil => exact .nil
  | cons h k ih =>
    cases k with
    | nil => exact .nil
    | cons h2 k2 => exact .cons h ih
theorem RowsAt.last {H : Hp} {r : List V} : ∀ {rs : List (List V)} {ps : List V}, RowsAt H ps (rs ++ [r]) → ∃ qs t, ps = qs ++ [.ref t] ∧ RowsAt H qs rs ∧ H t = some (.tup r)
  | [], _, .cons h .nil => ⟨[], _, rfl, .nil, h⟩
  | _ :: _, _, .cons h k => by
    obtain ⟨qs, t, rfl, k2, e⟩ := RowsAt.last k
    exact ⟨_ :: qs, t, rfl, .cons h k2, e⟩
/-- the first number of a tuple, tested -/
def onFst (f : Int → Bool) : List V → Bool
  | .int k :: _ => f k
  | _ => false
/-- such a list as data -/
theorem RowsAt.dp {K : PySem.W.Frag} {H : Hp} {ps : List V} {rs : List (List V)} (f : V → PyData) (h : RowsAt H ps rs) (hf : ∀ r ∈ rs, DpAll K H r (r.map f)) : DpAll K H ps (rs.map fun r => .tuple (r.map f)) := by
  induction h with
  | nil => exact .nil
  | @cons t r ps rs h _ ih => exact .cons (.tup (sqT_of h) (hf r List.mem_cons_self)) (ih fun r hr => hf r (List.mem_cons_of_mem _ hr))
def dI : V → PyData
  | .int i => .int i
  | .str z => .str z
  | .bl b => .bool b
  | _ => .none
theorem dpI {K : PySem.W.Frag} {H : Hp} : ∀ {r : List V}, (∀ x ∈ r, ∃ i : Int, x = .int i) → DpAll K H r (r.map dI)
  | [], _ => .nil
  | x :: r, h => by
    obtain ⟨i, rfl⟩ := h x List.mem_cons_self
    exact .cons (.int i) (dpI fun y hy => h y (List.mem_cons_of_mem _ hy))
/-! #### what a deed leaves alone: all but what may change of S -/
def imm : HO → Bool
  | .lst _ => false
  | .dK _ => false
  | _ => true
def KeepS (S : List Addr) (H H' : Hp) : Prop := ∀ b o, H b = some o → (imm o = true ∨ b ∉ S) → H' b = some o
theorem KeepS.refl (S : List Addr) (H : Hp) : KeepS S H H := fun _ _ h _ => h
theorem KeepS.of {S : List Addr} {H H' : Hp} (s : Same H H') : KeepS S H H' := fun b o h _ => s b o h
theorem KeepS.trans {S : List Addr} {H H1 H2 : Hp} (a : KeepS S H H1) (b : KeepS S H1 H2) : KeepS S H H2 := fun c o h n => b c o (a c o h n) n
theorem KeepS.mono {S S' : List Addr} {H H' : Hp} (s : KeepS S H H') (h : ∀ x ∈ S, x ∈ S') : KeepS S' H H' := fun b o e n => s b o e (n.imp id fun n m => n (h b m))
theorem KeepS.tup {S : List Addr} {H H' : Hp} (s : KeepS S H H') : ∀ b xs, H b = some (.tup xs) → H' b = some (.tup xs) := fun b _ e => s b _ e (.inl rfl)
theorem KeepS.put {S : List Addr} {H H1 : Hp} {p : Addr} {o u : HO} (s : KeepS S H H1) (h : H p = some u) (hu : imm u = false) (m : p ∈ S) : KeepS S H (upd H1 p o) := fun b x e n => by
  by_cases hb : b = p
  · subst hb
    rw [h] at e
    cases e
    rcases n with n | n
    · rw [hu] at n
      cases n
    · exact absurd m n
  · rw [upd_ne hb]
    exact s b x e n
theorem KeepS.new {S : List Addr} {H H1 : Hp} {p : Addr} {o : HO} (s : KeepS S H H1) (h : H p = none) : KeepS S H (upd H1 p o) := fun b x e n => by
  rw [upd_ne (ne_of_none e h)]
  exact s b x e n
theorem hp_ks {S : List Addr} {H H' : Hp} {q : Addr} {o : HO} (s : KeepS S H H') (n : imm o = true ∨ q ∉ S) (h : H q = some o) : H' q = some o := s q o h n
/-! #### dicts with keys of ints and texts -/
def Dg2 (ty tx : TE) (σ : L2.St) (Q : VK) : VK := fun x H1 => ∃ a, x = .ref a ∧ IsD H1 a ∧ ty σ H1 fun y H2 => tx σ H2 fun z H3 => ∃ o, DGet H3 a y o ∧ Q (o.getD z) H3
def Dg2b (a : Addr) (y : V) (Q : VK) : VK := fun z H3 => ∃ o, DGet H3 a y o ∧ Q (o.getD z) H3
theorem rd_dget2 {td ty tx : TE} (h : td σ H (Dg2 ty tx σ Q)) : tDGet2 td ty tx σ H Q := h
theorem rd_dg2 {ty tx : TE} {a : Addr} {kvs : List (Key × V)} (h : H a = some (.dK kvs)) (q : ty σ H fun y H2 => tx σ H2 (Dg2b a y Q)) : Dg2 ty tx σ Q (.ref a) H := ⟨a, rfl, .inl ⟨kvs, .inl h⟩, q⟩
theorem rd_dg2I {a : Addr} {k : Int} {z : V} {kvs : List (Key × V)} (h : H a = some (.dK kvs)) (q : Q ((valV kvs (.inl k)).getD z) H) : Dg2b a (.int k) Q z H := ⟨_, DGet.k (k := .inl k) h, q⟩
theorem rd_dg2S {a : Addr} {k : Str} {z : V} {kvs : List (Key × V)} (h : H a = some (.dK kvs)) (q : Q ((valV kvs (.inr k)).getD z) H) : Dg2b a (.str k) Q z H := ⟨_, DGet.k (k := .inr k) h, q⟩
def Dg1 (ty : TE) (σ : L2.St) (Q : VK) : VK := fun x H1 => ∃ a, x = .ref a ∧ IsD H1 a ∧ ty σ H1 fun y H2 => ∃ o, DGet H2 a y o ∧ Q (o.getD .non) H2
def Dg1b (a : Addr) (Q : VK) : VK := fun y H2 => ∃ o, DGet H2 a y o ∧ Q (o.getD .non) H2
theorem rd_dget1 {td ty : TE} (h : td σ H (Dg1 ty σ Q)) : tDGet1 td ty σ H Q := h
theorem rd_dg1 {ty : TE} {a : Addr} {kvs : List (Key × V)} (h : H a = some (.dK kvs)) (q : ty σ H (Dg1b a Q)) : Dg1 ty σ Q (.ref a) H := ⟨a, rfl, .inl ⟨kvs, .inl h⟩, q⟩
theorem rd_dg1I {a : Addr} {k : Int} {kvs : List (Key × V)} (h : H a = some (.dK kvs)) (q : Q ((valV kvs (.inl k)).getD .non) H) : Dg1b a Q (.int k) H := ⟨_, DGet.k (k := .inl k) h, q⟩
theorem rd_dg1S {a : Addr} {k : Str} {kvs : List (Key × V)} (h : H a = some (.dK kvs)) (q : Q ((valV kvs (.inr k)).getD .non) H) : Dg1b a Q (.str k) H := ⟨_, DGet.k (k := .inr k) h, q⟩
/-- d[k] -/
def Dgt (ty : TE) (σ : L2.St) (Q : VK) : VK := fun x H1 => ty σ H1 fun y H2 => ∃ a v, x = .ref a ∧ DGet H2 a y (some v) ∧ Q v H2
def Dgtb (x : V) (Q : VK) : VK := fun y H2 => ∃ a v, x = .ref a ∧ DGet H2 a y (some v) ∧ Q v H2
theorem rd_dget {td ty : TE} (h : td σ H (Dgt ty σ Q)) : tDGet td ty σ H Q := h
theorem rd_dgt {ty : TE} {x : V} (h : ty σ H (Dgtb x Q)) : Dgt ty σ Q x H := h
theorem rd_dgtI {a : Addr} {k : Int} {kvs : List (Key × V)} (h : H a = some (.dK kvs)) (l : valV kvs (.inl k) = some v) (q : Q v H) : Dgtb (.ref a) Q (.int k) H := ⟨a, v, rfl, l ▸ DGet.k (k := .inl k) h, q⟩
theorem rd_dgtS {a : Addr} {k : Str} {kvs : List (Key × V)} (h : H a = some (.dK kvs)) (l : valV kvs (.inr k) = some v) (q : Q v H) : Dgtb (.ref a) Q (.str k) H := ⟨a, v, rfl, l ▸ DGet.k (k := .inr k) h, q⟩
/-- d[k] = v -/
def Dpt (td ty : TE) (D : Ends) (σ : L2.St) : VK := fun v H1 => td σ H1 fun x H2 => ty σ H2 fun y H3 => ∃ a H4, x = .ref a ∧ DPut H3 a y v H4 ∧ D.nx σ H4
def Dpta (ty : TE) (v : V) (D : Ends) (σ : L2.St) : VK := fun x H2 => ty σ H2 fun y H3 => ∃ a H4, x = .ref a ∧ DPut H3 a y v H4 ∧ D.nx σ H4
def Dptb (v x : V) (D : Ends) (σ : L2.St) : VK := fun y H3 => ∃ a H4, x = .ref a ∧ DPut H3 a y v H4 ∧ D.nx σ H4
theorem rd_dput {td ty tv : TE} {D : Ends} (h : tv σ H (Dpt td ty D σ)) : sDPut td ty tv D σ H := h
theorem rd_dpt {td ty : TE} {D : Ends} (h : td σ H (Dpta ty v D σ)) : Dpt td ty D σ v H := h
theorem rd_dpta {ty : TE} {x : V} {D : Ends} (h : ty σ H (Dptb v x D σ)) : Dpta ty v D σ x H := h
theorem rd_dptI {a : Addr} {k : Int} {D : Ends} {kvs : List (Key × V)} (h : H a = some (.dK kvs)) (l : kvs.length ≤ 100000) (q : D.nx σ (upd H a (.dK (putK kvs (.inl k) v)))) : Dptb v (.ref a) D σ (.int k) H := ⟨a, _, rfl, DPut.k (k := .inl k) h (Nat.lt_of_le_of_lt l (by decide)), q⟩
theorem rd_dptS {a : Addr} {k : Str} {D : Ends} {kvs : List (Key × V)} (h : H a = some (.dK kvs)) (l : kvs.length ≤ 100000) (q : D.nx σ (upd H a (.dK (putK kvs (.inr k) v)))) : Dptb v (.ref a) D σ (.str k) H := ⟨a, _, rfl, DPut.k (k := .inr k) h (Nat.lt_of_le_of_lt l (by decide)), q⟩
/-- k in d -/
def Dib (y : V) (Q : VK) : VK := fun x H2 => ∃ a o, x = .ref a ∧ DGet H2 a y o ∧ Q (.bl o.isSome) H2
def Dnb (y : V) (Q : VK) : VK := fun x H2 => ∃ a o, x = .ref a ∧ DGet H2 a y o ∧ Q (.bl (!o.isSome)) H2
theorem rd_din {ty td : TE} (h : ty σ H fun y H1 => td σ H1 (Dib y Q)) : tDIn ty td σ H Q := h
theorem rd_dnin {ty td : TE} (h : ty σ H fun y H1 => td σ H1 (Dnb y Q)) : tDNotIn ty td σ H Q := h
theorem rd_dinI {a : Addr} {k : Int} {kvs : List (Key × V)} (h : H a = some (.dK kvs)) (q : Q (.bl (valV kvs (.inl k)).isSome) H) : Dib (.int k) Q (.ref a) H := ⟨a, _, rfl, DGet.k (k := .inl k) h, q⟩
theorem rd_dinS {a : Addr} {k : Str} {kvs : List (Key × V)} (h : H a = some (.dK kvs)) (q : Q (.bl (valV kvs (.inr k)).isSome) H) : Dib (.str k) Q (.ref a) H := ⟨a, _, rfl, DGet.k (k := .inr k) h, q⟩
theorem rd_dninI {a : Addr} {k : Int} {kvs : List (Key × V)} (h : H a = some (.dK kvs)) (q : Q (.bl (!(valV kvs (.inl k)).isSome)) H) : Dnb (.int k) Q (.ref a) H := ⟨a, _, rfl, DGet.k (k := .inl k) h, q⟩
theorem rd_dninS {a : Addr} {k : Str} {kvs : List (Key × V)} (h : H a = some (.dK kvs)) (q : Q (.bl (!(valV kvs (.inr k)).isSome)) H) : Dnb (.str k) Q (.ref a) H := ⟨a, _, rfl, DGet.k (k := .inr k) h, q⟩
/-- d.pop(k) -/
def Dpp (ty : TE) (σ : L2.St) (Q : VK) : VK := fun x H1 => ∃ a, x = .ref a ∧ IsD H1 a ∧ ty σ H1 fun y H2 => ∃ kvs k v, H2 a = some (.dK kvs) ∧ y = kV k ∧ valV kvs k = some v ∧ Q v (upd H2 a (.dK (dropK kvs k)))
def Dppb (a : Addr) (Q : VK) : VK := fun y H2 => ∃ kvs k v, H2 a = some (.dK kvs) ∧ y = kV k ∧ valV kvs k = some v ∧ Q v (upd H2 a (.dK (dropK kvs k)))
theorem rd_dpop1 {td ty : TE} (h : td σ H (Dpp ty σ Q)) : tDPop1 td ty σ H Q := h
theorem rd_dpp {ty : TE} {a : Addr} {kvs : List (Key × V)} (h : H a = some (.dK kvs)) (q : ty σ H (Dppb a Q)) : Dpp ty σ Q (.ref a) H := ⟨a, rfl, .inl ⟨kvs, .inl h⟩, q⟩
theorem rd_dppI {a : Addr} {k : Int} {kvs : List (Key × V)} (h : H a = some (.dK kvs)) (l : valV kvs (.inl k) = some v) (q : Q v (upd H a (.dK (dropK kvs (.inl k))))) : Dppb a Q (.int k) H := ⟨kvs, .inl k, v, h, rfl, l, q⟩
/-! #### a written dict -/
def DispK (p : Addr) (Q : VK) : List (V × V) → Hp → Prop := fun ps H2 => H2 p = some (.dK []) ∧ ∃ kvs : List (Key × V), ps = kvs.map (fun kv => (kV kv.1, kv.2)) ∧ kvs.length ≤ 15 ∧ Q (.ref p) (upd H2 p (.dK (mergeK [] kvs)))
theorem rd_disp {trs : List (TE × TE)} (q : ∀ p, H p = none → tPairs trs σ (upd H p (.dK [])) (DispK p Q)) : tDisp trs σ H Q := q
theorem rd_pairsC {tk tv : TE} {r : List (TE × TE)} {P : List (V × V) → Hp → Prop} (h : tk σ H fun k H1 => tv σ H1 fun v H2 => tPairs r σ H2 fun ps H3 => P ((k, v) :: ps) H3) : tPairs ((tk, tv) :: r) σ H P := h
theorem rd_pairsN {P : List (V × V) → Hp → Prop} (h : P [] H) : tPairs [] σ H P := h
theorem rd_dispK {p : Addr} {ps : List (V × V)} (kvs : List (Key × V)) (h : H p = some (.dK [])) (e : ps = kvs.map fun kv => (kV kv.1, kv.2)) (l : kvs.length ≤ 15) (m : mergeK [] kvs = kvs) (q : Q (.ref p) (upd H p (.dK kvs))) : DispK p Q ps H := ⟨h, kvs, e, l, by rw [m]; exact q⟩
/-! #### a, b = x, y -/
def ParK (i j : Nat) (D : Ends) (σ : L2.St) : List V → Hp → Prop := fun vs H1 => ∃ v w, vs = [v, w] ∧ D.nx ((σ.set i (some v)).set j (some w)) H1
theorem rd_par {i j : Nat} {ta : TA} {D : Ends} (h : ta σ H (ParK i j D σ)) : tPar i j ta D σ H := h
theorem rd_parK {i j : Nat} {D : Ends} {w : V} (q : D.nx ((σ.set i (some v)).set j (some w)) H) : ParK i j D σ [v, w] H := ⟨v, w, rfl, q⟩
/-! #### sorted, sum -/
def rSrtDI : List V → Hp → VK → Prop := fun xs H Q => ∃ (a : Addr) (kvs : List (Key × V)) (ks : List Int), xs = [.ref a] ∧ Rd H a (.dK kvs) ∧ kvs.map (·.1) = ks.map Sum.inl ∧ ks.length < 64 ∧
    ∀ (ys : List Int) (p : Addr), ys.Perm ks → ys.Pairwise (· ≤ ·) → H p = none → Q (.ref p) (upd H p (.lst (ys.map V.int)))
theorem sortDI {X : Cx} (hc : X.calm = true) : CallR X (.builtin "sorted") rSrtDI := call_sortedDI hc
theorem sortIK {X : Cx} (h : X.K = K) : CallR X (.builtin "sorted") (rSortedI K) := h ▸ cr_sortedI
theorem sumK {X : Cx} (h : X.K = K) (hc : X.calm = true) : CallR X (.builtin "sum") (rSum K) := h ▸ cr_sum hc
theorem rd_sum {p : Addr} {ns : List Int} (h : SqL K H p (ns.map V.int)) (q : Q (.int ns.sum) H) : rSum K [.ref p] H Q := ⟨p, ns, rfl, h, q⟩
theorem rd_srtDI {a : Addr} {kvs : List (Key × V)} {ks : List Int} (h : H a = some (.dK kvs)) (hk : kvs.map (·.1) = ks.map Sum.inl) (hl : ks.length < 64) (q : ∀ (ys : List Int) (p : Addr) (H' : Hp), ys.Perm ks → ys.Pairwise (· ≤ ·) → H p = none → Same H H' → H' p = some (.lst (ys.map V.int)) → Q (.ref p) H') : rSrtDI [.ref a] H Q :=
  ⟨a, kvs, ks, rfl, .inl h, hk, hl, fun ys p h1 h2 hp => q ys p _ h1 h2 hp (fun b x e => by rw [upd_ne (ne_of_none e hp)]; exact e) upd_same⟩
theorem rd_srtI {a : Addr} {ns : List Int} (h : SqL K H a (ns.map V.int)) (q : ∀ (ys : List Int) (p : Addr) (H' : Hp), ys.Perm ns → ys.Pairwise (· ≤ ·) → H p = none → Same H H' → H' p = some (.lst (ys.map V.int)) → Q (.ref p) H') : rSortedI K [.ref a] H Q :=
  ⟨a, ns, rfl, h, fun ys p h1 h2 hp => q ys p _ h1 h2 hp (fun b x e => by rw [upd_ne (ne_of_none e hp)]; exact e) upd_same⟩
/-- a tuple times a number; the last item taken out -/
theorem repTK {X : Cx} (h : X.K = K) : OpR X (binaryOp .Mult) (rRepT K) := h ▸ op_repT
theorem rd_repT {l : Addr} {xs : List V} {k : Int} (h : SqT K H l xs) (ne : xs ≠ []) (k0 : 2 ≤ k) (k1 : k ≤ 1000) (hl : xs.length ≤ 1000) (q : ∀ (p : Addr) (H' : Hp), Same H H' → H' p = some (.tup (List.replicate k.toNat xs).flatten) → Q (.ref p) H') : rRepT K (.ref l) (.int k) H Q :=
  ⟨l, k, xs, rfl, rfl, h, ne, k0, k1, hl, fun p hp => q p _ (fun b x e => by rw [upd_ne (ne_of_none e hp)]; exact e) upd_same⟩
theorem rd_pop {l : Addr} {xs : List V} {y : V} (h : H l = some (.lst (xs ++ [y]))) (q : Q y (upd H l (.lst xs))) : rPop (.ref l) [] H Q := by
  refine ⟨l, xs ++ [y], y, rfl, rfl, h, by rw [List.length_append]; simp, ?_⟩
  rw [List.dropLast_concat]
  exact q
theorem rd_bm0 {T : String} {rr : V → List V → Hp → VK → Prop} {te : TE} (h : te σ H fun x H1 => tyV K T x H1 ∧ rr x [] H1 Q) : tBM0 K T rr te σ H Q := h
/-- reversed(list) in a for -/
theorem pi_revK {X : Cx} {tg e : Expr} {ta : TA} {p pos : Pos} (h : X.K = K) (hg : Gl X "reversed") (hm : X.mg "reversed" = none) (ha : PA X [e] ta) (hs : starEach [e] X.env = [(false, eval e X.env)] := by rfl) : PI X tg (.Call (.Name "reversed" p) [e] [] pos) (iRev K ta) := h ▸ pi_reversed hg hm ha hs
def RevIt (K : PySem.W.Frag) (R : It → Hp → Prop) : List V → Hp → Prop := fun vs H1 => ∃ (a : Addr) (xs : List V), vs = [.ref a] ∧ SqL K H1 a xs ∧ R (Itv K a xs.length) H1
theorem rd_irev {ta : TA} {R : It → Hp → Prop} (h : ta σ H (RevIt K R)) : iRev K ta σ H R := h
theorem rd_irevK {R : It → Hp → Prop} {a : Addr} {xs : List V} (h : SqL K H a xs) (q : R (Itv K a xs.length) H) : RevIt K R [.ref a] H := ⟨a, xs, rfl, h, q⟩
theorem rd_rep {l : Addr} {xs : List V} {k : Int} (h : H l = some (.lst xs)) (k0 : 0 ≤ k) (k1 : k ≤ 1000) (hl : xs.length ≤ 1000) (q : ∀ (p : Addr) (H' : Hp), H p = none → Same H H' → H' p = some (.lst (List.replicate k.toNat xs).flatten) → Q (.ref p) H') : rRep (.ref l) (.int k) H Q :=
  ⟨l, k, xs, rfl, rfl, h, by omega, by omega, Nat.le_trans (Nat.mul_le_mul hl (show k.toNat ≤ 1000 by omega)) (by decide), fun p hp => q p _ hp (fun b x e => by rw [upd_ne (ne_of_none e hp)]; exact e) upd_same⟩
theorem rd_clear {l : Addr} {xs : List V} (h : H l = some (.lst xs)) (q : Q .non (upd H l (.lst []))) : rClear (.ref l) [] H Q := ⟨l, xs, rfl, rfl, h, q⟩
/-- the last item put otherwise -/
theorem rd_setLast {p : Addr} {xs : List V} {x : V} {P : Hp → Prop} (h : H p = some (.lst (xs ++ [x]))) (q : P (upd H p (.lst (xs ++ [v])))) : rSetL (.ref p) (.int (-1)) v H P := by
  refine rd_setL h (j := xs.length) ?_ ?_
  · unfold ixN
    rw [List.length_append, if_neg (by decide), if_pos (by simp; omega)]
    congr 1
    simp
    omega
  · have e : (xs ++ [x]).set xs.length v = xs ++ [v] := by simp
    rw [e]
    exact q
/-- extend; remove -/
theorem rd_extend {l b : Addr} {xs zs : List V} (h : H l = some (.lst xs)) (h2 : H b = some (.lst zs)) (hz : xs.length + zs.length ≤ 100000) (q : Q .non (upd H l (.lst (xs ++ zs)))) : rExtend (.ref l) [.ref b] H Q := ⟨l, b, xs, zs, rfl, rfl, h, h2, Nat.le_trans hz (by decide), q⟩
theorem rd_remove {l : Addr} {ns : List Int} {k : Int} (h : H l = some (.lst (ns.map V.int))) (m : k ∈ ns) (q : Q .non (upd H l (.lst ((ns.erase k).map V.int)))) : rRemI (.ref l) [.int k] H Q := by
  obtain ⟨i, hi⟩ := List.getElem?_of_mem m
  have hlt : ns.idxOf k < ns.length := List.idxOf_lt_length_of_mem m
  refine ⟨l, ns, k, ns.idxOf k, rfl, rfl, h, ?_, fun j hj e => ?_, ?_⟩
  · rw [List.getElem?_eq_getElem hlt, List.getElem_idxOf]
  · have hj2 : j < ns.length := Nat.lt_trans hj hlt
    rw [List.getElem?_eq_getElem hj2] at e
    exact absurd (beq_iff_eq.mpr (Option.some.inj e)) (by simpa using List.not_of_lt_findIdx (p := (· == k)) hj)
  · rw [← List.erase_eq_eraseIdx_of_idxOf rfl]
    exact q
end
end My
local macro_rules | `(tactic| walk_at "rd1") => `(tactic| first
  | (with_reducible refine My.rd_dget2 ?_)
  | (with_reducible refine My.rd_dget1 ?_)
  | (with_reducible refine My.rd_dget ?_)
  | (with_reducible refine My.rd_dgt ?_)
  | (with_reducible refine My.rd_dput ?_)
  | (with_reducible refine My.rd_dpt ?_)
  | (with_reducible refine My.rd_dpta ?_)
  | (with_reducible refine My.rd_din ?_)
  | (with_reducible refine My.rd_dnin ?_)
  | (with_reducible refine My.rd_dpop1 ?_)
  | (with_reducible refine My.rd_pairsC ?_)
  | (with_reducible refine My.rd_pairsN ?_)
  | (with_reducible refine My.rd_par ?_)
  | (with_reducible refine My.rd_irev ?_)
  | (with_reducible refine My.rd_bm0 ?_)
  | (with_reducible refine My.rd_parK ?_)
  | ((with_reducible refine My.rd_dg2 (kvs := ?kk) ?hd ?_); (case hd => walk_at "hp"))
  | ((with_reducible refine My.rd_dg2I (kvs := ?kk) ?hd ?_); (case hd => walk_at "hp"))
  | ((with_reducible refine My.rd_dg2S (kvs := ?kk) ?hd ?_); (case hd => walk_at "hp"))
  | ((with_reducible refine My.rd_dg1 (kvs := ?kk) ?hd ?_); (case hd => walk_at "hp"))
  | ((with_reducible refine My.rd_dg1I (kvs := ?kk) ?hd ?_); (case hd => walk_at "hp"))
  | ((with_reducible refine My.rd_dg1S (kvs := ?kk) ?hd ?_); (case hd => walk_at "hp"))
  | ((with_reducible refine My.rd_dinI (kvs := ?kk) ?hd ?_); (case hd => walk_at "hp"))
  | ((with_reducible refine My.rd_dinS (kvs := ?kk) ?hd ?_); (case hd => walk_at "hp"))
  | ((with_reducible refine My.rd_dninI (kvs := ?kk) ?hd ?_); (case hd => walk_at "hp"))
  | ((with_reducible refine My.rd_dninS (kvs := ?kk) ?hd ?_); (case hd => walk_at "hp"))
  | ((with_reducible refine My.rd_dpp (kvs := ?kk) ?hd ?_); (case hd => walk_at "hp")))

/-! ### P0Z: zip of two sources, each a list, a tuple or a text -/
namespace My
open PySem PySem.Spec PyProof.Rows L2
inductive Src where
  | L (a : Addr)
  | T (a : Addr)
  | S (z : Str)
def Src.v : Src → V
  | .L a => .ref a
  | .T a => .ref a
  | .S z => .str z
def signsV (z : Str) : List V := z.cps.toList.map fun c => V.str ⟨#[c]⟩
/-- the items of a source -/
def SrcAt (K : PySem.W.Frag) (H : Hp) : Src → List V → Prop
  | .L a, xs => SqL K H a xs
  | .T a, xs => SqT K H a xs
  | .S z, xs => xs = signsV z
/-- an iterator over a source, at its turn k -/
def Iat (t : Tok) (it : Addr) (k : Nat) (h : Heap) : Src → Prop
  | .L a => h.IsListIter it a k
  | .T a => h.IsTupleIter it a k
  | .S z => h.IsStrIter it (strIterType z) z t k
/-- a source stands apart from an address -/
def Src.off (s : Src) (b : Addr) : Prop := ∀ a, s.v = .ref a → a ≠ b
theorem Iat.obj {t : Tok} {it : Addr} {k : Nat} {h : Heap} : ∀ {s : Src}, Iat t it k h s → ∃ o, h.get? it = some o ∧ ∀ v, o.data ≠ .cell v
  | .L _, ⟨o, e, _, d⟩ => ⟨o, e, fun v q => by rw [d] at q; cases q⟩
  | .T _, ⟨o, e, _, d⟩ => ⟨o, e, fun v q => by rw [d] at q; cases q⟩
  | .S _, ⟨o, e, _, d⟩ => ⟨o, e, fun v q => by rw [d] at q; cases q⟩
theorem Iat.at {t : Tok} {it : Addr} {k : Nat} {h h' : Heap} (q : ∀ o, h.get? it = some o → h'.get? it = some o) : ∀ {s : Src}, Iat t it k h s → Iat t it k h' s
  | .L _, i => Heap.IsListIter.at i q
  | .T _, i => Heap.IsTupleIter.at i q
  | .S _, ⟨o, e, r⟩ => ⟨o, q o e, r⟩
section
variable {X : Cx} {pins : List (Addr × Obj)} {σ : L2.St} {H : Hp} {s : Shared}
/-- what such an iterator draws -/
theorem drawsS (I : Inv X pins σ H s) (t : Tok) (it : Addr) {A : Around} (hA : A.handled = none) : ∀ {sr : Src} {xs : List V}, SrcAt X.K H sr xs → sr.off it →
    ∃ (fp : List Addr) (Pd : Nat → Value → Prop) (St : Nat → Heap → Prop), Draws X.prog X.w A it fp xs.length Pd St ∧ it ∈ fp ∧ (∀ b ∈ fp, b = it ∨ sr.v = .ref b) ∧ (∀ k, Iat t it k s.heap sr → St k s.heap) ∧ (∀ k h, St k h → Iat t it k h sr) ∧
      ∀ k u, Pd k u → ∃ x, xs[k]? = some x ∧ RelV x u
  | .L a, xs, h, ho => by
    obtain ⟨us, rv, p, _⟩ := I.list h
    have D := Draws.list (prog := X.prog) (w := X.w) hA it a (ho a rfl) us.toArray
    rw [List.size_toArray, ← rv.length] at D
    refine ⟨_, _, _, D, by simp, fun b hb => ?_, fun k q => ⟨q, p.isList⟩, fun k h q => q.1, fun k u q => ?_⟩
    · rcases List.mem_cons.mp hb with rfl | hb
      · exact .inl rfl
      · exact .inr (by rw [List.mem_singleton.mp hb]; rfl)
    · have hk : us[k]? = some u := by simpa using q
      have hlt : k < xs.length := by
        rw [rv.length]
        exact (List.getElem?_eq_some_iff.mp hk).1
      exact ⟨xs[k], get_of hlt, vals_at rv k _ _ (get_of hlt) hk⟩
  | .T a, xs, h, ho => by
    obtain ⟨us, rv, p, _⟩ := I.tuple h
    have D := Draws.tuple (prog := X.prog) (w := X.w) hA it a (ho a rfl) us.toArray
    rw [List.size_toArray, ← rv.length] at D
    refine ⟨_, _, _, D, by simp, fun b hb => ?_, fun k q => ⟨q, p⟩, fun k h q => q.1, fun k u q => ?_⟩
    · rcases List.mem_cons.mp hb with rfl | hb
      · exact .inl rfl
      · exact .inr (by rw [List.mem_singleton.mp hb]; rfl)
    · have hk : us[k]? = some u := by simpa using q
      have hlt : k < xs.length := by
        rw [rv.length]
        exact (List.getElem?_eq_some_iff.mp hk).1
      exact ⟨xs[k], get_of hlt, vals_at rv k _ _ (get_of hlt) hk⟩
  | .S z, xs, h, ho => by
    cases (show xs = signsV z from h)
    have D := Draws.text (prog := X.prog) (w := X.w) hA it z t
    have e : z.cps.size = (signsV z).length := by simp [signsV]
    rw [e] at D
    refine ⟨_, _, _, D, by simp, fun b hb => .inl (List.mem_singleton.mp hb), fun k q => q, fun k h q => q, fun k u q => ?_⟩
    obtain ⟨c, t1, hc, rfl⟩ := q
    exact ⟨.str ⟨#[c]⟩, by simp [signsV, hc], ⟨_, rfl⟩⟩
/-- how its iterator begins -/
theorem beginsS (I : Inv X pins σ H s) : ∀ {sr : Src} {xs : List V} {u : Value}, SrcAt X.K H sr xs → RelV sr.v u → ∃ (t : Tok) (o : Obj) (B : Heap → Prop), Begins u o B ∧ B s.heap ∧ (∀ h it, h.get? it = some o → Iat t it 0 h sr) ∧ ∀ a, sr.v = .ref a → a < s.heap.objs.size
  | .L a, xs, u, h, r => by
    cases (show u = Value.ref a from r)
    obtain ⟨us, rv, p, _⟩ := I.list h
    exact ⟨0, _, _, begins_list a us.toArray, p.isList, fun h it e => ⟨_, e, rfl, rfl⟩, fun b e => by cases e; exact p.lt⟩
  | .T a, xs, u, h, r => by
    cases (show u = Value.ref a from r)
    obtain ⟨us, rv, p, _⟩ := I.tuple h
    obtain ⟨o1, ho1, _⟩ := id p
    exact ⟨0, _, _, begins_tuple a us.toArray, p, fun h it e => ⟨_, e, rfl, rfl⟩, fun b e => by cases e; exact Heap.lt_size ho1⟩
  | .S z, xs, u, h, r => by
    obtain ⟨t, rfl⟩ := (show ∃ t, u = Value.str z t from r)
    exact ⟨t, _, _, begins_text z t, trivial, fun h it e => ⟨_, e, rfl, rfl⟩, fun b e => nomatch e⟩
theorem SrcAt.inj (I : Inv X pins σ H s) : ∀ {sr : Src} {xs ys : List V}, SrcAt X.K H sr xs → SrcAt X.K H sr ys → xs = ys
  | .L _, _, _, h, h' => I.list_inj h h'
  | .T _, _, _, h, h' => I.tuple_inj h h'
  | .S _, _, _, h, h' => Eq.trans h (Eq.symm h')
end
/-- the two sources as they stand at each turn, the items in new pairs -/
def ItzS (K : PySem.W.Frag) (a b : Src) : It :=
  ⟨fun i H => ∃ (xs ys : List V), SrcAt K H a xs ∧ SrcAt K H b ys ∧ i < xs.length ∧ i < ys.length,
    fun i H v H' => ∃ T x y, v = .ref T ∧ H T = none ∧ H' = upd H T (.tup [x, y]) ∧ (∀ xs, SrcAt K H a xs → xs[i]? = some x) ∧ ∀ ys, SrcAt K H b ys → ys[i]? = some y,
    fun i H => ∃ xs ys : List V, SrcAt K H a xs ∧ SrcAt K H b ys ∧ i ≤ xs.length ∧ i ≤ ys.length ∧ (i = xs.length ∨ i = ys.length)⟩
/-- five cells apart, and from the sources -/
structure Zap (z TI TO i1 i2 : Addr) (a b : Src) : Prop where
  nd : [z, TI, TO, i1, i2].Nodup
  oa : ∀ c ∈ [z, TI, TO, i1, i2], a.off c
  ob : ∀ c ∈ [z, TI, TO, i1, i2], b.off c
theorem Zap.sep {z TI TO i1 i2 : Addr} {a b : Src} (D : Zap z TI TO i1 i2 a b) {fp1 fp2 : List Addr} (m1 : i1 ∈ fp1) (m2 : i2 ∈ fp2) (h1 : ∀ c ∈ fp1, c = i1 ∨ a.v = .ref c) (h2 : ∀ c ∈ fp2, c = i2 ∨ b.v = .ref c) : ZipSep2 z TI TO i1 i2 fp1 fp2 := by
  have nd := D.nd
  simp only [List.nodup_cons, List.mem_cons, List.not_mem_nil, or_false, not_or, List.nodup_nil, and_true, not_false_eq_true] at nd
  obtain ⟨⟨n1, n2, n3, n4⟩, ⟨n5, n6, n7⟩, ⟨n8, n9⟩, n10⟩ := nd
  have f1 : ∀ c, c ∈ [z, TI, TO, i1, i2] → c ≠ i1 → c ∉ fp1 := fun c hc hn hm => (h1 c hm).elim hn fun e => D.oa c hc c e rfl
  have f2 : ∀ c, c ∈ [z, TI, TO, i1, i2] → c ≠ i2 → c ∉ fp2 := fun c hc hn hm => (h2 c hm).elim hn fun e => D.ob c hc c e rfl
  exact ⟨Ne.symm n1, Ne.symm n2, n5, n6, m1, f1 _ (by simp) n3, f1 _ (by simp) n8, n7, m2, f2 _ (by simp) n4, f2 _ (by simp) n9, f2 _ (by simp) n10, f1 _ (by simp) (Ne.symm n10)⟩
def zipTn (z TI TO i1 i2 : Addr) (a b : Src) (t1 t2 : Tok) (i : Nat) (h : Heap) : Prop := IsZip h z TI TO .none ∧ IsTupOf2 h TI (.ref i1) (.ref i2) ∧ (∃ x y, IsTupOf2 h TO x y) ∧ Iat t1 i1 i h a ∧ Iat t2 i2 i h b
theorem turn_zipS {P : Program} {w : World} {K : PySem.W.Frag} {elts : List Expr} {kk : Nat} {tpos : Pos} {a b : Src} {t1 t2 : Tok} {z TI TO i1 i2 : Addr} (D : Zap z TI TO i1 i2 a b) :
    Turn P w K (.Tuple elts kk tpos) (ItzS K a b) [z, TI, TO, i1, i2] z (zipTn z TI TO i1 i2 a b t1 t2) := by
  have nd := D.nd
  simp only [List.nodup_cons, List.mem_cons, List.not_mem_nil, or_false, not_or, List.nodup_nil, and_true, not_false_eq_true] at nd
  obtain ⟨⟨n1, n2, n3, n4⟩, ⟨n5, n6, n7⟩, ⟨n8, n9⟩, n10⟩ := nd
  refine ⟨by simp, ?obj, ?keep, ?item, ?done, fun A i s Q E st h => wpAny_pyIter_zip st.1 h⟩
  case obj =>
    rintro i h ⟨hz, hTI, ⟨x, y, hTO⟩, h1, h2⟩ c hc
    simp only [List.mem_cons, List.not_mem_nil, or_false] at hc
    rcases hc with q | q | q | q | q <;> rw [q]
    · exact ⟨_, hz, fun v q => nomatch q⟩
    · exact ⟨_, hTI, fun v q => nomatch q⟩
    · exact ⟨_, hTO, fun v q => nomatch q⟩
    · exact h1.obj
    · exact h2.obj
  case keep =>
    rintro i h h' ⟨hz, hTI, ⟨x, y, hTO⟩, h1, h2⟩ k
    exact ⟨k z (by simp) _ hz, k TI (by simp) _ hTI, ⟨x, y, k TO (by simp) _ hTO⟩, h1.at fun o q => k i1 (by simp) o q, h2.at fun o q => k i2 (by simp) o q⟩
  case item =>
    intro X hP hw hK hc i pins s σ H E I hf st hg
    subst hP hw hK
    obtain ⟨hz, hTI, ⟨x0, y0, hTO⟩, h1, h2⟩ := st
    obtain ⟨xs, ys, hqx, hqy, lx, ly⟩ := hg
    have hh : X.A.in1.handled = none := I.ok.hd hc
    obtain ⟨fp1, P1, St1, D1, m1, u1, b1, e1, r1⟩ := drawsS I t1 i1 hh hqx (D.oa i1 (by simp))
    obtain ⟨fp2, P2, St2, D2, m2, u2, b2, e2, r2⟩ := drawsS I t2 i2 hh hqy (D.ob i2 (by simp))
    have S := D.sep m1 m2 u1 u2
    have hzl : z < s.heap.objs.size := Heap.lt_size hz
    refine wpAny_pyNext_zipD2_item S D1 D2 hz hTI hTO (b1 i h1) (b2 i h2) lx ly fun w1 w2 hp' tk p1 p2 z' TO' s1' s2' hT hsz hk => ?_
    obtain ⟨x, hx, rx⟩ := r1 i w1 p1
    obtain ⟨y, hy, ry⟩ := r2 i w2 p2
    refine ⟨_, rfl, wpAny_letOwnedTupleGo_zip (s := { s with heap := hp', toks := tk }) z' fun hp2 z2 sb => ?_⟩
    have hT2 : hp2.get? s.heap.objs.size = some { cls := .type "tuple", data := .seq #[w1, w2] } := (sb.2 _ (Nat.ne_of_gt hzl)).trans hT
    have new : ObjOk X.prog X.w (upd H s.heap.objs.size (.tup [x, y])) hp2 s.heap.objs.size (.tup [x, y]) := ⟨(by decide : 2 ≤ sizeLine), [w1, w2], .cons rx (.cons ry .nil), ⟨_, hT2, rfl, _, rfl⟩⟩
    have go : ∀ c o, c ∉ [z, TI, TO, i1, i2] → s.heap.get? c = some o → hp2.get? c = some o := fun c o hb q => by
      simp only [List.mem_cons, List.not_mem_nil, or_false, not_or] at hb
      exact (sb.2 c hb.1).trans (hk c o hb.1 hb.2.2.1 hb.2.2.2.1 hb.2.2.2.2 q)
    have I1 : Inv X pins σ (upd H s.heap.objs.size (.tup [x, y])) { s with heap := hp2, toks := tk } := I.turnedNew (ch := [z, TI, TO, i1, i2]) go hf (Nat.le_refl _) new
    refine ⟨.ref s.heap.objs.size, _, I1, rfl, ⟨_, x, y, rfl, I.hok.fresh (Nat.le_refl _), rfl, fun l hl => by rw [SrcAt.inj I hl hqx]; exact hx, fun l hl => by rw [SrcAt.inj I hl hqy]; exact hy⟩, ⟨z2, ?_, ⟨w1, w2, ?_⟩, ?_, ?_⟩, fun c hcm => ?_⟩
    · exact (sb.2 _ (Ne.symm n1)).trans (hk _ _ (Ne.symm n1) n5 n6 n7 hTI)
    · exact (sb.2 _ (Ne.symm n2)).trans TO'
    · exact (e1 _ _ s1').at fun o q => (sb.2 _ (Ne.symm n3)).trans q
    · exact (e2 _ _ s2').at fun o q => (sb.2 _ (Ne.symm n4)).trans q
    · have hlt : c < s.heap.objs.size := by
        simp only [List.mem_cons, List.not_mem_nil, or_false] at hcm
        rcases hcm with q | q | q | q | q <;> rw [q]
        · exact hzl
        · exact Heap.lt_size hTI
        · exact Heap.lt_size hTO
        · obtain ⟨o, e, _⟩ := h1.obj
          exact Heap.lt_size e
        · obtain ⟨o, e, _⟩ := h2.obj
          exact Heap.lt_size e
      rw [upd_ne (Nat.ne_of_lt hlt)]
      exact (hf c hcm).1
  case done =>
    intro X hP hw hK hc i pins s σ H E I hf st hg
    subst hP hw hK
    obtain ⟨hz, hTI, ⟨x0, y0, hTO⟩, h1, h2⟩ := st
    obtain ⟨xs, ys, hqx, hqy, lx, ly, hend⟩ := hg
    have hh : X.A.in1.handled = none := I.ok.hd hc
    obtain ⟨fp1, P1, St1, D1, m1, u1, b1, e1, r1⟩ := drawsS I t1 i1 hh hqx (D.oa i1 (by simp))
    obtain ⟨fp2, P2, St2, D2, m2, u2, b2, e2, r2⟩ := drawsS I t2 i2 hh hqy (D.ob i2 (by simp))
    refine wpAny_pyNext_zipD2_end (D.sep m1 m2 u1 u2) D1 D2 hz hTI hTO (b1 i h1) (b2 i h2) lx ly hend fun hp' tk hk => ⟨rfl, I.turnedL (ch := [z, TI, TO, i1, i2]) (fun c o hb q => ?_) hf⟩
    simp only [List.mem_cons, List.not_mem_nil, or_false, not_or] at hb
    exact hk c o hb.1 hb.2.2.1 hb.2.2.2.1 hb.2.2.2.2 q
def iZipS (K : PySem.W.Frag) (ta : TA) : TI := fun σ H R => ta σ H fun vs H1 => ∃ (a b : Src) (xs ys : List V), vs = [a.v, b.v] ∧ SrcAt K H1 a xs ∧ SrcAt K H1 b ys ∧ R (ItzS K a b) H1
theorem pi_zipS {X : Cx} {e e2 : Expr} {ta : TA} {p pos tpos : Pos} {elts : List Expr} {kk : Nat} {K : PySem.W.Frag} (hK : X.K = K) (hg : Gl X "zip") (hm : X.mg "zip" = none) (ha : PA X [e, e2] ta)
    (hs : starEach [e, e2] X.env = (false, eval e X.env) :: starEach [e2] X.env := by rfl) (hpl : (backTo pos (starEach [e2] X.env)).any (·.1) = false := by rfl) :
    PI X (.Tuple elts kk tpos) (.Call (.Name "zip" p) [e, e2] [] pos) (iZipS K ta) := by
  subst hK
  refine ⟨fun pins s σ H R I h => ?_⟩
  refine Call_ (ld_blt I hg hm PyProof.Rows.boot_zip (PyProof.Rows.callWith_type1 (thn (ha.run pos pins s σ H _ I h) fun us s1 ⟨vs, H1, I1, r1, q1⟩ => ?_) hs hpl))
  obtain ⟨a, b, xs, ys, ex, hqx, hqy, q⟩ := q1
  subst ex
  obtain ⟨u1, r2, e1, ra, rr⟩ : ∃ u1 r2, us = u1 :: r2 ∧ RelV a.v u1 ∧ Vals [b.v] r2 := by
    cases r1 with
    | cons h1 h2 => exact ⟨_, _, rfl, h1, h2⟩
  obtain ⟨u2, e2, rb⟩ := vals1 rr
  subst e2
  subst e1
  · skip
    obtain ⟨t1, o1, B1, bg1, hb1, it1, lt1⟩ := beginsS I1 hqx ra
    obtain ⟨t2, o2, B2, bg2, hb2, it2, lt2⟩ := beginsS I1 hqy rb
    refine zip_begins2 bg1 bg2 hb1 hb2 fun hp' hz hTI hTO g1 g2 hsz hk => wpAny_pyIter_zip hz ?_
    have I2 : Inv X pins σ H1 { s1 with heap := hp' } := I1.kept (t' := s1.toks) hk
    have fresh : ∀ c, c ∈ [s1.heap.objs.size + 4, s1.heap.objs.size + 2, s1.heap.objs.size + 3, s1.heap.objs.size, s1.heap.objs.size + 1] → s1.heap.objs.size ≤ c := fun c hcm => by
      simp only [List.mem_cons, List.not_mem_nil, or_false] at hcm
      omega
    have Z : Zap (s1.heap.objs.size + 4) (s1.heap.objs.size + 2) (s1.heap.objs.size + 3) s1.heap.objs.size (s1.heap.objs.size + 1) a b := by
      refine ⟨?_, fun c hc d e => ?_, fun c hc d e => ?_⟩
      · simp only [List.nodup_cons, List.mem_cons, List.not_mem_nil, or_false, not_or, List.nodup_nil, and_true, not_false_eq_true]
        refine ⟨⟨?_, ?_, ?_, ?_⟩, ⟨?_, ?_, ?_⟩, ⟨?_, ?_⟩, ?_⟩ <;> exact fun e => absurd (show (_ : Nat) = _ from e) (by omega)
      · exact Nat.ne_of_lt (Nat.lt_of_lt_of_le (lt1 d e) (fresh c hc))
      · exact Nat.ne_of_lt (Nat.lt_of_lt_of_le (lt2 d e) (fresh c hc))
    exact ⟨_, _, _, _, H1, rfl, I2, turn_zipS (t1 := t1) (t2 := t2) Z, ⟨hz, hTI, ⟨_, _, hTO⟩, it1 _ _ g1, it2 _ _ g2⟩, fun c hc => I1.fpOk (fresh c hc) (I1.hok.fresh (fresh c hc)), q⟩
theorem walk_zipS {K : PySem.W.Frag} {a b : Src} {xs ys : List V} {n : Nat} (hn : n = min xs.length ys.length) : Walk (ItzS K a b) n (fun H => SrcAt K H a xs ∧ SrcAt K H b ys) (YPair (fun i => xs[i]?) (fun i => ys[i]?)) := by
  subst hn
  refine ⟨fun i _ hi q => ⟨xs, ys, q.1, q.2, by omega, by omega⟩, fun _ q => ⟨xs, ys, q.1, q.2, by omega, by omega, by omega⟩, fun i H v H' _ q y => ?_⟩
  obtain ⟨T, x, u, e1, e2, e3, e4, e5⟩ := y
  exact ⟨T, x, u, e1, e2, e3, e4 xs q.1, e5 ys q.2⟩
theorem rd_zipS {K : PySem.W.Frag} {tr : TA} {σ : L2.St} {H : Hp} {R : It → Hp → Prop} (h : tr σ H fun vs H1 => ∃ (a b : Src) (xs ys : List V), vs = [a.v, b.v] ∧ SrcAt K H1 a xs ∧ SrcAt K H1 b ys ∧ R (ItzS K a b) H1) : iZipS K tr σ H R := h
/-! #### enumerate of a list, a tuple, a text -/
def ItnS (K : PySem.W.Frag) (a : Src) : It :=
  ⟨fun i H => ∃ xs : List V, SrcAt K H a xs ∧ i < xs.length,
    fun i H v H' => ∃ T x, v = .ref T ∧ H T = none ∧ H' = upd H T (.tup [.int (i : Nat), x]) ∧ ∀ xs, SrcAt K H a xs → xs[i]? = some x,
    fun i H => ∃ xs : List V, SrcAt K H a xs ∧ i = xs.length⟩
def enumTn (e it : Addr) (a : Src) (t : Tok) (i : Nat) (h : Heap) : Prop := (∃ old, IsEnum h e it ((i : Nat) : Int) old) ∧ Iat t it i h a
theorem turn_enumS {P : Program} {w : World} {K : PySem.W.Frag} {elts : List Expr} {kk : Nat} {tpos : Pos} {a : Src} {t : Tok} {e it : Addr} (ne : e ≠ it) (oe : a.off e) (oi : a.off it) :
    Turn P w K (.Tuple elts kk tpos) (ItnS K a) [e, it] e (enumTn e it a t) := by
  refine ⟨by simp, ?obj, ?keep, ?item, ?done, fun A i s Q E st h => st.1.elim fun _ he => wpAny_pyIter_enum he h⟩
  case obj =>
    rintro i h ⟨⟨old, he⟩, h1⟩ c hc
    simp only [List.mem_cons, List.not_mem_nil, or_false] at hc
    rcases hc with q | q <;> rw [q]
    · exact ⟨_, he, fun v q => nomatch q⟩
    · exact h1.obj
  case keep =>
    rintro i h h' ⟨⟨old, he⟩, h1⟩ k
    exact ⟨⟨old, k e (by simp) _ he⟩, h1.at fun o q => k it (by simp) o q⟩
  case item =>
    intro X hP hw hK hc i pins s σ H E I hf st hg
    subst hP hw hK
    obtain ⟨⟨old, he⟩, h1⟩ := st
    obtain ⟨xs, hq, lx⟩ := hg
    have hh : X.A.in1.handled = none := I.ok.hd hc
    obtain ⟨fp, Pd, St, D, m, u, b, back, r⟩ := drawsS I t it hh hq oi
    have hef : e ∉ fp := fun hm => (u e hm).elim ne fun q => oe e q rfl
    have hel : e < s.heap.objs.size := Heap.lt_size he
    refine wpAny_pyNext_enum_itemD D he (b i h1) lx ne hef fun w1 hp' tk p1 out st' hT hsz hk => ?_
    obtain ⟨x, hx, rx⟩ := r i w1 p1
    refine ⟨_, rfl, wpAny_letOwnedTupleGo_enum (s := { s with heap := hp', toks := tk + 1 }) out fun hp2 he2 sb => ?_⟩
    have hT2 : hp2.get? s.heap.objs.size = some { cls := .type "tuple", data := .seq #[.int i tk, w1] } := (sb.2 _ (Nat.ne_of_gt hel)).trans hT
    have new : ObjOk X.prog X.w (upd H s.heap.objs.size (.tup [.int (i : Nat), x])) hp2 s.heap.objs.size (.tup [.int (i : Nat), x]) := ⟨(by decide : 2 ≤ sizeLine), [.int i tk, w1], .cons ⟨_, rfl⟩ (.cons rx .nil), ⟨_, hT2, rfl, _, rfl⟩⟩
    have go : ∀ c o, c ∉ [e, it] → s.heap.get? c = some o → hp2.get? c = some o := fun c o hb q => by
      simp only [List.mem_cons, List.not_mem_nil, or_false, not_or] at hb
      exact (sb.2 c hb.1).trans (hk c o hb.1 hb.2 q)
    have I1 : Inv X pins σ (upd H s.heap.objs.size (.tup [.int (i : Nat), x])) { s with heap := hp2, toks := tk + 1 } := I.turnedNew (ch := [e, it]) go hf (Nat.le_refl _) new
    refine ⟨.ref s.heap.objs.size, _, I1, rfl, ⟨_, x, rfl, I.hok.fresh (Nat.le_refl _), rfl, fun l hl => by rw [SrcAt.inj I hl hq]; exact hx⟩, ⟨⟨w1, ?_⟩, ?_⟩, fun c hcm => ?_⟩
    · rw [show ((i + 1 : Nat) : Int) = (i : Int) + 1 by omega]
      exact he2
    · exact (back _ _ st').at fun o q => (sb.2 _ (Ne.symm ne)).trans q
    · have hlt : c < s.heap.objs.size := by
        simp only [List.mem_cons, List.not_mem_nil, or_false] at hcm
        rcases hcm with q | q <;> rw [q]
        · exact hel
        · obtain ⟨o, e1, _⟩ := h1.obj
          exact Heap.lt_size e1
      rw [upd_ne (Nat.ne_of_lt hlt)]
      exact (hf c hcm).1
  case done =>
    intro X hP hw hK hc i pins s σ H E I hf st hg
    subst hP hw hK
    obtain ⟨⟨old, he⟩, h1⟩ := st
    obtain ⟨xs, hq, rfl⟩ := hg
    have hh : X.A.in1.handled = none := I.ok.hd hc
    obtain ⟨fp, Pd, St, D, m, u, b, back, r⟩ := drawsS I t it hh hq oi
    refine wpAny_pyNext_enum_endD D he (b _ h1) fun hp' hk => ⟨rfl, I.turnedL (t' := s.toks) (ch := [e, it]) (fun c o hb q => ?_) hf⟩
    simp only [List.mem_cons, List.not_mem_nil, or_false, not_or] at hb
    exact hk c o hb.2 q
theorem enum_newB1 {v : Value} {o : Obj} {B : Heap → Prop} (bg : Begins v o B) : Meets (Builtin.«enumerate.__new__» ⟨[.type "enumerate", v], []⟩) (fun _ R s => B s.heap ∧
    R (.ok (.ret (.ref (s.heap.push o).objs.size))) { s with heap := (s.heap.push o).push { cls := .type "enumerate", data := .fields #[.none, .bool false, .ref s.heap.objs.size, rawInt 0, .none, .none] } }) :=
  .of_wp fun prog w A R s h => by
    obtain ⟨hp, g, d, tk, os⟩ := s
    obtain ⟨hB, h⟩ := h
    have hs := sub_enumerate
    have st : ∀ {A' : Around} {E Q : Value → Shared → Prop}, Q (.ref hp.objs.size) ⟨hp.push o, g, d, tk, os⟩ → wpAny (model prog w) A' (pyIter v) Q E ⟨hp, g, d, tk, os⟩ := fun q => bg.iter prog w _ _ ⟨hp, g, d, tk, os⟩ _ hB q
    wp_walk using st
    refine wpAny_stack_any fun st2 => wpAny_pure ?_
    split
    · rename_i c _ _ _ _ _
      cases (c == Value.type "enumerate") <;> (wp_walk using st; exact ⟨_, rfl, h⟩)
    · wp_walk using st
      exact ⟨_, rfl, h⟩
theorem enum_begins1 {prog : Program} {w : World} {A : Around} {E : Value → Shared → Prop} {s : Shared} {v : Value} {o : Obj} {B : Heap → Prop} {Q : Value → Shared → Prop} (bg : Begins v o B) (hB : B s.heap)
    (h : ∀ hp', IsEnum hp' (s.heap.objs.size + 1) s.heap.objs.size 0 .none → hp'.get? s.heap.objs.size = some o → (∀ b ob, s.heap.get? b = some ob → hp'.get? b = some ob) → Q (.ref (s.heap.objs.size + 1)) { s with heap := hp' }) : wpAny (model prog w) A (call (.type "enumerate") [v]) Q E s := by
  refine callType_new F.called_enumerate (by decide) (F.typeCall_enumerate_1 _) (F.newCall_enumerate_1 _) (fun obj => F.args_object_init_2 obj _) F.entry_enumerate_new (enum_newB1 bg) ⟨hB, ?_⟩
  have z1 : (s.heap.push o).objs.size = s.heap.objs.size + 1 := Heap.size_push ..
  have g1 : ((s.heap.push o).push { cls := .type "enumerate", data := .fields #[.none, .bool false, .ref s.heap.objs.size, rawInt 0, .none, .none] }).get? (s.heap.push o).objs.size = some { cls := .type "enumerate", data := .fields #[.none, .bool false, .ref s.heap.objs.size, rawInt 0, .none, .none] } := Heap.get?_push_size _ rfl
  rw [z1] at g1
  show _ ∧ _
  rw [z1]
  exact ⟨⟨_, g1, rfl⟩, h _ g1 (Heap.get?_push_of_some _ (Heap.get?_push_size _ bg.free)) fun b ob x => Heap.get?_push_of_some _ (Heap.get?_push_of_some _ x)⟩
def iEnumS (K : PySem.W.Frag) (ta : TA) : TI := fun σ H R => ta σ H fun vs H1 => ∃ (a : Src) (xs : List V), vs = [a.v] ∧ SrcAt K H1 a xs ∧ R (ItnS K a) H1
theorem pi_enumS {X : Cx} {e : Expr} {ta : TA} {p pos tpos : Pos} {elts : List Expr} {kk : Nat} {K : PySem.W.Frag} (hK : X.K = K) (hg : Gl X "enumerate") (hm : X.mg "enumerate" = none) (ha : PA X [e] ta) (hs : starEach [e] X.env = [(false, eval e X.env)] := by rfl) :
    PI X (.Tuple elts kk tpos) (.Call (.Name "enumerate" p) [e] [] pos) (iEnumS K ta) := by
  subst hK
  refine ⟨fun pins s σ H R I h => ?_⟩
  refine Call_ (ld_blt I hg hm boot_enumerate (PyProof.Rows.callWith_type1 (thn (ha.run pos pins s σ H _ I h) fun us s1 ⟨vs, H1, I1, r1, q1⟩ => ?_) hs rfl))
  obtain ⟨a, xs, ex, hq, q⟩ := q1
  subst ex
  obtain ⟨u1, e1, ra⟩ := vals1 r1
  subst e1
  obtain ⟨t1, o1, B1, bg1, hb1, it1, lt1⟩ := beginsS I1 hq ra
  refine enum_begins1 bg1 hb1 fun hp' he g1 hk => wpAny_pyIter_enum he ?_
  have I2 : Inv X pins σ H1 { s1 with heap := hp' } := I1.kept (t' := s1.toks) hk
  have fresh : ∀ c, c ∈ [s1.heap.objs.size + 1, s1.heap.objs.size] → s1.heap.objs.size ≤ c := fun c hcm => by
    simp only [List.mem_cons, List.not_mem_nil, or_false] at hcm
    omega
  exact ⟨_, _, _, _, H1, rfl, I2, turn_enumS (t := t1) (Nat.succ_ne_self _) (fun d e => Nat.ne_of_lt (Nat.lt_of_lt_of_le (lt1 d e) (fresh _ (by simp)))) (fun d e => Nat.ne_of_lt (lt1 d e)), ⟨⟨.none, he⟩, it1 _ _ g1⟩, fun c hc => I1.fpOk (fresh c hc) (I1.hok.fresh (fresh c hc)), q⟩
theorem walk_enumS {K : PySem.W.Frag} {a : Src} {xs : List V} : Walk (ItnS K a) xs.length (fun H => SrcAt K H a xs) (YPair (fun i => some (.int (i : Nat))) (fun i => xs[i]?)) := by
  refine ⟨fun i _ hi q => ⟨xs, q, hi⟩, fun _ q => ⟨xs, q, rfl⟩, fun i H v H' _ q y => ?_⟩
  obtain ⟨T, x, e1, e2, e3, e4⟩ := y
  exact ⟨T, .int (i : Nat), x, e1, e2, e3, rfl, e4 xs q⟩
theorem rd_enumS {K : PySem.W.Frag} {tr : TA} {σ : L2.St} {H : Hp} {R : It → Hp → Prop} (h : tr σ H fun vs H1 => ∃ (a : Src) (xs : List V), vs = [a.v] ∧ SrcAt K H1 a xs ∧ R (ItnS K a) H1) : iEnumS K tr σ H R := h
end My
local macro_rules | `(tactic| walk_at "rd1") => `(tactic| (with_reducible refine My.rd_zipS ?_))
local macro_rules | `(tactic| walk_at "rd1") => `(tactic| (with_reducible refine My.rd_enumS ?_))

/-! ### P0D: an empty dict: its repr, compared with a text -/
namespace My
open PySem PySem.Spec PyProof.Rows L2
theorem dictE_eq_str {b : Addr} {z : Str} {u : Tok} {prog : Program} {w : World} {A : Around} {E : Value → Shared → Prop} {Q : Value → Shared → Prop} {s : Shared} (hd : s.TypeIs (.ref b) "dict") (h : Q .notImplemented s) :
    wpAny (model prog w) A (call (.builtin "dict.__eq__") [.ref b, .str z u]) Q E s := by
  refine wpAny_call_entry PySem.F.slot_dict_eq hd PySem.F.entry_dict_eq ?_ (PySem.F.args_dict_eq_2 _ _)
  show wpAny _ _ (Builtin.Dict.dictSlotArgs "__eq__" ⟨[.ref b, .str z u], []⟩ >>= _) _ _ s
  refine wpAny_bind ?_
  unfold Builtin.Dict.dictSlotArgs
  refine wpAny_bind (wpAny_notOrdered_dict hd ?_)
  refine wpAny_pure ?_
  refine wpAny_bind (wpAny_isInstance (T := "str") (typeIs_str s z u) PySem.F.sub_str_dict ?_)
  simp only [Bool.not_false, if_true]
  refine wpAny_bind (wpAny_rule ?_)
  exact wpAny_pure ⟨_, rfl, h⟩
theorem str_eq_dictE (z : Str) (u : Tok) (l : Addr) (c : Value) (es : Array DictEntry) (n : Nat) (dd : Option Addr) (sl : Array (Option Value)) :
    Meets (Builtin.«str.__eq__» ⟨[.str z u, .ref l], []⟩) (fun _ R s => s.heap.get? l = some { cls := c, dict := dd, data := .dict es n, slots := sl } ∧ R (.ok (.ret .notImplemented)) s) :=
  .of_wp fun prog w A R s h => by obtain ⟨hp, g, d, tk, os⟩ := s; obtain ⟨hl, h⟩ := h; wp_walk using wpAny_loadPart' hl, wpAny_load hl; exact ⟨_, rfl, h⟩
theorem dictE_rc {l : Addr} {o : Obj} {es : Array DictEntry} {n : Nat} {prog : Program} {w : World} {A : Around} {E : Value → Shared → Prop} {Q : Value → Shared → Prop} {s : Shared} {z : Str} {u : Tok} (ho : s.heap.get? l = some o) (hc : o.cls = .type "dict") (hd : o.data = .dict es n) (hu : A.units < cLine) (h : Q (.bool false) s) :
    wpAny (model prog w) A (compareOp .Eq (.ref l) (.str z u)) Q E s := by
  obtain ⟨cls, dd, data, sl⟩ := o
  simp only at hc hd
  subst hc hd
  exact SeqAt.rc_eq_decline_or (k := false) ⟨_, ho, rfl⟩ (typeIs_str s z u) (by decide) PySem.F.sub_str_dict PySem.F.slot_dict_eq PySem.F.slot_str_eq_refl
    (fun _ hq => dictE_eq_str ⟨_, ho, rfl⟩ hq)
    (fun _ hq => call_meets PySem.F.slot_str_eq_refl (typeIs_str s z u) PySem.F.entry_str_eq (PySem.F.args_str_eq_2 _ _) (str_eq_dictE z u l (.type "dict") es n dd sl) ⟨ho, hq⟩)
    (fun _ hq => wpAny_of_eq (rfl : isSame (.ref l) (.str z u) = pure false) hq) (.inr hu) h
/-- a thing: data, or an empty dict -/
inductive DpE (K : PySem.W.Frag) (H : Hp) : V → PyData → Prop
  | dp {v : V} {d : PyData} : Dp K H v d → DpE K H v d
  | dK {a : Addr} : H a = some (.dK []) → DpE K H (.ref a) (.dict [])
theorem dkE {X : Cx} {pins : List (Addr × Obj)} {σ : L2.St} {H : Hp} {s : Shared} {a : Addr} (I : Inv X pins σ H s) (h : H a = some (.dK [])) : (a == sysModules) = false ∧ ∃ o es n, s.heap.get? a = some o ∧ o.cls = .type "dict" ∧ o.data = .dict es n ∧ es.toList = [] := by
  obtain ⟨_, hs, vs, kv, o, es, ep, ho, hx, hd, _, hp, _⟩ := (show ObjOk X.prog X.w H s.heap a (.dK []) from I.hok a _ h)
  cases kv
  refine ⟨hs, o, es, ep, ho, hx.1, hd, ?_⟩
  match h1 : es.toList, hp with
  | [], _ => rfl
theorem DpE.same {K : PySem.W.Frag} {H H' : Hp} (e : Same H H') {v : V} {d : PyData} (h : DpE K H v d) : DpE K H' v d := by
  cases h with
  | dp h => exact .dp (dp_same e _ _ h)
  | dK h => exact .dK (e _ _ h)
/-- repr of such a thing -/
def rReprE (K : PySem.W.Frag) : List V → Hp → VK → Prop := fun xs H Q => ∃ v d, xs = [v] ∧ DpE K H v d ∧ d.showable = true ∧ d.depth ≤ 60 ∧ d.shown.length ≤ 10000000 ∧ Q (.str d.shown) H
theorem reprE {X : Cx} {K : PySem.W.Frag} (hK : X.K = K) (hG : X.A.guards = some []) (hu : X.A.units + 64 < cLine) : CallR X (.builtin "repr") (rReprE K) := by
  intro pins s σ H xs us Q I r h
  obtain ⟨v, d, hx, hd, hs, hdep, hlen, q⟩ := h
  cases hd with
  | dp h1 => exact reprD hK hG hu pins s σ H xs us Q I r ⟨v, d, hx, h1, hs, hdep, hlen, q⟩
  | @dK a h1 =>
    subst hx
    obtain ⟨u, rfl, r1⟩ := vals1 r
    cases (show u = Value.ref a from r1)
    obtain ⟨hsm, o, es, n, ho, hc, hdt, hes⟩ := dkE I h1
    have rd : Reads s.heap (.ref a) (.dict []) (a :: [] ++ []) := by
      refine Reads.dict ho hc hdt ?_ ?_
      · rw [hes]
        exact ReadsAll.nil
      · rw [hes]
        exact ReadsAll.nil
    refine repr_of_reads' rd hs (fun _ hm => ?_) hG (by omega) (fun b o e => e) (fun h' u tk keep => ?_) (Nat.le_trans hlen (by decide))
    · have : sysModules = a := by simpa using hm
      rw [this, beq_self_eq_true] at hsm
      cases hsm
    · exact ⟨.str _, H, I.kept (t' := tk) keep, ⟨_, rfl⟩, q⟩
theorem rd_reprE {K : PySem.W.Frag} {H : Hp} {Q : VK} {v : V} {d : PyData} (hd : DpE K H v d) (h1 : d.showable = true) (h2 : d.depth ≤ 60) (h3 : d.shown.length ≤ 10000000) (q : Q (.str d.shown) H) : rReprE K [v] H Q := ⟨v, d, rfl, hd, h1, h2, h3, q⟩
/-- such a thing, a text: are they equal -/
def isV (v : V) (z : Str) : Bool := decide (v = .str z)
def rEqZ (K : PySem.W.Frag) : R2 := fun x y H Q => ∃ z d, y = .str z ∧ DpE K H x d ∧ PyData.strOk z = true ∧ (d = .dict [] ∨ SeqAt.shaped d = true) ∧ Q (.bl (isV x z)) H
theorem eqZ {X : Cx} {K : PySem.W.Frag} (hK : X.K = K) (hu : X.A.units + 64 < cLine) : OpR X (compareOp .Eq) (rEqZ K) := by
  subst hK
  intro pins s σ H x y v u Q I rx ry h
  obtain ⟨z, d, rfl, hd, hz, hsh, q⟩ := h
  obtain ⟨t, rfl⟩ := (show ∃ t, u = Value.str z t from ry)
  cases hd with
  | dp h1 =>
    obtain ⟨as, r1⟩ := Dp.reads I d x v h1 rx
    have hsh : SeqAt.shaped d = true := hsh.resolve_left fun e => by
      subst e
      cases h1
    have h2 : SeqAt.shaped (.str z) = true := by
      show (PyData.canLay0 (.str z) && decide (PyData.depth (.str z) ≤ 64)) = true
      simp only [PyData.canLay0, PyData.depth, hz]
      rfl
    refine SeqAt.compareEq_shaped r1 (Reads.str z t) hsh h2 hu ⟨.bl _, H, I, rfl, ?_⟩
    have e : PyData.eqv d (.str z) = isV x z := by
      cases h1 with
      | str w =>
        show (w == z) = decide (V.str w = V.str z)
        rw [dec_str]
      | non => rfl
      | bl b => cases b <;> rfl
      | int i => rfl
      | lst _ _ => rfl
      | tup _ _ => rfl
    rw [e]
    exact q
  | @dK a h1 =>
    cases (show v = Value.ref a from rx)
    obtain ⟨hsm, o, es, n, ho, hc, hdt, hes⟩ := dkE I h1
    exact dictE_rc ho hc hdt (by omega) ⟨.bl _, H, I, rfl, q⟩
theorem rd_eqZ {K : PySem.W.Frag} {H : Hp} {Q : VK} {v : V} {z : Str} {d : PyData} (hd : DpE K H v d) (hz : PyData.strOk z = true) (h : d = .dict [] ∨ SeqAt.shaped d = true) (q : Q (.bl (isV v z)) H) : rEqZ K v (.str z) H Q := ⟨z, d, rfl, hd, hz, h, q⟩
/-! #### how long a shown thing is -/
mutual
def wt : PyData → Nat
  | .none => 4
  | .bool _ => 5
  | .int _ => 1921
  | .str x => 10 * x.length + 2
  | .list xs => wtAll xs + 4
  | .tuple xs => wtAll xs + 4
  | .dict _ => 10
def wtAll : List PyData → Nat
  | [] => 0
  | x :: xs => wt x + 2 + wtAll xs
end
theorem textFrom_le : ∀ (ts : List Str) (k : Nat) (acc : Str), (textFrom k acc ts).length ≤ acc.length + (ts.map fun t => t.length + 2).sum
  | [], k, acc => by show acc.length ≤ _; simp
  | t :: r, k, acc => by
    have h := textFrom_le r (k + 1) (acc ++ (if k > 0 then ", " else "" : String) ++ t)
    have e : (acc ++ (if k > 0 then ", " else "" : String) ++ t : Str).length ≤ acc.length + 2 + t.length := by
      rw [PySem.Str.length_append, PySem.Str.length_append]
      have : (((if k > 0 then ", " else "" : String) : Str)).length ≤ 2 := by split <;> decide +kernel
      omega
    show (textFrom (k + 1) (acc ++ (if k > 0 then ", " else "" : String) ++ t) r).length ≤ _
    rw [List.map_cons, List.sum_cons]
    omega
theorem piled_sum : ∀ ts : List Str, piled ts = (ts.map fun t => t.length + 2).sum
  | [] => rfl
  | t :: r => by
    rw [List.map_cons, List.sum_cons, ← piled_sum r]
    rfl
mutual
theorem shown_wt : ∀ d : PyData, d.showable = true → d.canLay0 = true → d.shown.length ≤ wt d
  | .none, _, _ => by decide +kernel
  | .bool b, _, _ => by cases b <;> decide +kernel
  | .int i, h, _ => by
    simp only [PyData.showable, decide_eq_true_eq] at h
    simp only [PyData.shown, wt]
    exact int_text_len_1921 h
  | .str x, _, h => by
    simp only [PyData.canLay0] at h
    simp only [PyData.shown, wt]
    refine StrLaws.reprText_len x fun c hc => ?_
    have h1 : ∀ (i : Nat) (hi : i < x.cps.size), x.cps[i] < 1114112 := by simpa [PyData.strOk] using h
    obtain ⟨i, hi, rfl⟩ := List.getElem_of_mem hc
    have h2 := h1 i (by simpa using hi)
    rw [Array.getElem_toList]
    exact Nat.lt_trans h2 (by decide)
  | .list xs, h, hl => by
    simp only [PyData.showable] at h
    simp only [PyData.canLay0] at hl
    simp only [PyData.shown, wt]
    have h1 := shown_wtAll xs h hl
    have h2 := textFrom_le (PyData.shownAll xs) 0 "["
    have h3 : (("[" : String) : Str).length = 1 := by decide +kernel
    have h4 : (("]" : String) : Str).length = 1 := by decide +kernel
    show (textFrom 0 "[" (PyData.shownAll xs) ++ "]" : Str).length ≤ _
    rw [PySem.Str.length_append]
    omega
  | .tuple xs, h, hl => by
    simp only [PyData.showable] at h
    simp only [PyData.canLay0] at hl
    simp only [PyData.shown, wt]
    have h1 := shown_wtAll xs h hl
    rw [← piled_sum] at h1
    have h3 : (("(" : String) : Str).length = 1 := by decide +kernel
    have h4 : (((if (PyData.shownAll xs).length == 1 then ",)" else ")" : String)) : Str).length ≤ 2 := by split <;> decide +kernel
    show (("(" : Str) ++ Str.join ", " (PyData.shownAll xs) ++ (if (PyData.shownAll xs).length == 1 then ",)" else ")" : String)).length ≤ _
    rw [PySem.Str.length_append, PySem.Str.length_append]
    by_cases e : PyData.shownAll xs = []
    · rw [e] at h1 ⊢
      have h5 : (Str.join ", " ([] : List Str)).length = 0 := rfl
      rw [e] at h4
      omega
    · have h5 := join_length_add _ e
      omega
  | .dict _, _, h => by simp [PyData.canLay0] at h
theorem shown_wtAll : ∀ ds : List PyData, PyData.showableAll ds = true → PyData.canLayAll0 ds = true → ((PyData.shownAll ds).map fun t => t.length + 2).sum ≤ wtAll ds
  | [], _, _ => by simp [PyData.shownAll, wtAll]
  | d :: ds, h, hl => by
    simp only [PyData.showableAll, Bool.and_eq_true] at h
    simp only [PyData.canLayAll0, Bool.and_eq_true] at hl
    have h1 := shown_wt d h.1 hl.1
    have h2 := shown_wtAll ds h.2 hl.2
    simp only [PyData.shownAll, wtAll, List.map_cons, List.sum_cons]
    omega
end
/-- data that can be shown and compared; or an empty dict -/
def okD (d : PyData) : Prop := d = .dict [] ∨ (d.showable = true ∧ d.canLay0 = true ∧ d.depth ≤ 60 ∧ wt d ≤ 10000000)
theorem okD.shaped {d : PyData} (h : okD d) : d = .dict [] ∨ SeqAt.shaped d = true := h.imp id fun h => by
  rw [SeqAt.shaped, h.2.1, Bool.true_and]
  exact decide_eq_true (by omega)
theorem okD.showable {d : PyData} (h : okD d) : d.showable = true := by
  rcases h with rfl | h
  · rfl
  · exact h.1
theorem okD.depth {d : PyData} (h : okD d) : d.depth ≤ 60 := by
  rcases h with rfl | h
  · decide +kernel
  · exact h.2.2.1
theorem okD.size {d : PyData} (h : okD d) : d.shown.length ≤ 10000000 := by
  rcases h with rfl | h
  · decide +kernel
  · exact Nat.le_trans (shown_wt d h.1 h.2.1) h.2.2.2
/-- repr, briefly -/
theorem rd_rE {K : PySem.W.Frag} {H : Hp} {Q : VK} {v : V} {d : PyData} (hd : DpE K H v d) (h : okD d) (q : Q (.str d.shown) H) : rReprE K [v] H Q := rd_reprE hd h.showable h.depth h.size q
theorem rd_rEg {K : PySem.W.Frag} {H : Hp} {Q : VK} {v : V} {d : PyData} (hd : DpE K H v d) (h : okD d) (q : ∀ z, z = d.shown → Q (.str z) H) : rReprE K [v] H Q := rd_rE hd h (q _ rfl)
theorem rd_eZ {K : PySem.W.Frag} {H : Hp} {Q : VK} {v : V} {z : Str} {d : PyData} (hd : DpE K H v d) (hz : PyData.strOk z = true) (h : okD d) (q : Q (.bl (isV v z)) H) : rEqZ K v (.str z) H Q := rd_eqZ hd hz h.shaped q
end My

/-! ### P0X: own classes and their refusals -/
namespace My
open PySem PySem.Spec PyProof.Rows L2
/-! #### C.m(..), read off a class -/
section
variable {X : Cx} {o e : Expr} {es : List Expr} {ta : TA} {x : Str} {p1 p2 pos : Pos} {C f : Addr} {m : Str}
/-- IceError.__init__(self, ..): the built-in one, found above an own class that has none -/
theorem pe_upinit {pl : Sem Bool} (hg : Gl X x) (hm : X.mg x = some (.ref C)) (rd : PySem.W.readsIn X.K C (.type "type") = true) (ga : PySem.W.specialIn X.K (.ref C) "__getattribute__" = some (some (.builtin "type.__getattribute__")))
    (vi : PySem.W.findCls X.K (.ref C) (.type "type") "__init__" = some (.val (.builtin "ValueError.__init__"))) (ha : PA X (e :: es) ta) (hdb : (x == ("__debug__" : Str)) = false := by decide)
    (hc : eval (.Call (.Attribute (.Name x p1) "__init__" p2) (e :: es) [] pos) X.env = (do
      let ov ← eval (.Name x p1) X.env
      standAt p2.atName
      let (f, first) ← holding [ov] (getMethod ov "__init__" pl)
      callWith pos f first (backTo pos (starEach (e :: es) X.env)) (backToKw pos (keywordEach [] X.env))) := by rfl)
    (he : starEach (e :: es) X.env = (false, eval e X.env) :: starEach es X.env := by rfl) (hpl : (backTo pos (starEach es X.env)).any (·.1) = false := by rfl) :
    PE X (.Call (.Attribute (.Name x p1) "__init__" p2) (e :: es) [] pos) (tVeI X.K ta) := by
  constructor
  intro pins s σ H Q I h
  refine PySem.W.methodCall_KW (ld_glob I hg hm ?_ hdb) hc
  refine PySem.W.method_cls I.kIn ga ?_
  refine PySem.W.cls_value I.kIn rd vi (by decide +kernel) ?_
  show wpAny _ _ (callWith pos (Value.builtin "ValueError.__init__") [] (backTo pos (starEach (e :: es) X.env)) []) _ _ _
  refine PyProof.Rows.callWith_method1 (thn (ha.run pos pins _ σ H _ (I.tok _) h) ?_) he hpl
  rintro us s1 ⟨vs, H1, I1, r1, a, C1, ws, rfl, hl, T, ea, q⟩
  cases r1 with
  | @cons _ u0 _ ur ra rest =>
    cases (show u0 = Value.ref a from ra)
    have hlen : ur.length ≤ sizeLine := by
      rw [← Paired.length rest, sizeLine_eq]
      omega
    exact oinit_ok T I1 ea hlen fun s' J => ⟨.non, H1, J, rfl, q⟩
/-- C.m(e, ..), m a def of the text, found on C or above -/
theorem pe_ccall {pl : Sem Bool} {CX : CXT} {k : Nat} {fd : FuncData} {ps : List Str} {sp : Sp} {E : L2.St → XK} (hg : Gl X x) (hm : X.mg x = some (.ref C)) (rd : PySem.W.readsIn X.K C (.type "type") = true) (ga : PySem.W.specialIn X.K (.ref C) "__getattribute__" = some (some (.builtin "type.__getattribute__")))
    (vi : PySem.W.findCls X.K (.ref C) (.type "type") m = some (.val (.ref f))) (F : FnOk X.prog X.w X.K X.mg X.base CX k f fd ps sp) (hr : Room k X.A) (hk : PySem.W.keepIn X.K (.ref f) = true) (hb : Binds X.K fd ps []) (hx : ∀ σ, PassesAt CX X σ (E σ))
    (ha : PA X (e :: es) ta) (hdb : (x == ("__debug__" : Str)) = false := by decide)
    (hc : eval (.Call (.Attribute (.Name x p1) m p2) (e :: es) [] pos) X.env = (do
      let ov ← eval (.Name x p1) X.env
      standAt p2.atName
      let (f, first) ← holding [ov] (getMethod ov m pl)
      callWith pos f first (backTo pos (starEach (e :: es) X.env)) (backToKw pos (keywordEach [] X.env))) := by rfl)
    (he : starEach (e :: es) X.env = (false, eval e X.env) :: starEach es X.env := by rfl) (hpl : (backTo pos (starEach es X.env)).any (·.1) = false := by rfl) :
    PE X (.Call (.Attribute (.Name x p1) m p2) (e :: es) [] pos) (tCallS sp E ta) := by
  constructor
  intro pins s σ H Q I h
  refine PySem.W.methodCall_KW (ld_glob I hg hm ?_ hdb) hc
  refine PySem.W.method_cls I.kIn ga ?_
  refine PySem.W.cls_value I.kIn rd vi (by rfl) ?_
  refine PySem.W.callWith_K (h₀ := X.base) I.ok.mod.kin hk (thn (ha.run pos pins _ σ H _ (I.tok _) h) ?_) he hpl
  rintro us s1 ⟨vs, H1, I1, r1, q⟩
  exact ⟨I1.kIn, run_fnS F hr hb (hx σ) I1 r1 q⟩
/-- o.m(e, ..) where m may raise: what is raised is wished for at the caller's slots -/
def tMethS (C : Addr) (m : Str) (sp : Sp) (E : L2.St → XK) (to : TE) (t : TA) : TE := fun σ H Q => to σ H fun x H1 => ∃ a dx fs, x = .ref a ∧ H1 a = some (.ins C dx fs) ∧ fs.lookup m = none ∧ t σ H1 fun vs H2 => sp (x :: vs) H2 Q (E σ)
theorem pe_methS {pl : Sem Bool} {apos : Pos} {to : TE} {CX : CXT} {k : Nat} {fd : FuncData} {ps : List Str} {sp : Sp} {E : L2.St → XK} (ho : PE X o to) (c : Cls X.K C) (hm : Meth X.K C m f) (F : FnOk X.prog X.w X.K X.mg X.base CX k f fd ps sp) (hr : Room k X.A)
    (hb : Binds X.K fd ps []) (hx : ∀ σ, PassesAt CX X σ (E σ)) (ha : PA X (e :: es) ta) (hst : starEach (e :: es) X.env = (false, eval e X.env) :: starEach es X.env := by rfl) (hpl : (backTo pos (starEach es X.env)).any (·.1) = false := by rfl)
    (ht : eval (.Call (.Attribute o m apos) (e :: es) [] pos) X.env = (do
      let ov ← eval o X.env
      standAt apos.atName
      let (f, first) ← holding [ov] (getMethod ov m pl)
      callWith pos f first (backTo pos (starEach (e :: es) X.env)) (backToKw pos (keywordEach [] X.env))) := by rfl) : PE X (.Call (.Attribute o m apos) (e :: es) [] pos) (tMethS C m sp E to ta) := by
  constructor
  intro pins s σ H Q I h
  refine PySem.W.methodCall_KW (pl := pl) (thn (ho.run pins s σ H _ I h) ?_) ht
  rintro u s1 ⟨x, H1, I1, rx, a, dx, fs, rfl, ea, l, q⟩
  cases (show u = Value.ref a from rx)
  refine getmeth_ok I1 ea c hm l ?_
  refine PySem.W.callWith_K (first := [.ref a]) (h₀ := X.base) I.ok.mod.kin hm.kp (thn (ha.run pos pins s1 σ H1 _ I1 q) ?_) hst hpl
  rintro us s2 ⟨vs, H2, I2, r, q2⟩
  exact ⟨I2.kIn, run_fnS (us := .ref a :: us) (vs := .ref a :: vs) F hr hb (hx σ) I2 (.cons rfl r) q2⟩
end
/-! #### nothing is raised: a def that might raise, called where it does not -/
theorem passX0 {X : Cx} : Passes (L2.CX X.prog X.w) X E0 := by
  rintro _ _ _ _ _ _ _ ⟨_, _, _, _, _, _, _, _, _, _, _, _, z⟩
  exact z.elim
theorem passX0S {X : Cx} {σ : L2.St} : PassesAt (L2.CX X.prog X.w) X σ E0 := by
  rintro _ _ _ _ _ _ ⟨_, _, _, _, _, _, _, _, _, _, _, _, z⟩
  exact z.elim
theorem refs_ve1 {c : Addr} : PySem.HandSPX.refsVE [.ref c, .type "ValueError", .type "Exception", .type "BaseException", .type "object"] = true := by
  show PySem.HandSPX.refsVE [.type "ValueError", .type "Exception", .type "BaseException", .type "object"] = true
  decide +kernel
/-- is an error of class X what «except Y» names -/
theorem exm_of {K : PySem.W.Frag} {X Y : Addr} {b : Bool} (hb : PySem.W.subIn K (.ref Y) (.type "BaseException") = some true) (hc : PySem.W.isClsIn K Y = true) (ht : PySem.W.typeIn K (.ref Y) = some (.type "type")) (hs : PySem.W.subIn K (.ref X) (.ref Y) = some b) : PySem.W.exmOne K (.ref X) (.ref Y) = some b := by
  unfold PySem.W.exmOne PySem.W.kitCls
  have hc' : (PySem.W.clsIn K Y).isSome = true := hc
  simp only [hb, hc', ht, hs, beq_self_eq_true, Bool.and_self, if_true]
/-- isinstance of an own class, from the subclass facts -/
theorem kit_sub {K : PySem.W.Frag} {t : Value} {D : Addr} {b : Bool} (hc : PySem.W.isClsIn K D = true) (ht : PySem.W.typeIn K (.ref D) = some (.type "type")) (hd : PySem.W.subIn K (.ref D) (.ref D) = some true) (hs : PySem.W.subIn K t (.ref D) = some b) : PySem.W.kitOne K t (.ref D) = some b := by
  unfold PySem.W.kitOne PySem.W.kitCls
  by_cases e : (t == Value.ref D) = true
  · rw [if_pos e]
    have e2 : t = Value.ref D := eq_of_beq e
    rw [e2, hd] at hs
    exact hs
  · rw [if_neg e]
    have hc' : (PySem.W.clsIn K D).isSome = true := hc
    simp only [hc', ht, beq_self_eq_true, Bool.and_self, if_true]
    exact hs
/-- isinstance(x, D), x an own instance -/
theorem rd_isiC {K : PySem.W.Frag} {H : Hp} {Q : VK} {a C D dx : Addr} {fs : List (Str × V)} {b : Bool} (e : H a = some (.ins C dx fs)) (cl : Cls K C) (ha : PySem.W.findIn K (.ref C) "__class__" = some (some (.builtin "object.__class__")))
    (hn : PySem.W.specialIn K (.builtin "object.__class__") "__get__" = some (some (.builtin "getset_descriptor.__get__"))) (htk : PySem.W.takesIn K (.builtin "object.__class__") = some true) (hm : PySem.W.mroIn K C (.type "object") = some true)
    (k : PySem.W.kitOne K (.ref C) (.ref D) = some b) (q : Q (.bl b) H) : rIsi K [.ref a, .ref D] H Q := ⟨_, _, _, _, b, rfl, .own D, .base (.ins e cl ha hn htk hm), k, q⟩
/-- C(e, ..) where __init__ may raise: what is raised is wished for at the caller's slots -/
def tMakeS (C : Addr) (sp : Sp) (E : L2.St → XK) (t : TA) : TE := fun σ H Q => t σ H fun vs H1 => ∀ x dx, H1 x = none → H1 dx = none → dx ≠ x → sp (.ref x :: vs) (upd (upd H1 dx (.own x)) x (.ins C dx [])) (fun v H2 => v = .non ∧ Q (.ref x) H2) (E σ)
section
variable {X : Cx} {e : Expr} {es : List Expr} {t : TA} {x : Str} {p pos : Pos} {C f : Addr} {CX : CXT} {k : Nat} {fd : FuncData} {ps : List Str} {sp : Sp} {E : L2.St → XK}
theorem pe_makeS (M : Mk X.K C f) (F : FnOk X.prog X.w X.K X.mg X.base CX k f fd ps sp) (hr : Room (k + 1) X.A) (hg : Gl X x) (hm : X.mg x = some (.ref C)) (hb : Binds X.K fd ps []) (hx : ∀ σ, PassesAt CX X σ (E σ)) (ha : PA X (e :: es) t)
    (hdb : (x == ("__debug__" : Str)) = false := by decide) (he : starEach (e :: es) X.env = (false, eval e X.env) :: starEach es X.env := by rfl) (hpl : (backTo pos (starEach es X.env)).any (·.1) = false := by rfl) : PE X (.Call (.Name x p) (e :: es) [] pos) (tMakeS C sp E t) := by
  constructor
  intro pins s0 σ H0 Q I0 h0
  refine wpAny_Call_Name_kw (ld_glob I0 hg hm ?_ hdb)
  refine PySem.W.callWith_K (h₀ := X.base) I0.ok.mod.kin M.kp (thn (ha.run pos pins s0 σ H0 _ I0 h0) ?_) he hpl
  rintro us s ⟨vs, H, I, r, h⟩
  refine ⟨I.kIn, ?_⟩
  have fresh0 : H s.heap.objs.size = none := I.hok.fresh (Nat.le_refl _)
  have fresh1 : H (s.heap.objs.size + 1) = none := I.hok.fresh (Nat.le_succ _)
  have start := h _ _ fresh1 fresh0 (Nat.ne_of_lt (Nat.lt_succ_self _))
  have J := Inv.made (C := C) I
  have rel : Vals (V.ref (s.heap.objs.size + 1) :: vs) (Value.ref (s.heap.objs.size + 1) :: us) := .cons rfl r
  have many : (Value.ref (s.heap.objs.size + 1) :: us).length = ps.length := rel.length.symm.trans (F.len _ _ _ _ start)
  have bind := hb _ (Value.ref (s.heap.objs.size + 1) :: us) J.kIn (by rw [List.append_nil]; exact many)
  rw [List.append_nil] at bind
  have body := F.run _ X.stack _ _ ⟨Value.ref (s.heap.objs.size + 1) :: us, []⟩ _ _ _ (E σ) (hr.make C us []) (J.env0.make C us []) bind rel start
  refine wpAny_call (make_map (f := f) I.kIn M.makes M.init (beq_iff_eq.mp M.fn) (codeAny_mono body ?_))
  intro r1 s1 hq
  match r1, hq with
  | .error _, hq => exact hx σ pins _ _ _ s1 J hq
  | .ok .next, hq => exact False.elim hq
  | .ok .brk, hq => exact False.elim hq
  | .ok .cont, hq => exact False.elim hq
  | .ok (.ret u), hq =>
    obtain ⟨v, H', J', rv, rfl, q⟩ := J.after hq
    exact ⟨rv, ⟨V.ref (s.heap.objs.size + 1), H', J', rfl, q⟩⟩
end
/-! #### refusals: an own class with one value -/
/-- __init__ of a refusal keeps its one value as f -/
def spXInit (C : Addr) (f : Str) : Sp := fun vs H Q _ => ∃ a v, vs = [.ref a, v] ∧ H a = some (exo a C none) ∧ ∀ dx, H dx = none → dx ≠ a → Q .non (upd (upd H dx (exd dx [(f, v)])) a (exo a C (some dx)))
def tRaiseX (C : Addr) (f : Str) (W : WX) (ta : TA) : TS := fun _ σ H => tMkO C (spXInit C f) [] ta σ H fun cls d H' => W cls d σ H'
theorem ps_raiseX {X : Cx} {W : WX} {C fI : Addr} {f x : Str} {k : Nat} {fd : FuncData} {ps : List Str} {e : Expr} {es : List Expr} {ta : TA} {p pos pos2 : Pos} (hcalm : X.calm = true) (tk : Takes X W) (T : OexC X.K C) (iC : PySem.W.findIn X.K (.ref C) "__init__" = some (some (.ref fI)))
    (tI : PySem.W.typeIn X.K (.ref fI) = some (.type "function")) (F1 : FnOk X.prog X.w X.K X.mg X.base CX0 k fI fd ps (spXInit C f)) (hr : Room (k + 1) X.A) (hb : Binds X.K fd ps []) (hg : Gl X x) (hm : X.mg x = some (.ref C)) (ha : PA X (e :: es) ta)
    (hdb : (x == ("__debug__" : Str)) = false := by decide) (he : starEach (e :: es) X.env = (false, eval e X.env) :: starEach es X.env := by rfl) (hpl : (backTo pos (starEach es X.env)).any (·.1) = false := by rfl) :
    PS X (.Raise (some (.Call (.Name x p) (e :: es) [] pos)) none pos2) (tRaiseX C f W ta) := ps_raise hcalm tk (pmk_oex T iC tI F1 hr hb .nil (fun _ _ _ _ _ _ _ h => h.elim) hg hm ha hdb he hpl)
/-- what a refusal's making hands on -/
def RaiseA (C : Addr) (f : Str) (W : WX) (σ : L2.St) : List V → Hp → Prop := fun vs H1 => vs.length ≤ 1000 ∧ ∀ a, H1 a = none → spXInit C f (.ref a :: (vs ++ [])) (upd H1 a (exo a C none))
  (fun v H2 => v = .non ∧ ∃ (d : Addr) (fs : List (Str × V)), H2 a = some (exo a C (some d)) ∧ H2 d = some (exd d fs) ∧ H1 d = none ∧ W (.ref C) (some d) σ (upd (del H2 a) d (.xd fs))) (fun _ _ _ => False)
theorem rd_raiseX {C : Addr} {f : Str} {W : WX} {ta : TA} {D : Ends} {σ : L2.St} {H : Hp} (h : ta σ H (RaiseA C f W σ)) : tRaiseX C f W ta D σ H := h
theorem rd_raise1 {C : Addr} {f : Str} {W : WX} {σ : L2.St} {H : Hp} {v : V} (q : ∀ d, H d = none → W (.ref C) (some d) σ (upd H d (.xd [(f, v)]))) : RaiseA C f W σ [v] H := by
  refine ⟨(show 1 ≤ 1000 by decide), fun a ha => ⟨a, v, rfl, upd_same, fun dx hdx hne => ⟨rfl, dx, [(f, v)], upd_same, ?_, ?_, ?_⟩⟩⟩
  · rw [upd_ne hne, upd_same]
  · rw [upd_ne hne] at hdx
    exact hdx
  · rw [upd_ne hne] at hdx
    have e : upd (del (upd (upd (upd H a (exo a C none)) dx (exd dx [(f, v)])) a (exo a C (some dx))) a) dx (.xd [(f, v)]) = upd H dx (.xd [(f, v)]) := by
      funext b
      by_cases h1 : b = dx
      · subst h1
        rw [upd_same, upd_same]
      · rw [upd_ne h1, upd_ne h1]
        by_cases h2 : b = a
        · subst h2
          rw [del_same, ha]
        · rw [del_ne h2, upd_ne h2, upd_ne h1, upd_ne h2]
    rw [e]
    exact q dx hdx
/-- the reading of __init__ itself -/
theorem xinit_rd {K : PySem.W.Frag} {C : Addr} {f z : Str} {Q : VK} {vs : List V} {H : Hp} {E : XK} {N : List Str} (T : OexC K C) (hno : PySem.W.findIn K (.ref C) f = some none) (h : spXInit C f vs H Q E) :
    tSeq (tDrop (tVeI K (tCons (tVar 0) (tCons (tC (.str z)) tNil)))) (tOst K f (tVar 0) (tVar 1)) { nx := fun _ H' => Q .non H', rt := Q } (L2.start N vs) H := by
  obtain ⟨a, v, rfl, ha, q⟩ := h
  refine ⟨_, rfl, a, C, [.str z], rfl, (show 1 ≤ 1000 by decide), T, ha, ?_⟩
  exact ⟨_, rfl, _, rfl, a, C, rfl, T, hno, .inl ⟨ha, fun dx h1 h2 => q dx h1 h2⟩⟩
/-- a field of an own instance is stored -/
def FldS (K : PySem.W.Frag) (f : Str) (y : V) (D : Ends) (σ : L2.St) : VK := fun x H2 => ∃ a C dx fs, x = .ref a ∧ H2 a = some (.ins C dx fs) ∧ Cls K C ∧ NoAttr K C f ∧ fs.length < 1000 ∧ D.nx σ (upd H2 a (.ins C dx (putF f y fs)))
theorem rd_fldS {K : PySem.W.Frag} {ta tv : TE} {f : Str} {D : Ends} {σ : L2.St} {H : Hp} (h : tv σ H fun y H1 => ta σ H1 (FldS K f y D σ)) : sFld K ta tv f D σ H := h
theorem rd_fldSet {K : PySem.W.Frag} {f : Str} {y : V} {D : Ends} {σ : L2.St} {H : Hp} {a C dx : Addr} {fs : List (Str × V)} (h : H a = some (.ins C dx fs)) (c : Cls K C) (n : NoAttr K C f) (hl : fs.length < 1000) (q : D.nx σ (upd H a (.ins C dx (putF f y fs)))) : FldS K f y D σ (.ref a) H :=
  ⟨a, C, dx, fs, rfl, h, c, n, hl, q⟩
/-- .. is read -/
def FldG (K : PySem.W.Frag) (f : Str) (Q : VK) : VK := fun x H1 => ∃ a C dx fs v, x = .ref a ∧ H1 a = some (.ins C dx fs) ∧ Cls K C ∧ NoAttr K C f ∧ fs.lookup f = some v ∧ Q v H1
theorem rd_fldG {K : PySem.W.Frag} {ta : TE} {f : Str} {Q : VK} {σ : L2.St} {H : Hp} (h : ta σ H (FldG K f Q)) : tFld K ta f σ H Q := h
theorem rd_fldGet {K : PySem.W.Frag} {f : Str} {Q : VK} {H : Hp} {a C dx : Addr} {fs : List (Str × V)} {v : V} (h : H a = some (.ins C dx fs)) (c : Cls K C) (n : NoAttr K C f) (l : fs.lookup f = some v) (q : Q v H) : FldG K f Q (.ref a) H := ⟨a, C, dx, fs, v, rfl, h, c, n, l, q⟩
theorem rd_callS {sp : Sp} {E : L2.St → XK} {tr : TA} {Q : VK} {σ : L2.St} {H : Hp} (h : tr σ H fun vs H1 => sp vs H1 Q (E σ)) : tCallS sp E tr σ H Q := h
theorem pe_fldK {X : Cx} {K : PySem.W.Frag} {e : Expr} {f : Str} {pos : Pos} {ta : TE} (h : X.K = K) (he : PE X e ta) (hb : attributeBase e f X.env (eval e X.env) = eval e X.env := by rfl) : PE X (.Attribute e f pos) (tFld K ta f) := by
  subst h
  exact pe_fld he hb
theorem ps_fldK {X : Cx} {K : PySem.W.Frag} {o value : Expr} {f : Str} {pos pos' : Pos} {ta tv : TE} (h : X.K = K) (ho : PE X o ta) (hv : PE X value tv) (hs : swapsWith value (some (.Attribute o f pos')) pos.line X.env = pure false := by rfl) : PS X (.Assign [.Attribute o f pos'] value pos) (sFld K ta tv f) := by
  subst h
  exact ps_fld ho hv hs
/-- a refusal's value, read in the suite that handles it -/
theorem rd_xf {a C dd : Addr} {fs : List (Str × V)} {f : Str} {te : TE} {v : V} {Q : VK} {σ : L2.St} {H : Hp} (h : te σ H fun x H1 => x = .ref a ∧ Value.ref C = .ref C ∧ ∃ (d2 : Addr) (fs : List (Str × V)) (v : V), some dd = some d2 ∧ H1 d2 = some (.xd fs) ∧ fs.lookup f = some v ∧ Q v H1) : tXf a (.ref C) (some dd) C f te σ H Q := h
theorem rd_xf1 {a C dd : Addr} {f : Str} {i : Nat} {v : V} {Q : VK} {σ : L2.St} {H : Hp} (hv : σ[i]? = some (some (.ref a))) (h : H dd = some (.xd [(f, v)])) (q : Q v H) : tXf a (.ref C) (some dd) C f (tVar i) σ H Q := by
  refine rd_xf (dd := dd) (fs := [(f, v)]) (v := v) ⟨_, hv, rfl, rfl, dd, [(f, v)], v, rfl, h, ?_, q⟩
  rw [List.lookup_cons, beq_self_eq_true]
/-- a method of an own instance is called -/
def MethG (C : Addr) (m : Str) (P : V → Hp → Prop) : VK := fun x H1 => ∃ a dx fs, x = .ref a ∧ H1 a = some (.ins C dx fs) ∧ fs.lookup m = none ∧ P x H1
theorem rd_methG {C : Addr} {m : Str} {P : V → Hp → Prop} {H : Hp} {a dx : Addr} {fs : List (Str × V)} (h : H a = some (.ins C dx fs)) (l : fs.lookup m = none) (q : P (.ref a) H) : MethG C m P (.ref a) H := ⟨a, dx, fs, rfl, h, l, q⟩
theorem rd_methS {C : Addr} {m : Str} {sp : Sp} {E : L2.St → XK} {to : TE} {t : TA} {Q : VK} {σ : L2.St} {H : Hp} (h : to σ H (MethG C m fun x H1 => t σ H1 fun vs H2 => sp (x :: vs) H2 Q (E σ))) : tMethS C m sp E to t σ H Q := h
theorem rd_meth {C : Addr} {m : Str} {sp : Sp} {dvs : List V} {E : XK} {to : TE} {t : TA} {Q : VK} {σ : L2.St} {H : Hp} (h : to σ H (MethG C m fun x H1 => t σ H1 fun vs H2 => sp (x :: (vs ++ dvs)) H2 Q E)) : tMeth C m sp dvs E to t σ H Q := h
/-- an own instance is made -/
def MakeG (C : Addr) (sp : Sp) (Q : VK) (E : XK) : List V → Hp → Prop := fun vs H1 => ∀ x dx, H1 x = none → H1 dx = none → dx ≠ x → sp (.ref x :: vs) (upd (upd H1 dx (.own x)) x (.ins C dx [])) (fun v H2 => v = .non ∧ Q (.ref x) H2) E
theorem rd_makeS {C : Addr} {sp : Sp} {E : L2.St → XK} {t : TA} {Q : VK} {σ : L2.St} {H : Hp} (h : t σ H (MakeG C sp Q (E σ))) : tMakeS C sp E t σ H Q := h
theorem rd_make {C : Addr} {sp : Sp} {E : XK} {t : TA} {Q : VK} {σ : L2.St} {H : Hp} (h : t σ H (fun vs H1 => MakeG C sp Q E (vs ++ []) H1)) : tMake C sp [] E t σ H Q := h
/-- what stood ahead of the making stands behind it -/
theorem make_keep {H H' : Hp} {x dx : Addr} {o1 o2 : HO} (hx : H x = none) (hdx : H dx = none) (k : ∀ b o, (upd (upd H dx o1) x o2) b = some o → b ≠ x → H' b = some o) : ∀ b o, H b = some o → H' b = some o := fun b o h => by
  have h1 := ne_of_none h hx
  have h2 := ne_of_none h hdx
  exact k b o (by rw [upd_ne h1, upd_ne h2]; exact h) h1
end My
local macro_rules | `(tactic| walk_at "nolk") => `(tactic| kernel_rfl)
local macro_rules | `(tactic| walk_at "rd1") => `(tactic| first
  | (with_reducible refine My.rd_fldG ?_)
  | (with_reducible refine My.rd_fldS ?_)
  | ((with_reducible refine My.rd_fldGet (C := ?cc) (dx := ?dd) (fs := ?ff) (v := ?vv) ?hH ?hc ?hn ?hl ?_); (case hH => (first | assumption | walk_at "hp")); (case hc => walk_at "cls"); (case hn => walk_at "noattr"); (case hl => walk_at "lk"))
  | ((with_reducible refine My.rd_methG (dx := ?dd) (fs := ?ff) ?hH ?hl ?_); (case hH => (first | assumption | walk_at "hp")); (case hl => walk_at "nolk"))
  | ((with_reducible refine My.rd_xf1 (v := ?vv) ?hvar ?hH ?_); (case hvar => rfl); (case hH => assumption))
  | (with_reducible refine My.rd_raiseX ?_)
  | (with_reducible refine My.rd_callS ?_)
  | (with_reducible refine My.rd_meth ?_)
  | (with_reducible refine My.rd_methS ?_)
  | (with_reducible refine My.rd_make ?_)
  | (with_reducible refine My.rd_makeS ?_))

/-! ### P0T: several except clauses, some of which name what they caught -/
namespace My
open PySem PySem.Spec PyProof.Rows L2
abbrev Hand : Type := Value × Option Nat × (Addr → Value → Option Addr → TS)
/-- behind a named suite its name is gone -/
abbrev goneD (i : Nat) (D : Ends) : Ends := { nx := fun σ H => D.nx (σ.set i none) H, rt := D.rt, bk := fun σ H => D.bk (σ.set i none) H, ct := fun σ H => D.ct (σ.set i none) H }
/-- what a suite wishes: t at the caught one -/
def suiteR (q : Hand) (D : Ends) (a : Addr) (cls : Value) (d : Option Addr) (σ : L2.St) (H : Hp) : Prop := match q.2.1 with
  | none => q.2.2 a cls d D σ H
  | some i => q.2.2 a cls d (goneD i D) (σ.set i (some (.ref a))) H
theorem suite_named {i : Nat} {c : Value} {t : Addr → Value → Option Addr → TS} {D : Ends} {a : Addr} {cls : Value} {d : Option Addr} {σ : L2.St} {H : Hp} (h : t a cls d (goneD i D) (σ.set i (some (.ref a))) H) : suiteR (c, some i, t) D a cls d σ H := h
theorem suite_plain {c : Value} {t : Addr → Value → Option Addr → TS} {D : Ends} {a : Addr} {cls : Value} {d : Option Addr} {σ : L2.St} {H : Hp} (h : t a cls d D σ H) : suiteR (c, none, t) D a cls d σ H := h
def wNamed (K : PySem.W.Frag) (Wo : WX) (D : Ends) : List Hand → WX
  | [] => Wo
  | q :: r => fun cls d σ H => ∃ b, PySem.W.exmOne K cls q.1 = some b ∧ (b = true → ∀ a, H a = none → suiteR q D a cls d σ H) ∧ (b = false → wNamed K Wo D r cls d σ H)
inductive Hands (X : Cx) : List ExceptHandler → List Hand → Prop
  | nil : Hands X [] []
  | plain {x : Str} {c : Value} {t : Addr → Value → Option Addr → TS} {st : Stmt} {sts : List Stmt} {p1 p2 : Pos} {es : List ExceptHandler} {l : List Hand} (hx : Names X x c)
      (hs : ∀ (a : Addr) (oe : Obj) (cls : Value) (d : Option Addr) (pn : List (Addr × Obj)), Zc cls d oe → (∃ us, oe.data = .fields us) → PSs (X.suite a ((a, oe) :: pn)) (st :: sts) (t a cls d)) (hr : Hands X es l) :
      Hands X (.ExceptHandler (some (.Name x p1)) none (st :: sts) p2 :: es) ((c, none, t) :: l)
  | named {x n : Str} {i : Nat} {c : Value} {t : Addr → Value → Option Addr → TS} {st : Stmt} {sts : List Stmt} {p1 p2 : Pos} {es : List ExceptHandler} {l : List Hand} (hi : X.N[i]? = some n) (hk : X.env.kindOf n = some .local) (hx : Names X x c)
      (hs : ∀ (a : Addr) (oe : Obj) (cls : Value) (d : Option Addr) (pn : List (Addr × Obj)), Zc cls d oe → (∃ us, oe.data = .fields us) → PSs (X.suite a ((a, oe) :: pn)) (st :: sts) (t a cls d)) (hr : Hands X es l) :
      Hands X (.ExceptHandler (some (.Name x p1)) (some n) (st :: sts) p2 :: es) ((c, some i, t) :: l)
theorem ps_tryN {X : Cx} {body : List Stmt} {e0 : ExceptHandler} {es : List ExceptHandler} {l : List Hand} {pos : Pos} {tb : WX → TS} {Wo : WX} (stk : X.stack = X.env :: X.outer) (fra : X.env.frame = some X.env.locals) (dup : X.N.Nodup) (tk : Takes X Wo)
    (hb : ∀ (W : WX) (pn : List (Addr × Obj)) (xe : Value → Shared → Prop), Takes (X.tr pn xe) W → PassesOwn (model X.prog X.w) X.A X.env xe → PSs (X.tr pn xe) body (tb W))
    (hh : Hands X (e0 :: es) l) : PS X (.Try body (e0 :: es) [] [] pos) (fun D σ H => tb (wNamed X.K Wo D l) D σ H) := by
  constructor
  intro pins s σ H D I h
  have okI := I.ok
  have frames : X.A.frames = some (X.env :: X.outer) := okI.frames.trans (congrArg some stk)
  let after : Value → Shared → Prop := fun e s₁ => wpAny (model X.prog X.w) X.A (noteFrame e X.env) (fun _ s₂ => wpAny (model X.prog X.w) X.A (setFlight e none)
    (fun _ s₃ => wpAny (model X.prog X.w) X.A (handleBy e X.env (e0 :: es)) (SP X pins D) X.xe s₃) X.xe s₂) X.xe s₁
  have bodyRun := (hb (wNamed X.K Wo D l) (X.pn ++ pins) after ?caught PassesOwn.looking).run [] s σ H D (I.toTry _) h
  case caught =>
    rintro u s' ⟨a, B, sI, pins', σ1, H1, cls, d, rfl, J0, nb, up, sky0, free, os, ag, wish⟩
    have J : Inv X pins σ1 H1 sI := J0.ofTry okI
    have sky : Sky B (X.env :: X.outer) a (Zc cls d) X.env.locals s'.heap := stk ▸ sky0
    show wpAny (model X.prog X.w) X.A (noteFrame (.ref a) X.env) _ _ _
    refine Sky.land Zc.steady frames fra sky fun hp flies up1 => ?_
    have J1 : Inv X pins σ1 H1 { s' with heap := hp } := J.landed nb flies.1 (up.trans up1) os ag
    obtain ⟨oe, us, atA, zc, dat⟩ := flies.there
    have noFrame : a ∉ frs (X.env :: X.outer) := fun hm => by
      obtain ⟨_, o1, at1, nofr⟩ := flies.2.2.1.mem hm
      cases atA.symm.trans at1
      exact nofr _ dat
    have notLoc : a ≠ X.env.locals := fun z => noFrame (List.mem_filterMap.mpr ⟨X.env, List.mem_cons_self, z ▸ fra⟩)
    have notOut : a ∉ X.fs := fun hm => by
      obtain ⟨e1, in1, q1⟩ := List.mem_filterMap.mp hm
      exact noFrame (List.mem_filterMap.mpr ⟨e1, List.mem_cons_of_mem _ in1, q1⟩)
    have inSuite := J1.suite atA dat free notLoc notOut
    have each : ∀ {es1 : List ExceptHandler} {l1 : List Hand}, Hands X es1 l1 → wNamed X.K Wo D l1 cls d σ1 H1 → wpAny (model X.prog X.w) X.A (handleBy (.ref a) X.env es1) (SP X pins D) X.xe { s' with heap := hp } := by
      intro es1 l1 hk1
      have tested : ∀ {x : Str} {c : Value} {p1 : Pos} {Q E : Value → Shared → Prop}, Names X x c → Q c { s' with heap := hp } → wpAny (model X.prog X.w) (X.A.mark (some (.ref a))) (eval (.Name x p1) X.env) Q E { s' with heap := hp } := by
        intro x c p1 Q E nm q
        obtain ⟨gl, nodb, gm | ⟨gm, bv, bn⟩⟩ := nm
        · exact ld_glob (X := X.suite a ((a, oe) :: (X.pn ++ pins))) inSuite gl gm q nodb
        · exact ld_blt (X := X.suite a ((a, oe) :: (X.pn ++ pins))) inSuite gl gm bv q bn nodb
      have looks : PySem.W.Looks (model X.prog X.w) hp (typeOf (.ref a)) cls := fun A Q E s k q => wpAny_typeOf_ref (k _ _ atA) (zc.1.symm ▸ q)
      induction hk1 with
      | nil =>
        intro wish1
        refine wpAny_handleBy_nil ?_
        obtain ⟨_, _, _, oe2, us2, T2, oT2, ts2, at2, zc2, dat2, first2, rest2⟩ := id flies
        unfold PySem.passOn
        refine wpAny_bind (wpAny_field at2 dat2 first2 ?_)
        have isRef : ¬ ((Value.ref T2 == Value.none) = true) := by simp
        rw [if_neg isRef]
        have onward : wpAny (model X.prog X.w) X.A (setFlight (.ref a) X.env.frame) (fun _ s4 => wpAny (model X.prog X.w) X.A (throw (.ref a) : Sem Flow) (SP X pins D) X.xe s4) X.xe { s' with heap := hp } := by
          rw [fra]
          refine HandSPX.setFlight_upZ flies fun h4 sky4 up4 => wpAny_throw (tk _ _ ?_)
          refine ⟨a, B, sI, pins, σ1, H1, cls, d, rfl, J, nb, (up.trans up1).trans up4, .inr (.inr ?_), free, os, ag, wish1⟩
          exact stk.symm ▸ sky4
        first
        | exact wpAny_bind (wpAny_pure (wpAny_bind onward))
        | exact wpAny_bind onward
      | @plain x c t st sts p1 p2 es2 l2 hx hs hr ih =>
        rintro ⟨b, isx, yes, no⟩
        refine wpAny_handleBy_cons (codeAny_handlers_test ?_) (fun q => by cases q)
        refine tested hx ((PySem.W.exm_one (M := model X.prog X.w) J1.kIn looks isx).here ?_)
        cases b with
        | false => exact ih (no rfl)
        | true =>
          refine codeAny_handlers_suite (HandSPX.lands_againZ flies fun h4 flies4 up4 => ?_)
          have J4 : Inv X pins σ1 H1 { s' with heap := h4 } := J.landed nb flies4.1 ((up.trans up1).trans up4) os ag
          obtain ⟨oe4, us4, at4, zc4, dat4⟩ := flies4.there
          have runs := (hs a oe4 cls d (X.pn ++ pins) zc4 ⟨_, dat4⟩).run [] _ _ H1 _ (J4.suite at4 dat4 free notLoc notOut) (yes rfl a free)
          refine wpAny_mono runs (fun f s6 got => ?_) fun _ _ z => False.elim z
          match f, got with
          | .next, ⟨_, _, S6, q6⟩ => exact ⟨_, _, S6.unsuite okI, q6⟩
          | .brk, ⟨_, _, S6, q6⟩ => exact ⟨_, _, S6.unsuite okI, q6⟩
          | .cont, ⟨_, _, S6, q6⟩ => exact ⟨_, _, S6.unsuite okI, q6⟩
          | .ret u, ⟨_, _, _, S6, r6, q6⟩ => exact ⟨_, _, _, S6.unsuite okI, r6, q6⟩
      | @named x n i c t st sts p1 p2 es2 l2 hi hk hx hs hr ih =>
        rintro ⟨b, isx, yes, no⟩
        refine wpAny_handleBy_cons (codeAny_handlers_test ?_) (fun q => by cases q)
        refine tested hx ((PySem.W.exm_one (M := model X.prog X.w) J1.kIn looks isx).here ?_)
        cases b with
        | false => exact ih (no rfl)
        | true =>
          have isLoc : Loc X.env.scope n := .inl hk
          refine codeAny_handlers_suite_as (HandSPX.lands_againZ flies fun h4 flies4 up4 => ?_)
          have J4 : Inv X pins σ1 H1 { s' with heap := h4 } := J.landed nb flies4.1 ((up.trans up1).trans up4) os ag
          obtain ⟨oe4, us4, at4, zc4, dat4⟩ := flies4.there
          refine store_ok (X := X.suite a ((a, oe4) :: (X.pn ++ pins))) (v := .ref a) (J4.suite at4 dat4 free notLoc notOut) dup hi isLoc rfl (fun s5 S5 => ?_) (.inr hk)
          have runs := (hs a oe4 cls d (X.pn ++ pins) zc4 ⟨_, dat4⟩).run [] s5 _ H1 _ S5 (yes rfl a free)
          refine wpAny_mono runs (fun f s6 got => ?_) fun _ _ z => False.elim z
          have unnamed : ∀ {σ6 : L2.St} {H6 : Hp} {Q : Shared → Prop}, Inv (X.suite a ((a, oe4) :: (X.pn ++ pins))) [] σ6 H6 s6 → (∀ s7, Inv X pins (σ6.set i none) H6 s7 → Q s7) →
              wpAny (model X.prog X.w) X.A (do bindName X.env n .none; unbindBehindTheSuite X.env n p2) (fun _ s7 => Q s7) X.xe s6 := fun S6 hq => gone_ok (S6.unsuite okI) dup hi hk hq
          match f, got with
          | .next, ⟨_, _, S6, q6⟩ => exact unnamed S6 fun s7 J7 => ⟨_, _, J7, q6⟩
          | .brk, ⟨_, _, S6, q6⟩ => exact unnamed S6 fun s7 J7 => ⟨_, _, J7, q6⟩
          | .cont, ⟨_, _, S6, q6⟩ => exact unnamed S6 fun s7 J7 => ⟨_, _, J7, q6⟩
          | .ret u, ⟨_, _, _, S6, r6, q6⟩ => exact unnamed S6 fun s7 J7 => ⟨_, _, _, J7, r6, q6⟩
    exact each hh wish
  refine wpAny_Try_except (wpAny_mono bodyRun (fun f s1 got => ?_) fun e s1 he => he)
  match f, got with
  | .next, ⟨_, _, J1, q⟩ => exact wpAny_execs_nil ⟨_, _, J1.ofTry okI, q⟩
  | .brk, ⟨_, _, J1, q⟩ => exact ⟨_, _, J1.ofTry okI, q⟩
  | .cont, ⟨_, _, J1, q⟩ => exact ⟨_, _, J1.ofTry okI, q⟩
  | .ret u, ⟨_, _, _, J1, r, q⟩ => exact ⟨_, _, _, J1.ofTry okI, r, q⟩
/-- two ways to read one expression: a call whose receiver may be of either class -/
def tAlt (t u : TE) : TE := fun σ H Q => t σ H Q ∨ u σ H Q
theorem pe_alt {X : Cx} {e : Expr} {t u : TE} (h1 : PE X e t) (h2 : PE X e u) : PE X e (tAlt t u) := by
  constructor
  intro pins s σ H Q I h
  rcases h with h | h
  · exact h1.run pins s σ H Q I h
  · exact h2.run pins s σ H Q I h
theorem rd_altL {t u : TE} {σ : L2.St} {H : Hp} {Q : VK} (h : t σ H Q) : tAlt t u σ H Q := .inl h
theorem rd_altR {t u : TE} {σ : L2.St} {H : Hp} {Q : VK} (h : u σ H Q) : tAlt t u σ H Q := .inr h
end My

namespace My
open PySem PySem.Spec PyProof.Rows L2
/-! ### heaps: all but p stands; a draw's box -/
def KeepB (p : Addr) (H H' : Hp) : Prop := ∀ b o, H b = some o → b ≠ p → H' b = some o
theorem KeepB.refl (p : Addr) (H : Hp) : KeepB p H H := fun _ _ h _ => h
theorem KeepB.trans {p : Addr} {H H1 H2 : Hp} (a : KeepB p H H1) (b : KeepB p H1 H2) : KeepB p H H2 := fun c o h n => b c o (a c o h n) n
theorem Same.keepB {p : Addr} {H H' : Hp} (a : Same H H') : KeepB p H H' := fun c o h _ => a c o h
theorem KeepB.same {p : Addr} {H H1 H2 : Hp} (a : KeepB p H1 H2) (e : Same H H1) (hp : H p = none) : Same H H2 := fun c o h => a c o (e c o h) (ne_of_none h hp)
theorem same_new {H : Hp} {p : Addr} {o : HO} (h : H p = none) : Same H (upd H p o) := fun b x e => by
  rw [upd_ne (ne_of_none e h)]
  exact e
theorem keepB_upd {H : Hp} {p : Addr} {o : HO} : KeepB p H (upd H p o) := fun b x e n => by
  rw [upd_ne n]
  exact e
/-- a box: what is left of the cell, its seed, its count, at most n -/
def BoxAt (H : Hp) (p : Addr) (n : Nat) : Prop := ∃ a b c : Int, H p = some (.lst [.int a, .int b, .int c]) ∧ 0 ≤ a ∧ 0 ≤ b ∧ b < 2147483629 ∧ 0 ≤ c ∧ c ≤ (n : Int)
theorem BoxAt.mono {H : Hp} {p : Addr} {n m : Nat} (h : BoxAt H p n) (l : n ≤ m) : BoxAt H p m := by
  obtain ⟨a, b, c, e, h1, h2, h3, h4, h5⟩ := h
  exact ⟨a, b, c, e, h1, h2, h3, h4, by omega⟩
theorem BoxAt.keep {H H' : Hp} {p : Addr} {n : Nat} (h : BoxAt H p n) (s : Same H H') : BoxAt H' p n := by
  obtain ⟨a, b, c, e, r⟩ := h
  exact ⟨a, b, c, s _ _ e, r⟩
theorem BoxAt.ne {H : Hp} {p q : Addr} {n : Nat} (h : BoxAt H p n) (e : H q = none) : q ≠ p := by
  obtain ⟨a, b, c, e1, r⟩ := h
  exact (ne_of_none e1 e).symm
theorem log2_small {j : Int} (h0 : 0 < j) (h : j < 2 ^ 200) : j.natAbs.log2 < 9000 := by
  have : j.natAbs < 2 ^ 200 := by omega
  exact Nat.lt_of_lt_of_le (PySem.Flt.log2_lt_of (by decide) this) (by decide)
theorem KeepB.seqL {K : PySem.W.Frag} {H H' : Hp} {p a : Addr} {xs : List V} (e : KeepB p H H') (h : SqL K H a xs) (n : a ≠ p) : SqL K H' a xs := by
  rcases h with (h | ⟨o, h⟩) | h
  · exact .inl (.inl (e _ _ h n))
  · exact .inl (.inr ⟨o, e _ _ h n⟩)
  · exact .inr h
theorem BoxAt.new {H : Hp} {p q : Addr} {n : Nat} {o : HO} (h : BoxAt H p n) (e : p ≠ q) : BoxAt (upd H q o) p n := by
  obtain ⟨a, b, c, e1, r⟩ := h
  exact ⟨a, b, c, by rw [upd_ne e]; exact e1, r⟩
theorem KeepB.new {p q : Addr} {H H1 : Hp} {o : HO} (k : KeepB p H H1) (e : H q = none) : KeepB p H (upd H1 q o) := fun b x h n => by
  rw [upd_ne (ne_of_none h e)]
  exact k b x h n
theorem wo_sub {l : Addr} {H : Hp} : Same (Wo l H) H := fun b o e => by
  by_cases h : b = l
  · subst h
    rw [wo_same] at e
    cases e
  · rw [wo_ne h] at e
    exact e
theorem Same.seqT {K : PySem.W.Frag} {H H' : Hp} {a : Addr} {xs : List V} (e : Same H H') (h : SqT K H a xs) : SqT K H' a xs := by
  rcases h with (h | ⟨o, h⟩) | h
  · exact .inl (.inl (e _ _ h))
  · exact .inl (.inr ⟨o, e _ _ h⟩)
  · exact .inr h
theorem same_wo {l : Addr} {H H' : Hp} (e : Same H H') : Same (Wo l H) (Wo l H') := fun b o h => by
  by_cases hb : b = l
  · subst hb
    rw [wo_same] at h
    cases h
  · rw [wo_ne hb] at h ⊢
    exact e _ _ h
theorem wo_none {l p : Addr} {H : Hp} (h : H p = none) : Wo l H p = none := by
  by_cases hb : p = l
  · subst hb
    exact wo_same
  · rw [wo_ne hb]
    exact h
theorem BoxAt.wo {l p : Addr} {H : Hp} {n : Nat} (h : BoxAt H p n) (e : p ≠ l) : BoxAt (Wo l H) p n := by
  obtain ⟨a, b, c, e1, r⟩ := h
  exact ⟨a, b, c, by rw [wo_ne e]; exact e1, r⟩
theorem same_to_wo {l : Addr} {H H' : Hp} (e : Same H H') (h : H l = none) : Same H (Wo l H') := fun b o hb => by
  rw [wo_ne (ne_of_none hb h)]
  exact e _ _ hb
/-! ### solvers: what stands where -/
/-- q is free in H -/
structure Nn (H : Hp) (q : Addr) : Prop where
  e : H q = none
theorem iteTd {b : Bool} {A B : Prop} (h : b = true) (a : A) : if b = true then A else B := by rw [if_pos h]; exact a
theorem iteFd {b : Bool} {A B : Prop} (h : b = false) (a : B) : if b = true then A else B := by rw [if_neg (by rw [h]; decide)]; exact a
theorem hp_same {H H' : Hp} {p : Addr} {o : HO} (s : Same H H') (h : H p = some o) : H' p = some o := s _ _ h
theorem hp_kb {H H' : Hp} {p q : Addr} {o : HO} (s : KeepB p H H') (n : q ≠ p) (h : H q = some o) : H' q = some o := s _ _ h n
theorem hp_upd {H : Hp} {p q : Addr} {o u : HO} (n : q ≠ p) (h : H q = some o) : upd H p u q = some o := by
  rw [upd_ne n]
  exact h
theorem ne_nn {H : Hp} {a b : Addr} {o : HO} (n : Nn H b) (h : H a = some o) : a ≠ b := ne_of_none h n.e
theorem ne_box {H : Hp} {p a : Addr} {n : Nat} (f : Nn H a) (h : BoxAt H p n) : a ≠ p := h.ne f.e
theorem kb_same {p : Addr} {H H1 H2 : Hp} (s : Same H1 H2) (g : KeepB p H H1) : KeepB p H H2 := g.trans (Same.keepB s)
theorem kb_kb {p : Addr} {H H1 H2 : Hp} (s : KeepB p H1 H2) (g : KeepB p H H1) : KeepB p H H2 := g.trans s
theorem kb_skip {p q : Addr} {H H1 H2 : Hp} (s : KeepB q H1 H2) (n : H q = none) (g : KeepB p H H1) : KeepB p H H2 := fun b o h hn => s b o (g b o h hn) (ne_of_none h n)
theorem kb_put {p : Addr} {H H1 : Hp} {o : HO} (g : KeepB p H H1) : KeepB p H (upd H1 p o) := fun b x h n => by
  rw [upd_ne n]
  exact g b x h n
theorem kb_new {p q : Addr} {H H1 : Hp} {o : HO} (n : H q = none) (g : KeepB p H H1) : KeepB p H (upd H1 q o) := fun b x h hn => by
  rw [upd_ne (ne_of_none h n)]
  exact g b x h hn
theorem sm_same {H H1 H2 : Hp} (s : Same H1 H2) (g : Same H H1) : Same H H2 := g.trans s
theorem sm_skip {q : Addr} {H H1 H2 : Hp} (s : KeepB q H1 H2) (n : H q = none) (g : Same H H1) : Same H H2 := fun b o h => s b o (g b o h) (ne_of_none h n)
theorem sm_new {q : Addr} {H H1 : Hp} {o : HO} (n : H q = none) (g : Same H H1) : Same H (upd H1 q o) := fun b x h => by
  rw [upd_ne (ne_of_none h n)]
  exact g b x h
theorem nn_same {q : Addr} {H H1 : Hp} (n : Nn H1 q) (s : Same H H1) : H q = none := by
  cases e : H q with
  | none => rfl
  | some o => exact absurd ((s _ _ e).symm.trans n.e) nofun
theorem nn_box {p q : Addr} {m : Nat} {H H1 : Hp} (n : Nn H1 q) (hB : BoxAt H1 p m) (k : KeepB p H H1) : H q = none := by
  cases e : H q with
  | none => rfl
  | some o => exact absurd ((k _ _ e (hB.ne n.e)).symm.trans n.e) nofun
theorem bx_kb {p q : Addr} {n : Nat} {H H' : Hp} (s : KeepB q H H') (ne : p ≠ q) (h : BoxAt H p n) : BoxAt H' p n := by
  obtain ⟨a, b, c, e, r⟩ := h
  exact ⟨a, b, c, s _ _ e ne, r⟩
theorem bx_nn {p q : Addr} {n : Nat} {H : Hp} (h : BoxAt H p n) (f : Nn H q) : p ≠ q := (h.ne f.e).symm
local macro_rules | `(tactic| walk_at "hp") => `(tactic| first
  | assumption
  | exact L2.upd_same
  | ((with_reducible refine My.hp_upd (o := ?ho) ?hn ?hh); (case hh => walk_at "hp"); (case hn => walk_at "ne"))
  | ((with_reducible refine My.hp_same (H := ?hH) (o := ?ho) ?hs ?hh); (case hs => assumption); (case hh => walk_at "hp"))
  | ((with_reducible refine My.hp_kb (H := ?hH) (p := ?hq) (o := ?ho) ?hs ?hn ?hh); (case hs => assumption); (case hh => walk_at "hp"); (case hn => walk_at "ne")))
local macro_rules | `(tactic| walk_at "bx0") => `(tactic| first
  | assumption
  | ((with_reducible refine My.BoxAt.keep (H := ?hH) (n := ?hm) ?hh ?hs); (case hs => assumption); (case hh => walk_at "bx0"))
  | ((with_reducible refine My.bx_kb (H := ?hH) (q := ?hq) (n := ?hm) ?hs ?hn ?hh); (case hs => assumption); (case hh => walk_at "bx0"); (case hn => walk_at "ne"))
  | ((with_reducible refine My.BoxAt.new (n := ?hm) ?hh ?hn); (case hh => walk_at "bx0"); (case hn => walk_at "ne")))
local macro_rules | `(tactic| walk_at "bx") => `(tactic| first
  | walk_at "bx0"
  | ((with_reducible refine My.BoxAt.mono (n := ?hm) ?hh ?hl); (case hh => walk_at "bx0"); (case hl => omega)))
local macro_rules | `(tactic| walk_at "ne") => `(tactic| first
  | assumption
  | (refine Ne.symm ?_; assumption)
  | ((with_reducible refine My.ne_nn (H := ?hH) (o := ?ho) ?hn ?hh); (case hn => assumption); (case hh => walk_at "hp"))
  | ((with_reducible refine Ne.symm (My.ne_nn (H := ?hH) (o := ?ho) ?hn ?hh)); (case hn => assumption); (case hh => walk_at "hp"))
  | ((with_reducible refine My.ne_box (H := ?hH) (n := ?hm) ?hn ?hh); (case hn => assumption); (case hh => walk_at "bx0"))
  | ((with_reducible refine Ne.symm (My.ne_box (H := ?hH) (n := ?hm) ?hn ?hh)); (case hn => assumption); (case hh => walk_at "bx0"))
  | ((refine L2.ne_of (H := ?hH) (o := L2.HO.tup ?ho) (u := L2.HO.lst ?hu) ?h1 ?h2 nofun); (case h1 => assumption); (case h2 => walk_at "hp"))
  | ((refine L2.ne_of (H := ?hH) (o := L2.HO.lst ?ho) (u := L2.HO.tup ?hu) ?h1 ?h2 nofun); (case h1 => assumption); (case h2 => walk_at "hp")))
local macro_rules | `(tactic| walk_at "nn") => `(tactic| first
  | assumption
  | exact My.Nn.e (by assumption)
  | ((with_reducible refine My.nn_same (H1 := ?hH) ?hn ?hs); (case hn => assumption); (case hs => walk_at "sm"))
  | ((with_reducible refine My.nn_box (H1 := ?hH) (p := ?hp) (m := ?hm) ?hn ?hb ?hs); (case hn => assumption); (case hb => walk_at "bx0"); (case hs => walk_at "kb")))
local macro_rules | `(tactic| walk_at "kb") => `(tactic| first
  | assumption
  | (with_reducible exact My.KeepB.refl _ _)
  | ((with_reducible refine My.kb_put ?hg); (case hg => walk_at "kb"))
  | ((with_reducible refine My.kb_new ?hn ?hg); (case hg => walk_at "kb"); (case hn => walk_at "nn"))
  | ((with_reducible refine My.kb_same (H1 := ?hH) ?hs ?hg); (case hs => assumption); (case hg => walk_at "kb"))
  | ((with_reducible refine My.kb_kb (H1 := ?hH) ?hs ?hg); (case hs => assumption); (case hg => walk_at "kb"))
  | ((with_reducible refine My.kb_skip (q := ?hq) (H1 := ?hH) ?hs ?hn ?hg); (case hs => assumption); (case hg => walk_at "kb"); (case hn => walk_at "nn")))
local macro_rules | `(tactic| walk_at "sm") => `(tactic| first
  | assumption
  | (with_reducible exact L2.Same.refl _)
  | ((with_reducible refine My.sm_new ?hn ?hg); (case hg => walk_at "sm"); (case hn => walk_at "nn"))
  | ((with_reducible refine My.sm_same (H1 := ?hH) ?hs ?hg); (case hs => assumption); (case hg => walk_at "sm"))
  | ((with_reducible refine My.sm_skip (q := ?hq) (H1 := ?hH) ?hs ?hn ?hg); (case hs => assumption); (case hg => walk_at "sm"); (case hn => walk_at "nn")))
/-- what else is kept (a law of one's own adds rows ahead) -/
local macro_rules | `(tactic| walk_at "at") => `(tactic| first | assumption | fail "at")
local macro_rules | `(tactic| walk_at "sl") => `(tactic| first
  | assumption
  | ((refine My.sqL_of (xs := ?hx) ?hh); (case hh => walk_at "hp"))
  | ((with_reducible refine L2.Same.seq (H := ?hH) (xs := ?hx) ?hs ?hh); (case hh => assumption); (case hs => walk_at "sm"))
  | ((with_reducible refine My.KeepB.seqL (H := ?hH) (p := ?hq) (xs := ?hx) ?hs ?hh ?hn); (case hs => assumption); (case hh => walk_at "sl"); (case hn => walk_at "ne")))
local macro_rules | `(tactic| walk_at "st") => `(tactic| first
  | assumption
  | ((refine My.sqT_of (xs := ?hx) ?hh); (case hh => walk_at "hp"))
  | ((with_reducible refine My.Same.seqT (H := ?hH) (xs := ?hx) ?hs ?hh); (case hh => assumption); (case hs => walk_at "sm")))
local macro_rules | `(tactic| walk_at "sql") => `(tactic| walk_at "sl")
local macro_rules | `(tactic| walk_at "sqt") => `(tactic| walk_at "st")
/-- of numbers -/
local macro_rules | `(tactic| walk_at "ar") => `(tactic| first | assumption | omega | (simp only [List.length_map, List.length_cons, List.length_nil]; omega) | decide | (simp only [List.length_map, List.length_cons, List.length_nil] at *; omega))
/-- any side goal -/
local macro_rules | `(tactic| walk_at "sd") => `(tactic| first
  | assumption
  | rfl
  | omega
  | ((with_reducible show My.Same _ _); walk_at "sm")
  | ((with_reducible show L2.Same _ _); walk_at "sm")
  | ((with_reducible show My.KeepB _ _ _); walk_at "kb")
  | ((with_reducible show My.BoxAt _ _ _); walk_at "bx")
  | ((with_reducible show L2.SqL _ _ _ _); walk_at "sl")
  | ((with_reducible show L2.SqT _ _ _ _); walk_at "st")
  | ((with_reducible show _ ≠ _); walk_at "ne")
  | ((with_reducible show _ = Option.none); walk_at "nn")
  | walk_at "at"
  | walk_at "hp"
  | (simp; done)
  | trivial)
section
variable {K : PySem.W.Frag} {σ : L2.St} {H : Hp} {i : Nat} {v x y : V} {Q : VK}
theorem rd_lstB {xs : List V} (q : ∀ p H', Nn H p → Same H H' → H' p = some (.lst xs) → Q (.ref p) H') (hz : xs.length ≤ 100000 := by (first | exact Nat.zero_le _ | decide | (simp; done) | (simp; omega))) : LstK Q xs H := rd_lstA hz fun p H' n => q p H' ⟨n⟩
theorem rd_tupB {xs : List V} (q : ∀ p H', Nn H p → Same H H' → H' p = some (.tup xs) → Q (.ref p) H') (hz : xs.length ≤ 100000 := by (first | exact Nat.zero_le _ | decide | (simp; done) | (simp; omega))) : TupK Q xs H := rd_tupA hz fun p H' n => q p H' ⟨n⟩
theorem rd_revB {p : Addr} {xs : List V} (q : ∀ p H', Nn H p → Same H H' → H' p = some (.lst xs.reverse) → Q (.ref p) H') (h : SqL K H p xs := by walk_at "sl") : RevK K Q (.ref p) H := rd_revK h fun p H' n => q p H' ⟨n⟩
theorem rd_catB {l b : Addr} {xs zs : List V} (q : ∀ p H', Nn H p → Same H H' → H' p = some (.lst (xs ++ zs)) → Q (.ref p) H') (h1 : H l = some (.lst xs) := by walk_at "hp") (h2 : H b = some (.lst zs) := by walk_at "hp") (hz : xs.length + zs.length ≤ 100000 := by (first | exact Nat.zero_le _ | decide | (simp; done) | (simp; omega))) : rCat (.ref l) (.ref b) H Q := rd_cat h1 h2 hz fun p H' n => q p H' ⟨n⟩
theorem rd_catT {a b : Addr} {x y : V} {xs ys : List V} (q : ∀ p H', Nn H p → Same H H' → H' p = some (.tup ((x :: xs) ++ (y :: ys))) → Q (.ref p) H') (h1 : SqT K H a (x :: xs) := by walk_at "st") (h2 : SqT K H b (y :: ys) := by walk_at "st") (hz : (x :: xs).length + (y :: ys).length ≤ 100000 := by (first | exact Nat.zero_le _ | decide | (simp; done) | (simp; omega))) : rCatA K (.ref a) (.ref b) H Q := rd_catA h1 h2 hz fun p H' n => q p H' ⟨n⟩
theorem rd_dnewB (q : ∀ p H', Nn H p → Same H H' → H' p = some (.dK []) → Q (.ref p) H') : tDNewK σ H Q := rd_dnew fun p H' n => q p H' ⟨n⟩
theorem rd_ilB {R : It → Hp → Prop} {p : Addr} {xs : List V} (q : R (Itl K p) H) (h : SqL K H p xs := by walk_at "sl") : LstIt K R (.ref p) H := rd_il h q
theorem rd_itB {R : It → Hp → Prop} {p : Addr} {xs : List V} (q : R (Itt K p) H) (h : SqT K H p xs := by walk_at "st") : TupIt K R (.ref p) H := rd_it h q
end
/-! ### data: how big, and solvers -/
structure Sm (n w : Nat) (d : PyData) : Prop where
  s : d.showable = true
  c : d.canLay0 = true
  p : d.depth ≤ n
  w : wt d ≤ w
theorem Sm.ok {n w : Nat} {d : PyData} (h : Sm n w d) (hn : n ≤ 60 := by decide) (hw : w ≤ 10000000 := by decide) : okD d := .inr ⟨h.s, h.c, Nat.le_trans h.p hn, Nat.le_trans h.w hw⟩
theorem Sm.mono {n w n' w' : Nat} {d : PyData} (h : Sm n w d) (hn : n ≤ n') (hw : w ≤ w') : Sm n' w' d := ⟨h.s, h.c, Nat.le_trans h.p hn, Nat.le_trans h.w hw⟩
theorem Sm.non : Sm 0 2000 .none := ⟨rfl, rfl, by decide +kernel, by decide +kernel⟩
theorem Sm.bl {b : Bool} : Sm 0 2000 (.bool b) := by cases b <;> exact ⟨rfl, rfl, by decide +kernel, by decide +kernel⟩
theorem int_log {i : Int} (h : i.natAbs ≤ 10000000000000000000000000000000000000000000000000000000000000000000000) : i.natAbs.log2 < 1920 := Nat.lt_of_lt_of_le (PySem.Flt.log2_lt_of (k := 240) (by decide) (Nat.lt_of_le_of_lt h (by decide))) (by decide)
theorem Sm.int {i : Int} (h : i.natAbs ≤ 10000000000000000000000000000000000000000000000000000000000000000000000) : Sm 0 2000 (.int i) := ⟨decide_eq_true (int_log h), rfl, by simp [PyData.depth], by simp [wt]⟩
theorem Sm.str {z : Str} (h : PyData.strOk z = true) (l : z.length ≤ 199) : Sm 0 2000 (.str z) := ⟨rfl, by simp only [PyData.canLay0, h], by simp [PyData.depth], by simp only [wt]; omega⟩
theorem sm_all {n w : Nat} : ∀ {ds : List PyData}, (∀ d ∈ ds, Sm n w d) → PyData.showableAll ds = true ∧ PyData.canLayAll0 ds = true ∧ PyData.depthAll ds ≤ n ∧ wtAll ds ≤ ds.length * (w + 2)
  | [], _ => by simp [PyData.showableAll, PyData.canLayAll0, PyData.depthAll, wtAll]
  | d :: ds, h => by
    obtain ⟨a, b, c, e⟩ := sm_all fun x hx => h x (List.mem_cons_of_mem _ hx)
    obtain ⟨a1, b1, c1, e1⟩ := h d List.mem_cons_self
    refine ⟨?_, ?_, ?_, ?_⟩
    · simp only [PyData.showableAll, a, a1, Bool.and_self]
    · simp only [PyData.canLayAll0, b, b1, Bool.and_self]
    · simp only [PyData.depthAll]
      omega
    · simp only [wtAll, List.length_cons, Nat.add_mul]
      omega
theorem Sm.tup {n w m : Nat} {ds : List PyData} (h : ∀ d ∈ ds, Sm n w d) (l : ds.length ≤ m) : Sm (n + 1) (m * (w + 2) + 4) (.tuple ds) := by
  obtain ⟨a, b, c, e⟩ := sm_all h
  have := Nat.mul_le_mul_right (w + 2) l
  refine ⟨by simp only [PyData.showable, a], by simp only [PyData.canLay0, b], by simp only [PyData.depth]; omega, by simp only [wt]; omega⟩
theorem Sm.lst {n w m : Nat} {ds : List PyData} (h : ∀ d ∈ ds, Sm n w d) (l : ds.length ≤ m) : Sm (n + 1) (m * (w + 2) + 4) (.list ds) := by
  obtain ⟨a, b, c, e⟩ := sm_all h
  have := Nat.mul_le_mul_right (w + 2) l
  refine ⟨by simp only [PyData.showable, a], by simp only [PyData.canLay0, b], by simp only [PyData.depth]; omega, by simp only [wt]; omega⟩
theorem sm_nil {n w : Nat} : ∀ d ∈ ([] : List PyData), Sm n w d := fun _ h => nomatch h
theorem sm_cons {n w : Nat} {d : PyData} {ds : List PyData} (h : Sm n w d) (r : ∀ d ∈ ds, Sm n w d) : ∀ x ∈ d :: ds, Sm n w x := fun x hx => by
  rcases List.mem_cons.mp hx with rfl | hx
  · exact h
  · exact r x hx
/-- a leaf -/
local macro_rules | `(tactic| walk_at "sm0") => `(tactic| first
  | exact My.Sm.non
  | exact My.Sm.bl
  | (refine My.Sm.int ?_; omega)
  | (refine My.Sm.int ?_; decide)
  | (refine My.Sm.str ?_ ?_ <;> walk_at "txt"))
local macro_rules | `(tactic| walk_at "txt") => `(tactic| first | assumption | omega | decide +kernel)
local macro_rules | `(tactic| walk_at "sml") => `(tactic| first
  | exact My.sm_nil
  | (refine My.sm_cons ?_ ?_; walk_at "smd"; walk_at "sml"))
local macro_rules | `(tactic| walk_at "smd") => `(tactic| first
  | assumption
  | walk_at "sm0"
  | ((refine My.Sm.mono (My.Sm.tup (n := 0) (w := 2000) (m := 12) ?_ ?_) (by decide) (by decide)); walk_at "sml"; (simp; done))
  | ((refine My.Sm.mono (My.Sm.lst (n := 0) (w := 2000) (m := 12) ?_ ?_) (by decide) (by decide)); walk_at "sml"; (simp; done)))
/-- data that is not too big: a leaf; leaves; rows of leaves -/
local macro_rules | `(tactic| walk_at "ok") => `(tactic| first
  | assumption
  | exact .inl rfl
  | (refine My.Sm.ok (n := 0) (w := 2000) ?_; walk_at "sm0")
  | (refine My.Sm.ok (My.Sm.tup (n := 0) (w := 2000) (m := 50) ?_ ?_); walk_at "sml"; (simp; done))
  | (refine My.Sm.ok (My.Sm.lst (n := 0) (w := 2000) (m := 50) ?_ ?_); walk_at "sml"; (simp; done))
  | (refine My.Sm.ok (My.Sm.tup (n := 1) (w := 26000) (m := 50) ?_ ?_); walk_at "sml"; (simp; done))
  | (refine My.Sm.ok (My.Sm.lst (n := 1) (w := 26000) (m := 50) ?_ ?_); walk_at "sml"; (simp; done)))
/-- what a value is as data -/
local macro_rules | `(tactic| walk_at "dq") => `(tactic| first
  | assumption
  | exact L2.Dp.non
  | exact L2.Dp.bl _
  | exact L2.Dp.int _
  | exact L2.Dp.str _
  | ((refine L2.Dp.tup (xs := ?hx) (ds := ?hd) ?hh ?ha); (case hh => walk_at "st"); (case ha => walk_at "da"))
  | ((refine L2.Dp.lst (xs := ?hx) (ds := ?hd) ?hh ?ha); (case hh => walk_at "sl"); (case ha => walk_at "da"))
  | ((refine My.dp_same (H := ?hH) ?hs ?hd _ ?hh); (case hh => assumption); (case hs => walk_at "sm")))
local macro_rules | `(tactic| walk_at "da") => `(tactic| first
  | assumption
  | exact L2.DpAll.nil
  | ((refine L2.DpAll.cons (d := ?hd) (ds := ?he) ?h1 ?h2); (case h1 => walk_at "dq"); (case h2 => walk_at "da")))
local macro_rules | `(tactic| walk_at "dp") => `(tactic| first
  | assumption
  | ((refine My.DpE.dp (d := ?hd) ?hh); (case hh => walk_at "dq"))
  | (refine My.DpE.dK ?hh; walk_at "hp")
  | ((refine My.DpE.same (H := ?hH) (d := ?hd) ?hs ?hh); (case hh => assumption); (case hs => walk_at "sm")))
theorem rd_rZ {K : PySem.W.Frag} {H : Hp} {Q : VK} {v : V} {d : PyData} (q : ∀ z, z = d.shown → Q (.str z) H) (hd : DpE K H v d := by walk_at "dp") (h : okD d := by walk_at "ok") : rReprE K [v] H Q := rd_rEg hd h q
theorem rd_neB {K : PySem.W.Frag} {H : Hp} {Q : VK} {x y : V} {d e : PyData} (q : Q (.bl (!PyData.eqv d e)) H) (hd : Dp K H x d := by walk_at "dq") (he : Dp K H y e := by walk_at "dq") (sd : SeqAt.shaped d = true := by walk_at "shp") (se : SeqAt.shaped e = true := by walk_at "shp") : rNeD K x y H Q := rd_neD hd he sd se q
theorem rd_eqB {K : PySem.W.Frag} {H : Hp} {Q : VK} {x y : V} {d e : PyData} (q : Q (.bl (PyData.eqv d e)) H) (hd : Dp K H x d := by walk_at "dq") (he : Dp K H y e := by walk_at "dq") (sd : SeqAt.shaped d = true := by walk_at "shp") (se : SeqAt.shaped e = true := by walk_at "shp") : rEqD K x y H Q := rd_eqD hd he sd se q
theorem okD.shp {d : PyData} (h : okD d) (n : d ≠ .dict []) : SeqAt.shaped d = true := h.shaped.resolve_left n
local macro_rules | `(tactic| walk_at "shp") => `(tactic| first
  | assumption
  | decide +kernel
  | (refine My.okD.shp ?_ nofun; walk_at "ok"))
/-- shown texts of one datum are one -/
theorem ite_same {a b : Str} {A B : Prop} (h : a = b) (q : B) : if (!decide (V.str a = V.str b)) = true then A else B := by
  subst h
  exact iteFd (by simp) q
theorem ite_sameP {a b : Str} {A B : Prop} (h : a = b) (q : A) : if decide (V.str a = V.str b) = true then A else B := by
  subst h
  exact iteTd (by simp) q
theorem rd_intD {H : Hp} {Q : VK} {b : Bool} {i : Int} (h : (if b then 1 else 0) = i) (q : Q (.int i) H) : rInt1 [.bl b] H Q := .inr ⟨b, rfl, h ▸ q⟩
theorem rd_slB {K : PySem.W.Frag} {H : Hp} {Q : VK} {a : Addr} {xs ys : List V} {lo hi : Option Int} (q : ∀ p H', Same H H' → H' p = some (.tup ys) → Q (.ref p) H') (h : H a = some (.tup xs) := by walk_at "hp") (e : cutV xs lo hi = ys := by rfl) : rSlA K (.ref a) lo hi H Q := rd_slA h fun p H' s e' => q p H' s (e ▸ e')
theorem rd_catX {K : PySem.W.Frag} {H : Hp} {Q : VK} {a b : Addr} {xs ys : List V} (q : ∀ p H', Same H H' → H' p = some (.tup (xs ++ ys)) → Q (.ref p) H') (h1 : H a = some (.tup xs) := by walk_at "hp") (h2 : H b = some (.tup ys) := by walk_at "hp") (hz : xs.length + ys.length ≤ 100000 := by (first | decide | omega | (simp; done) | (simp; omega))) : rCatA K (.ref a) (.ref b) H Q :=
  ⟨a, b, xs, ys, rfl, rfl, sqT_of h1, sqT_of h2, Nat.le_trans hz (by decide), fun e => q b H (Same.refl H) (by rw [e]; exact h2), fun _ e => q a H (Same.refl H) (by rw [e, List.append_nil]; exact h1), fun _ _ p hp => q p _ (fun b x e => by rw [upd_ne (ne_of_none e hp)]; exact e) upd_same⟩
theorem cutV_to {xs : List V} {n : Nat} : cutV xs none (some (n : Int)) = xs.take n := by
  show ((xs.drop 0).take (HT.sIx xs.length xs.length (some (n : Int)) - 0)) = _
  rw [HT.sIx_nat, List.drop_zero, Nat.sub_zero, List.take_eq_take_iff]
  omega
theorem cutV_from {xs : List V} {n : Nat} : cutV xs (some (n : Int)) none = xs.drop n := by
  show ((xs.drop (HT.sIx xs.length 0 (some (n : Int)))).take (xs.length - HT.sIx xs.length 0 (some (n : Int)))) = _
  rw [HT.sIx_nat]
  by_cases h : n ≤ xs.length
  · rw [Nat.min_eq_left h, List.take_of_length_le (by rw [List.length_drop]; exact Nat.le_refl _)]
  · rw [List.drop_eq_nil_of_le (by omega : xs.length ≤ n), List.drop_eq_nil_of_le (by omega), List.take_nil]

theorem none_of {H H' : Hp} {p : Addr} (e : Same H H') (h : H' p = none) : H p = none := by
  cases h1 : H p with
  | none => rfl
  | some o => exact absurd ((e _ _ h1).symm.trans h) nofun
section
variable {K : PySem.W.Frag} {σ : L2.St} {H : Hp} {Q : VK} {v : V}
/-- a comprehension each of whose items is a new tuple -/
theorem lc_rows {J : It} {n : Nat} {G : Hp → Prop} {Y : Nat → Hp → V → Hp → Prop} {te : TE} {tt : TT} {g : TG} {vs : List Nat} {H1 : Hp} (w : Walk J n G Y) (hz : n ≤ 100000) (Yx : Nat → V → Prop) (hY : ∀ i H x H', i < n → G H → Y i H x H' → H' = H ∧ Yx i x)
    (hG : ∀ Hx, Same H1 Hx → G Hx) (s2 : Nat → V → L2.St) (b : Nat → Bool) (r : Nat → List V)
    (hs : ∀ i x Hx, i < n → Same H1 Hx → Yx i x → wipe (s2 i x) vs = wipe σ vs ∧ (∀ P : L2.St → Hp → Prop, P (s2 i x) Hx → g x (wipe σ vs) Hx P) ∧ (∀ P : Bool → Hp → Prop, P (b i) Hx → tt (s2 i x) Hx P) ∧
      (b i = true → ∀ Qc : VK, (∀ t H', Same Hx H' → H' t = some (.tup (r i)) → Qc (.ref t) H') → te (s2 i x) Hx Qc))
    (hq : ∀ D ps H', Nn H1 D → Same H1 H' → H' D = some (.lst ps) → RowsAt H' ps (((List.range n).filter b).map r) → Q (.ref D) H') : LcGo J g tt (tFrm te) vs σ H1 Q := by
  refine lcgoG w hz Yx hY (fun i acc H => Same H1 H ∧ RowsAt H acc (((List.range i).filter b).map r)) ⟨Same.refl _, .nil⟩ (fun i acc H D _ p hD => hG _ (p.1.trans (same_new hD))) ?_ ?_
  · rintro i x acc H D hi hla ⟨sH, hr⟩ hD yx
    obtain ⟨h1, h2, h3, h4⟩ := hs i x (upd H D (.lst acc)) hi (sH.trans (same_new hD)) yx
    obtain ⟨_, _, _, h5⟩ := hs i x H hi sH yx
    have er : List.range (i + 1) = List.range i ++ [i] := List.range_succ
    refine ⟨s2 i x, b i, h1, h2, h3, fun hb => ⟨sH, ?_⟩, fun hb Qc q => h5 hb Qc fun t H' s e => q _ _ ⟨sH.trans s, ?_⟩⟩
    · rw [er, List.filter_append, List.filter_cons, hb]
      simpa using hr
    · rw [er, List.filter_append, List.filter_cons, hb, List.map_append]
      exact (hr.keep s).snoc e
  · rintro acc H D hla ⟨sH, hr⟩ hD
    exact hq D acc _ ⟨none_of sH hD⟩ (sH.trans (same_new hD)) upd_same (hr.keep (same_new hD))
theorem range_map {α : Type} {xs : List α} {β : Type} {r : Nat → β} {f : α → β} (h : ∀ i x, xs[i]? = some x → r i = f x) : (List.range xs.length).map r = xs.map f := by
  refine List.ext_getElem? fun i => ?_
  rw [List.getElem?_map, List.getElem?_map]
  by_cases hi : i < xs.length
  · rw [List.getElem?_range hi, List.getElem?_eq_getElem hi, Option.map_some, Option.map_some, h i _ (List.getElem?_eq_getElem hi)]
  · rw [List.getElem?_eq_none (by simpa using hi), List.getElem?_eq_none (by omega)]
    rfl
theorem filter_true {α : Type} {l : List α} : l.filter (fun _ => true) = l := List.filter_eq_self.mpr fun _ _ => rfl
/-- .. of a list's items, each of them one name -/
theorem lc_tups {te : TE} {vs : List Nat} {k : Nat} {p : Addr} {xs : List V} (f : V → List V) (hS : SqL K H p xs) (hz : xs.length ≤ 100000) (hw : ∀ x, wipe ((wipe σ vs).set k (some x)) vs = wipe σ vs)
    (he : ∀ x ∈ xs, ∀ Hx (Qc : VK), Same H Hx → (∀ t H', Same Hx H' → H' t = some (.tup (f x)) → Qc (.ref t) H') → te ((wipe σ vs).set k (some x)) Hx Qc)
    (hq : ∀ D ps H', Nn H D → Same H H' → H' D = some (.lst ps) → RowsAt H' ps (xs.map f) → Q (.ref D) H') : LcGo (Itl K p) (gName k) tYes (tFrm te) vs σ H Q := by
  refine lc_rows walk_list hz (fun i x => xs[i]? = some x) (fun i H x H' _ _ y => y) (fun Hx s => s.seq hS) (fun _ x => (wipe σ vs).set k (some x)) (fun _ => true) (fun i => f (xs[i]?.getD .non)) ?_ ?_
  · rintro i x Hx hi s yx
    refine ⟨hw x, fun P p => p, fun P p => p, fun _ Qc q => he x (List.mem_of_getElem? yx) Hx Qc s fun t H' s' e => q t H' s' ?_⟩
    rw [yx]
    exact e
  · intro D ps H' n s e r
    refine hq D ps H' n s e ?_
    rw [filter_true, range_map (f := f) (xs := xs) fun i x e => by rw [e]; rfl] at r
    exact r
theorem rd_tupT {xs : List V} (hz : xs.length ≤ 100000) (q : ∀ t H', Same H H' → H' t = some (.tup xs) → Q (.ref t) H') : TupK Q xs H := rd_tupA hz fun p H' _ s e => q p H' s e
end

/-- a thing: a text, not long; a number, a truth, None; a list, a tuple, a dict -/
def ThingAt (K : PySem.W.Frag) (H : Hp) : V → Prop
  | .str z => z.length ≤ 2000
  | .int _ => True
  | .bl _ => True
  | .non => True
  | .ref a => ∃ t, TyOf K H (.ref a) (.type t) ∧ (t = "list" ∨ t = "tuple" ∨ t = "dict")
  | _ => False
theorem tyof_keep {K : PySem.W.Frag} {H H' : Hp} {v : V} {t : Value} (b : TyOf K H v t) (e : Same H H') : TyOf K H' v t := by
  cases b with
  | non => exact .non
  | bl x => exact .bl x
  | int i => exact .int i
  | str x => exact .str x
  | flt x => exact .flt x
  | lst h => exact .lst (e _ _ h)
  | frz h => exact .frz (e _ _ h)
  | tup h => exact .tup (e _ _ h)
  | dK h => exact .dK (e _ _ h)
  | dT h => exact .dT (e _ _ h)
  | ins h a b c d m => exact .ins (e _ _ h) a b c d m
theorem ThingAt.keep {K : PySem.W.Frag} {H H' : Hp} {v : V} (h : ThingAt K H v) (e : Same H H') : ThingAt K H' v := by
  cases v with
  | ref a =>
    obtain ⟨t, h1, h2⟩ := h
    exact ⟨t, tyof_keep h1 e, h2⟩
  | _ => exact h
def isIB : V → Bool
  | .int _ => true
  | .bl _ => true
  | _ => false
def isBl : V → Bool
  | .bl _ => true
  | _ => false
def isStr : V → Bool
  | .str _ => true
  | _ => false
def wholeV : V → Bool
  | .int _ => true
  | _ => false
def withinV (v : V) (lo hi : Int) : Bool := match v with
  | .int i => decide (lo ≤ i) && decide (i ≤ hi)
  | _ => false
theorem thing_ty {K : PySem.W.Frag} {H : Hp} {v : V} (h : ThingAt K H v) : ∃ t, TyX K H v (.type t) ∧ kitB t "int" = some (isIB v) ∧ kitB t "bool" = some (isBl v) ∧ kitB t "str" = some (isStr v) := by
  cases v with
  | non => exact ⟨_, .base .non, by decide +kernel, by decide +kernel, by decide +kernel⟩
  | bl b => exact ⟨_, .base (.bl b), by show kitB "bool" "int" = some true; decide +kernel, by show kitB "bool" "bool" = some true; decide +kernel, by show kitB "bool" "str" = some false; decide +kernel⟩
  | int i => exact ⟨_, .base (.int i), by show kitB "int" "int" = some true; decide +kernel, by show kitB "int" "bool" = some false; decide +kernel, by show kitB "int" "str" = some false; decide +kernel⟩
  | str z => exact ⟨_, .base (.str z), by show kitB "str" "int" = some false; decide +kernel, by show kitB "str" "bool" = some false; decide +kernel, by show kitB "str" "str" = some true; decide +kernel⟩
  | ref a =>
    obtain ⟨t, h1, h2⟩ := h
    refine ⟨t, .base h1, ?_, ?_, ?_⟩
    · show kitB t "int" = some false
      rcases h2 with rfl | rfl | rfl <;> decide +kernel
    · show kitB t "bool" = some false
      rcases h2 with rfl | rfl | rfl <;> decide +kernel
    · show kitB t "str" = some false
      rcases h2 with rfl | rfl | rfl <;> decide +kernel
  | byt _ => exact h.elim
  | flt _ => exact h.elim
  | ty _ => exact h.elim
def isLet (c : Nat) : Bool := decide (97 ≤ c ∧ c ≤ 122)
def nameS (z : Str) : Bool := decide (1 ≤ z.length ∧ z.length ≤ 8) && z.cps.toList.all isLet
def nameV : V → Bool
  | .str z => nameS z
  | _ => false
theorem lets_list : (Str.ofString "abcdefghijklmnopqrstuvwxyz").cps.toList = (List.range 26).map (97 + ·) := by decide +kernel
theorem isLet_in (c : Nat) : decide (c ∈ (Str.ofString "abcdefghijklmnopqrstuvwxyz").cps.toList) = isLet c := by
  rw [lets_list]
  unfold isLet
  congr 1
  rw [eq_iff_iff, List.mem_map]
  constructor
  · rintro ⟨a, ha, rfl⟩
    have := List.mem_range.mp ha
    omega
  · intro h
    exact ⟨c - 97, List.mem_range.mpr (by omega), by omega⟩
/-- a channel's numbers and names -/
structure Ch where
  name : Str
  one : Str
  other : Str
  hours : Int
  depth : Int
  first : Int
  growth : Int
  most : Int
def chOk (c : Ch) : Prop := 0 ≤ c.first ∧ c.first ≤ 1000000 ∧ 1 ≤ c.hours ∧ c.hours ≤ 1000 ∧ 0 ≤ c.depth ∧ c.depth ≤ 1000 ∧ 0 ≤ c.growth ∧ c.growth ≤ 1000 ∧ c.first ≤ c.most ∧ c.most ≤ 1000000
def chV (c : Ch) : List V := [.str c.name, .str c.one, .str c.other, .int c.hours, .int c.depth, .int c.first, .int c.growth, .int c.most]
def chF (c : Ch) : List (Str × V) := [("name", .str c.name), ("one", .str c.one), ("other", .str c.other), ("hours", .int c.hours), ("depth", .int c.depth), ("first", .int c.first), ("growth", .int c.growth), ("most", .int c.most)]
theorem chl_name (c : Ch) : (chF c).lookup ("name" : Str) = some (.str c.name) := by kernel_rfl
theorem chl_one (c : Ch) : (chF c).lookup ("one" : Str) = some (.str c.one) := by kernel_rfl
theorem chl_other (c : Ch) : (chF c).lookup ("other" : Str) = some (.str c.other) := by kernel_rfl
theorem chl_hours (c : Ch) : (chF c).lookup ("hours" : Str) = some (.int c.hours) := by kernel_rfl
theorem chl_depth (c : Ch) : (chF c).lookup ("depth" : Str) = some (.int c.depth) := by kernel_rfl
theorem chl_first (c : Ch) : (chF c).lookup ("first" : Str) = some (.int c.first) := by kernel_rfl
theorem chl_growth (c : Ch) : (chF c).lookup ("growth" : Str) = some (.int c.growth) := by kernel_rfl
theorem chl_most (c : Ch) : (chF c).lookup ("most" : Str) = some (.int c.most) := by kernel_rfl
local macro_rules | `(tactic| walk_at "lk") => `(tactic| with_reducible first | exact My.chl_name _ | exact My.chl_one _ | exact My.chl_other _ | exact My.chl_hours _ | exact My.chl_depth _ | exact My.chl_first _ | exact My.chl_growth _ | exact My.chl_most _)
def putAll : List (Str × V) → List (Str × V) → List (Str × V)
  | [], fs => fs
  | (f, v) :: r, fs => putAll r (putF f v fs)
theorem ch_put (c : Ch) : putF "most" (.int c.most) (putF "growth" (.int c.growth) (putF "first" (.int c.first) (putF "depth" (.int c.depth) (putF "hours" (.int c.hours) (putF "other" (.str c.other) (putF "one" (.str c.one) (putF "name" (.str c.name) []))))))) = chF c := by kernel_rfl
theorem putF_len (f : Str) (v : V) : ∀ fs : List (Str × V), (putF f v fs).length ≤ fs.length + 1
  | [] => by simp [putF]
  | (g, x) :: r => by
    unfold putF
    split
    · simp
    · have := putF_len f v r
      simp only [List.length_cons]
      omega
/-- the first of a list that is not so -/
theorem find_step {α : Type} {f : α → Bool} {xs : List α} {i : Nat} {x : α} (h : (xs.take i).find? f = none) (hx : xs[i]? = some x) : (f x = false → (xs.take (i + 1)).find? f = none) ∧ (f x = true → xs.find? f = some x) := by
  have e : xs.take (i + 1) = xs.take i ++ [x] := by rw [List.take_add_one, hx]; rfl
  have e2 : (xs.take (i + 1)).find? f = [x].find? f := by rw [e, List.find?_append, h, Option.none_or]
  refine ⟨fun hf => ?_, fun hf => ?_⟩
  · rw [e2, List.find?_cons, hf]
    rfl
  · rw [← List.take_append_drop (i + 1) xs, List.find?_append, e2, List.find?_cons, hf]
    rfl
/-- the first refusal that is due of the eight things of a channel: which (0 NoName, 1 Doubled, 2 NoNumber), and of what -/
def intOf : V → Int
  | .int i => i
  | _ => 0
def badN (r : V × Int × Int) : Bool := !withinV r.1 r.2.1 r.2.2
def chanRef (nm one oth h d f g m : V) : Option (Nat × V) :=
  match [nm, one, oth].find? (fun v => !nameV v) with
  | some v => some (0, v)
  | none => if one = oth then some (1, one) else
    match [(h, 1, 1000), (d, 0, 1000), (f, 0, 1000000)].find? badN with
    | some r => some (2, r.1)
    | none => match [(g, 0, 1000), (m, intOf f, 1000000)].find? badN with
      | some r => some (2, r.1)
      | none => none
theorem KeepB.put {a : Addr} {H H' : Hp} {o : HO} (k : KeepB a H H') : KeepB a H (upd H' a o) := fun b x h n => by
  rw [upd_ne n]
  exact k b x h n
theorem name_str {v : V} (h : nameV v = true) : ∃ z : Str, v = .str z := by
  cases v with
  | str z => exact ⟨z, rfl⟩
  | _ => cases h
theorem in_int {v : V} {lo hi : Int} (h : badN (v, lo, hi) = false) : ∃ i : Int, v = .int i := by
  cases v with
  | int i => exact ⟨i, rfl⟩
  | _ => cases h
/-! ### ice, hour by hour -/
/-- the sum of the cuts of an hour -/
def cutSum (bs : List (Int × Int)) (h : Int) : Int := ((bs.filter fun b => decide (b.1 = h)).map (·.2)).sum
/-- a channel's numbers of ice, and the begin -/
structure Wy where
  first : Int
  growth : Int
  most : Int
  since : Int
structure WyOk (w : Wy) : Prop where
  f0 : 0 ≤ w.first
  g0 : 0 ≤ w.growth
  fm : w.first ≤ w.most
/-- the ice ahead of the breakings, so many hours behind the begin -/
def lev (w : Wy) (bs : List (Int × Int)) : Nat → Int
  | 0 => w.first
  | k + 1 => min w.most (max 0 (lev w bs k - cutSum bs (w.since + (k : Nat))) + w.growth)
def beh (w : Wy) (bs : List (Int × Int)) (k : Nat) : Int := max 0 (lev w bs k - cutSum bs (w.since + (k : Nat)))
/-- the ice of an hour, ahead and behind -/
def aH (w : Wy) (bs : List (Int × Int)) (h : Int) : Int := lev w bs (h - w.since).toNat
def bH (w : Wy) (bs : List (Int × Int)) (h : Int) : Int := beh w bs (h - w.since).toNat
def grow (w : Wy) (l gap : Int) : Int := min w.most (l + w.growth * gap)
theorem cutSum_zero {bs : List (Int × Int)} {h : Int} (n : ∀ b ∈ bs, b.1 ≠ h) : cutSum bs h = 0 := by
  unfold cutSum
  rw [List.filter_eq_nil_iff.mpr fun b hb => by simpa using n b hb]
  rfl
theorem sum_perm {xs ys : List Int} (h : xs.Perm ys) : xs.sum = ys.sum := by
  induction h with
  | nil => rfl
  | cons x _ ih => rw [List.sum_cons, List.sum_cons, ih]
  | swap x y l => rw [List.sum_cons, List.sum_cons, List.sum_cons, List.sum_cons]; omega
  | trans _ _ a b => exact a.trans b
theorem cutSum_perm {bs cs : List (Int × Int)} (p : bs.Perm cs) (h : Int) : cutSum bs h = cutSum cs h := sum_perm ((p.filter _).map _)
theorem lev_perm {w : Wy} {bs cs : List (Int × Int)} (p : bs.Perm cs) : ∀ k, lev w bs k = lev w cs k
  | 0 => rfl
  | k + 1 => by
    unfold lev
    rw [lev_perm p k, cutSum_perm p]
theorem beh_perm {w : Wy} {bs cs : List (Int × Int)} (p : bs.Perm cs) (k : Nat) : beh w bs k = beh w cs k := by
  unfold beh
  rw [lev_perm p, cutSum_perm p]
theorem aH_perm {w : Wy} {bs cs : List (Int × Int)} (p : bs.Perm cs) (h : Int) : aH w bs h = aH w cs h := lev_perm p _
theorem bH_perm {w : Wy} {bs cs : List (Int × Int)} (p : bs.Perm cs) (h : Int) : bH w bs h = bH w cs h := beh_perm p _
theorem beh_0 {w : Wy} {bs : List (Int × Int)} {k : Nat} : 0 ≤ beh w bs k := Int.le_max_left _ _
theorem lev_lo {w : Wy} (o : WyOk w) {bs : List (Int × Int)} : ∀ k, 0 ≤ lev w bs k
  | 0 => o.f0
  | k + 1 => by
    have := o.f0; have := o.g0; have := o.fm
    have h : 0 ≤ beh w bs k := beh_0
    show 0 ≤ min w.most (beh w bs k + w.growth)
    omega
theorem lev_hi {w : Wy} (o : WyOk w) {bs : List (Int × Int)} : ∀ k, lev w bs k ≤ w.most
  | 0 => o.fm
  | k + 1 => Int.min_le_left _ _
theorem beh_hi {w : Wy} (o : WyOk w) {bs : List (Int × Int)} (hb : ∀ b ∈ bs, 0 ≤ b.2) (k : Nat) : beh w bs k ≤ lev w bs k := by
  have h0 : 0 ≤ cutSum bs (w.since + (k : Nat)) := by
    unfold cutSum
    generalize hl : (bs.filter fun b => decide (b.1 = w.since + (k : Nat))) = l
    have hm : ∀ b ∈ l, 0 ≤ b.2 := fun b h => hb b (List.mem_filter.mp (hl ▸ h)).1
    clear hl
    induction l with
    | nil => exact Int.le_refl _
    | cons a r ih =>
      rw [List.map_cons, List.sum_cons]
      have := hm a List.mem_cons_self
      have := ih fun b h => hm b (List.mem_cons_of_mem _ h)
      omega
  have := lev_lo o (bs := bs) k
  unfold beh
  omega
/-- between two hours without breakings between them the ice grows -/
theorem lev_gap {w : Wy} (o : WyOk w) {bs : List (Int × Int)} (p : Nat) : ∀ n : Nat, (∀ j : Nat, p < j → j < p + n + 1 → cutSum bs (w.since + (j : Nat)) = 0) → lev w bs (p + n + 1) = grow w (beh w bs p) ((n + 1 : Nat) : Int)
  | 0, _ => by
    show min w.most (beh w bs p + w.growth) = min w.most (beh w bs p + w.growth * ((0 + 1 : Nat) : Int))
    rw [show ((0 + 1 : Nat) : Int) = 1 from rfl, Int.mul_one]
  | n + 1, h => by
    have ih := lev_gap o p n fun j a b => h j a (by omega)
    have z := h (p + n + 1) (by omega) (by omega)
    have l0 := lev_lo o (bs := bs) (p + n + 1)
    show min w.most (max 0 (lev w bs (p + n + 1) - cutSum bs (w.since + ((p + n + 1 : Nat) : Int))) + w.growth) = _
    rw [z, show max 0 (lev w bs (p + n + 1) - 0) = lev w bs (p + n + 1) by omega, ih]
    unfold grow
    have e : w.growth * ((n + 1 + 1 : Nat) : Int) = w.growth * ((n + 1 : Nat) : Int) + w.growth := by
      rw [show ((n + 1 + 1 : Nat) : Int) = ((n + 1 : Nat) : Int) + 1 by omega, Int.mul_add, Int.mul_one]
    rw [e]
    have := o.g0
    generalize w.growth * ((n + 1 : Nat) : Int) = t
    omega
theorem bH_eq {w : Wy} {bs : List (Int × Int)} {h : Int} (h0 : w.since ≤ h) : bH w bs h = max 0 (aH w bs h - cutSum bs h) := by
  unfold bH beh aH
  rw [show w.since + ((h - w.since).toNat : Int) = h by omega]
theorem aH_first {w : Wy} {bs : List (Int × Int)} : aH w bs w.since = w.first := by
  unfold aH
  rw [Int.sub_self]
  rfl
theorem aH_gap {w : Wy} (o : WyOk w) {bs : List (Int × Int)} {p q : Int} (hp : w.since ≤ p) (hq : p < q) (h : ∀ j, p < j → j < q → cutSum bs j = 0) : aH w bs q = grow w (bH w bs p) (q - p) := by
  obtain ⟨a, rfl⟩ : ∃ a : Nat, p = w.since + (a : Int) := ⟨(p - w.since).toNat, by omega⟩
  obtain ⟨n, rfl⟩ : ∃ n : Nat, q = w.since + (a : Int) + ((n + 1 : Nat) : Int) := ⟨(q - (w.since + (a : Int)) - 1).toNat, by omega⟩
  have e := lev_gap o (bs := bs) a n fun j h1 h2 => h (w.since + (j : Nat)) (by omega) (by omega)
  unfold aH bH
  rw [show (w.since + (a : Int) + ((n + 1 : Nat) : Int) - w.since).toNat = a + n + 1 by omega, e, show (w.since + (a : Int) - w.since).toNat = a by omega]
  congr 1
  omega
theorem grow_0 {w : Wy} (o : WyOk w) {bs : List (Int × Int)} {h : Int} (hb : ∀ b ∈ bs, 0 ≤ b.2) : grow w (bH w bs h) 0 = bH w bs h := by
  have a := lev_hi o (bs := bs) (h - w.since).toNat
  have b := beh_hi o hb (h - w.since).toNat
  unfold grow bH
  rw [Int.mul_zero]
  omega
theorem bH_gap {w : Wy} (o : WyOk w) {bs : List (Int × Int)} {p q : Int} (hb : ∀ b ∈ bs, 0 ≤ b.2) (hp : w.since ≤ p) (hq : p ≤ q) (h : ∀ j, p < j → j ≤ q → cutSum bs j = 0) : bH w bs q = grow w (bH w bs p) (q - p) := by
  by_cases e : p = q
  · subst e
    rw [Int.sub_self, grow_0 o hb]
  · have a := aH_gap (q := q) o hp (by omega) fun j a b => h j a (by omega)
    have l0 := lev_lo o (bs := bs) (q - w.since).toNat
    rw [bH_eq (by omega), h q (by omega) (Int.le_refl _), ← a]
    unfold aH
    omega
theorem aH_lo {w : Wy} (o : WyOk w) {bs : List (Int × Int)} {h : Int} : 0 ≤ aH w bs h := lev_lo o _
theorem aH_hi {w : Wy} (o : WyOk w) {bs : List (Int × Int)} {h : Int} : aH w bs h ≤ w.most := lev_hi o _
theorem bH_lo {w : Wy} {bs : List (Int × Int)} {h : Int} : 0 ≤ bH w bs h := beh_0
theorem bH_hi {w : Wy} (o : WyOk w) {bs : List (Int × Int)} {h : Int} (hb : ∀ b ∈ bs, 0 ≤ b.2) : bH w bs h ≤ w.most := Int.le_trans (beh_hi o hb _) (lev_hi o _)
theorem srt_uniq {xs ys : List Int} (h1 : xs.Pairwise (· < ·)) (h2 : ys.Pairwise (· < ·)) (h : ∀ k, k ∈ xs ↔ k ∈ ys) : xs = ys := by
  have n1 : xs.Nodup := h1.imp fun h => by omega
  have n2 : ys.Nodup := h2.imp fun h => by omega
  exact ((List.perm_ext_iff_of_nodup n1 n2).mpr h).eq_of_pairwise (le := (· < ·)) (fun a b _ _ h h2 => by omega) h1 h2
def lexLe (a b : Int × Int) : Prop := a.1 < b.1 ∨ (a.1 = b.1 ∧ a.2 ≤ b.2)
theorem lex_uniq {xs ys : List (Int × Int)} (h1 : xs.Pairwise lexLe) (h2 : ys.Pairwise lexLe) (h : xs.Perm ys) : xs = ys :=
  h.eq_of_pairwise (le := lexLe) (fun a b _ _ h h2 => by unfold lexLe at h h2; exact Prod.ext (by omega) (by omega)) h1 h2

/-! sorted, told once -/
def srtI (ns : List Int) : List Int := ns.mergeSort fun a b => decide (a ≤ b)
theorem srtI_perm (ns : List Int) : (srtI ns).Perm ns := List.mergeSort_perm ..
theorem srtI_le (ns : List Int) : (srtI ns).Pairwise (· ≤ ·) :=
  (List.pairwise_mergeSort (le := fun a b : Int => decide (a ≤ b)) (fun a b c h1 h2 => decide_eq_true (Int.le_trans (of_decide_eq_true h1) (of_decide_eq_true h2)))
    (fun a b => by
      rcases Int.le_total a b with h | h <;> simp [h]) ns).imp fun h => of_decide_eq_true h
theorem srtI_uniq {ys ns : List Int} (p : ys.Perm ns) (s : ys.Pairwise (· ≤ ·)) : ys = srtI ns :=
  (p.trans (srtI_perm ns).symm).eq_of_pairwise (le := (· ≤ ·)) (fun a b _ _ h h2 => Int.le_antisymm h h2) s (srtI_le ns)
def ddI : List Int → List Int
  | [] => []
  | x :: r => if x ∈ r then ddI r else x :: ddI r
theorem mem_ddI {x : Int} : ∀ {l : List Int}, x ∈ ddI l ↔ x ∈ l
  | [] => Iff.rfl
  | y :: r => by
    unfold ddI
    split
    · rename_i h
      rw [mem_ddI, List.mem_cons]
      exact ⟨.inr, fun e => e.elim (fun e => e ▸ h) id⟩
    · rw [List.mem_cons, List.mem_cons, mem_ddI]
theorem nodup_ddI : ∀ l : List Int, (ddI l).Nodup
  | [] => List.nodup_nil
  | y :: r => by
    unfold ddI
    split
    · exact nodup_ddI r
    · rename_i h
      exact List.nodup_cons.mpr ⟨fun e => h (mem_ddI.mp e), nodup_ddI r⟩
theorem lt_of_le {l : List Int} (h : l.Pairwise (· ≤ ·)) (n : l.Nodup) : l.Pairwise (· < ·) := (h.and n).imp fun ⟨a, b⟩ => by omega
/-- the hours that have breakings, rising -/
def hoursOf (bs : List (Int × Int)) : List Int := srtI (ddI (bs.map (·.1)))
theorem mem_hoursOf {bs : List (Int × Int)} {h : Int} : h ∈ hoursOf bs ↔ ∃ b ∈ bs, b.1 = h := by
  unfold hoursOf
  rw [(srtI_perm _).mem_iff, mem_ddI, List.mem_map]
theorem hoursOf_lt (bs : List (Int × Int)) : (hoursOf bs).Pairwise (· < ·) := lt_of_le (srtI_le _) ((srtI_perm _).nodup_iff.mpr (nodup_ddI _))
theorem hoursOf_uniq {bs : List (Int × Int)} {ys : List Int} (l : ys.Pairwise (· < ·)) (m : ∀ h, h ∈ ys ↔ ∃ b ∈ bs, b.1 = h) : ys = hoursOf bs :=
  srt_uniq l (hoursOf_lt bs) fun k => (m k).trans mem_hoursOf.symm
theorem hoursOf_perm {bs cs : List (Int × Int)} (p : bs.Perm cs) : hoursOf bs = hoursOf cs := hoursOf_uniq (hoursOf_lt bs) fun h => mem_hoursOf.trans ⟨fun ⟨b, m, e⟩ => ⟨b, p.mem_iff.mp m, e⟩, fun ⟨b, m, e⟩ => ⟨b, p.mem_iff.mpr m, e⟩⟩
def lexB (a b : Int × Int) : Bool := decide (a.1 < b.1 ∨ (a.1 = b.1 ∧ a.2 ≤ b.2))
/-- the breakings, rising -/
def brkOf (bs : List (Int × Int)) : List (Int × Int) := bs.mergeSort lexB
theorem brkOf_perm (bs : List (Int × Int)) : (brkOf bs).Perm bs := List.mergeSort_perm ..
theorem brkOf_le (bs : List (Int × Int)) : (brkOf bs).Pairwise lexLe :=
  (List.pairwise_mergeSort (le := lexB) (fun a b c h1 h2 => by simp only [lexB, decide_eq_true_eq] at h1 h2 ⊢; omega)
    (fun a b => by simp only [lexB, Bool.or_eq_true, decide_eq_true_eq]; omega) bs).imp fun h => by
    unfold lexLe
    simpa only [lexB, decide_eq_true_eq] using h
theorem brkOf_uniq {ys bs : List (Int × Int)} (p : ys.Perm bs) (s : ys.Pairwise lexLe) : ys = brkOf bs := lex_uniq s (brkOf_le bs) (p.trans (brkOf_perm bs).symm)
theorem brkOf_of_perm {bs cs : List (Int × Int)} (p : bs.Perm cs) : brkOf bs = brkOf cs := brkOf_uniq ((brkOf_perm bs).trans p) (brkOf_le bs)
/-! a table of cuts: for each hour where its list stands, and what it holds -/
section
variable {α : Type}
def flat (L : List (Int × α × List Int)) : List (Int × Int) := L.flatMap fun t => t.2.2.map fun c => (t.1, c)
def cutsL (L : List (Int × α × List Int)) (h : Int) : List Int := ((L.find? fun t => decide (t.1 = h)).map (·.2.2)).getD []
theorem cutsL_mem {L : List (Int × α × List Int)} (n : (L.map (·.1)).Nodup) {t : Int × α × List Int} (h : t ∈ L) : L.find? (fun u => decide (u.1 = t.1)) = some t := by
  induction L with
  | nil => cases h
  | cons u r ih =>
    rw [List.map_cons, List.nodup_cons] at n
    rw [List.find?_cons]
    rcases List.mem_cons.mp h with rfl | h
    · simp
    · have : u.1 ≠ t.1 := fun e => n.1 (e ▸ List.mem_map_of_mem h)
      simp only [decide_eq_false this]
      exact ih n.2 h
theorem mem_flat {L : List (Int × α × List Int)} {b : Int × Int} : b ∈ flat L ↔ ∃ t ∈ L, t.1 = b.1 ∧ b.2 ∈ t.2.2 := by
  unfold flat
  rw [List.mem_flatMap]
  constructor
  · rintro ⟨t, ht, hb⟩
    obtain ⟨c, hc, rfl⟩ := List.mem_map.mp hb
    exact ⟨t, ht, rfl, hc⟩
  · rintro ⟨t, ht, e, hb⟩
    exact ⟨t, ht, List.mem_map.mpr ⟨b.2, hb, Prod.ext e rfl⟩⟩
theorem cutSum_flat {L : List (Int × α × List Int)} (n : (L.map (·.1)).Nodup) (h : Int) : cutSum (flat L) h = (cutsL L h).sum := by
  induction L with
  | nil => rfl
  | cons u r ih =>
    rw [List.map_cons, List.nodup_cons] at n
    have e : flat (u :: r) = (u.2.2.map fun c => (u.1, c)) ++ flat r := List.flatMap_cons
    unfold cutSum at ih ⊢
    rw [e, List.filter_append, List.map_append, List.sum_append, ih n.2]
    unfold cutsL
    rw [List.find?_cons]
    by_cases hu : u.1 = h
    · have z : ((u.2.2.map fun c => (u.1, c)).filter fun b => decide (b.1 = h)) = (u.2.2.map fun c => (u.1, c)) := by
        rw [List.filter_eq_self]
        intro b hb
        obtain ⟨c, _, rfl⟩ := List.mem_map.mp hb
        exact decide_eq_true hu
      have f : r.find? (fun t => decide (t.1 = h)) = none := by
        rw [List.find?_eq_none]
        intro t ht
        simp only [decide_eq_true_eq]
        exact fun e => n.1 (hu.trans e.symm ▸ List.mem_map_of_mem ht)
      rw [z, f, List.map_map]
      simp [hu, Function.comp_def]
    · have z : ((u.2.2.map fun c => (u.1, c)).filter fun b => decide (b.1 = h)) = [] := by
        rw [List.filter_eq_nil_iff]
        intro b hb
        obtain ⟨c, _, rfl⟩ := List.mem_map.mp hb
        simpa using hu
      rw [z]
      simp only [decide_eq_false hu, List.map_nil, List.sum_nil, Int.zero_add]
theorem hours_flat {L : List (Int × α × List Int)} (n : (L.map (·.1)).Nodup) (ne : ∀ t ∈ L, t.2.2 ≠ []) : hoursOf (flat L) = srtI (L.map (·.1)) := by
  refine (hoursOf_uniq (lt_of_le (srtI_le _) ((srtI_perm _).nodup_iff.mpr n)) fun h => ?_).symm
  rw [(srtI_perm _).mem_iff, List.mem_map]
  constructor
  · rintro ⟨t, ht, rfl⟩
    obtain ⟨c, hc⟩ := List.exists_mem_of_ne_nil _ (ne t ht)
    exact ⟨(t.1, c), mem_flat.mpr ⟨t, ht, rfl, hc⟩, rfl⟩
  · rintro ⟨b, hb, rfl⟩
    obtain ⟨t, ht, e, _⟩ := mem_flat.mp hb
    exact ⟨t, ht, e⟩
theorem perm_flatMap {β γ : Type} {f g : β → List γ} : ∀ {l : List β}, (∀ x ∈ l, (f x).Perm (g x)) → (l.flatMap f).Perm (l.flatMap g)
  | [], _ => .nil
  | x :: r, h => by
    rw [List.flatMap_cons, List.flatMap_cons]
    exact (h x List.mem_cons_self).append (perm_flatMap fun y hy => h y (List.mem_cons_of_mem _ hy))
theorem brk_flat {L : List (Int × α × List Int)} (n : (L.map (·.1)).Nodup) : brkOf (flat L) = (srtI (L.map (·.1))).flatMap fun h => (srtI (cutsL L h)).map fun c => (h, c) := by
  refine (brkOf_uniq ?_ ?_).symm
  · refine ((srtI_perm (L.map (·.1))).flatMap_right _).trans ?_
    rw [List.flatMap_map]
    refine perm_flatMap fun t ht => ?_
    have e : cutsL L t.1 = t.2.2 := by
      unfold cutsL
      rw [cutsL_mem n ht]
      rfl
    rw [e]
    exact (srtI_perm _).map _
  · rw [List.pairwise_flatMap]
    refine ⟨fun h _ => ?_, (lt_of_le (srtI_le _) ((srtI_perm _).nodup_iff.mpr n)).imp fun {a b} hab x hx y hy => ?_⟩
    · rw [List.pairwise_map]
      exact (srtI_le _).imp fun h => .inr ⟨rfl, h⟩
    · obtain ⟨c, _, rfl⟩ := List.mem_map.mp hx
      obtain ⟨d, _, rfl⟩ := List.mem_map.mp hy
      exact .inl hab
end
/-- an hour without breakings -/
theorem cutSum_no {bs : List (Int × Int)} {h : Int} (n : h ∉ hoursOf bs) : cutSum bs h = 0 := cutSum_zero fun b m e => n (mem_hoursOf.mpr ⟨b, m, e⟩)
theorem bH_begin {w : Wy} (o : WyOk w) {bs : List (Int × Int)} (n : w.since ∉ hoursOf bs) : bH w bs w.since = w.first := by
  have := o.f0
  rw [bH_eq (Int.le_refl _), aH_first, cutSum_no n]
  omega
theorem lt_get {ys : List Int} (s : ys.Pairwise (· < ·)) {i j : Nat} {a b : Int} (hi : ys[i]? = some a) (hj : ys[j]? = some b) (l : i < j) : a < b := by
  obtain ⟨h1, rfl⟩ := List.getElem?_eq_some_iff.mp hi
  obtain ⟨h2, rfl⟩ := List.getElem?_eq_some_iff.mp hj
  exact List.pairwise_iff_getElem.mp s i j h1 h2 l
theorem get_lt {ys : List Int} (s : ys.Pairwise (· < ·)) {i j : Nat} {a b : Int} (hi : ys[i]? = some a) (hj : ys[j]? = some b) (l : a < b) : i < j := by
  rcases Nat.lt_trichotomy i j with h | h | h
  · exact h
  · subst h
    rw [hi] at hj
    cases hj
    omega
  · have := lt_get s hj hi h
    omega
/-- where the walk over the hours stands: at the begin, or at the hour ahead -/
def StepAt (w : Wy) (bs : List (Int × Int)) (i : Nat) (q l : Int) : Prop := (i = 0 ∧ q = w.since ∧ l = w.first) ∨ ∃ j, i = j + 1 ∧ (hoursOf bs)[j]? = some q ∧ l = bH w bs q
theorem grow_step {w : Wy} (o : WyOk w) {bs : List (Int × Int)} (lo : ∀ b ∈ bs, w.since ≤ b.1) {i : Nat} {h q l : Int} (hh : (hoursOf bs)[i]? = some h) (st : StepAt w bs i q l) : grow w l (h - q) = aH w bs h := by
  have s := hoursOf_lt bs
  have ge : ∀ k, k ∈ hoursOf bs → w.since ≤ k := fun k m => by
    obtain ⟨b, hb, rfl⟩ := mem_hoursOf.mp m
    exact lo b hb
  have hm := ge h (List.mem_of_getElem? hh)
  rcases st with ⟨rfl, rfl, rfl⟩ | ⟨j, rfl, hj, rfl⟩
  · by_cases e : h = w.since
    · subst e
      rw [Int.sub_self, aH_first]
      have := o.fm
      unfold grow
      rw [Int.mul_zero]
      omega
    · have nm : w.since ∉ hoursOf bs := fun m => by
        obtain ⟨k, hk⟩ := List.getElem?_of_mem m
        have hk0 : k ≠ 0 := fun z => by
          subst z
          rw [hh] at hk
          exact e (Option.some.inj hk)
        have := lt_get s hh hk (by omega)
        omega
      rw [← bH_begin o nm]
      refine (aH_gap o (Int.le_refl _) (by omega) fun j a b => cutSum_no fun m => ?_).symm
      obtain ⟨k, hk⟩ := List.getElem?_of_mem m
      have := get_lt s hk hh b
      omega
  · have hq := ge q (List.mem_of_getElem? hj)
    refine (aH_gap o hq (lt_get s hj hh (Nat.lt_succ_self j)) fun k a b => cutSum_no fun m => ?_).symm
    obtain ⟨n, hn⟩ := List.getElem?_of_mem m
    have h1 := get_lt s hj hn a
    have h2 := get_lt s hn hh b
    omega
/-- the hours from which the ice grows on -/
def baseH (since : Int) (bs : List (Int × Int)) : List Int := if since ∈ hoursOf bs then hoursOf bs else since :: hoursOf bs
theorem baseH_lt {since : Int} {bs : List (Int × Int)} (lo : ∀ b ∈ bs, since ≤ b.1) : (baseH since bs).Pairwise (· < ·) := by
  unfold baseH
  split
  · exact hoursOf_lt bs
  · rename_i n
    refine List.pairwise_cons.mpr ⟨fun k m => ?_, hoursOf_lt bs⟩
    obtain ⟨b, hb, e⟩ := mem_hoursOf.mp m
    have := lo b hb
    have : k ≠ since := fun z => n (z ▸ m)
    omega
theorem since_base {since : Int} {bs : List (Int × Int)} : since ∈ baseH since bs := by
  unfold baseH
  split
  · assumption
  · exact List.mem_cons_self
theorem hours_base {since : Int} {bs : List (Int × Int)} {h : Int} (m : h ∈ hoursOf bs) : h ∈ baseH since bs := by
  unfold baseH
  split
  · exact m
  · exact List.mem_cons_of_mem _ m
theorem base_ge {since : Int} {bs : List (Int × Int)} (lo : ∀ b ∈ bs, since ≤ b.1) {h : Int} (m : h ∈ baseH since bs) : since ≤ h := by
  unfold baseH at m
  have g : ∀ h, h ∈ hoursOf bs → since ≤ h := fun h m => by
    obtain ⟨b, hb, rfl⟩ := mem_hoursOf.mp m
    exact lo b hb
  split at m
  · exact g h m
  · rcases List.mem_cons.mp m with rfl | m
    · exact Int.le_refl _
    · exact g h m
/-- the last of a rising list that is not above -/
theorem last_le {zs : List Int} (s : zs.Pairwise (· < ·)) (f : Int → Bool) (dn : ∀ a b, a < b → f b = true → f a = true) {z : Int} (hz : z ∈ zs) (fz : f z = true) :
    ∃ pre q, zs.filter f = pre ++ [q] ∧ q ∈ zs ∧ f q = true ∧ z ≤ q ∧ ∀ k ∈ zs, q < k → f k = false := by
  have ne : zs.filter f ≠ [] := List.ne_nil_of_mem (List.mem_filter.mpr ⟨hz, fz⟩)
  refine ⟨(zs.filter f).dropLast, (zs.filter f).getLast ne, (List.dropLast_concat_getLast ne).symm, ?_⟩
  have hm := List.mem_filter.mp (List.getLast_mem ne)
  have sf : (zs.filter f).Pairwise (· < ·) := s.filter _
  have top : ∀ k ∈ zs.filter f, k ≤ (zs.filter f).getLast ne := fun k mk => by
    rw [← List.dropLast_concat_getLast ne] at mk sf
    rcases List.mem_append.mp mk with mk | mk
    · have := (List.pairwise_append.mp sf).2.2 k mk _ (List.mem_singleton.mpr rfl)
      omega
    · rw [List.mem_singleton.mp mk]
      exact Int.le_refl _
  refine ⟨hm.1, hm.2, top z (List.mem_filter.mpr ⟨hz, fz⟩), fun k mk l => ?_⟩
  cases e : f k with
  | false => rfl
  | true =>
    have := top k (List.mem_filter.mpr ⟨mk, e⟩)
    omega
theorem base_last {w : Wy} (o : WyOk w) {bs : List (Int × Int)} (lo : ∀ b ∈ bs, w.since ≤ b.1) (nn : ∀ b ∈ bs, 0 ≤ b.2) {h : Int} (h0 : w.since ≤ h) :
    ∃ pre q, (baseH w.since bs).filter (fun k => decide (k ≤ h)) = pre ++ [q] ∧ w.since ≤ q ∧ q ≤ h ∧ grow w (bH w bs q) (h - q) = bH w bs h := by
  obtain ⟨pre, q, e, hq, fq, _, top⟩ := last_le (baseH_lt lo) (fun k => decide (k ≤ h)) (fun a b l f => decide_eq_true (Int.le_trans (Int.le_of_lt l) (of_decide_eq_true f))) since_base (decide_eq_true h0)
  have hq0 := base_ge lo hq
  have fq := of_decide_eq_true fq
  refine ⟨pre, q, e, hq0, fq, (bH_gap o nn hq0 fq fun j a b => cutSum_no fun m => ?_).symm⟩
  have := of_decide_eq_false (top j (hours_base m) a)
  omega
theorem base_ahead {w : Wy} (o : WyOk w) {bs : List (Int × Int)} (lo : ∀ b ∈ bs, w.since ≤ b.1) {h : Int} (h0 : w.since < h) :
    ∃ pre q, (baseH w.since bs).filter (fun k => decide (k < h)) = pre ++ [q] ∧ w.since ≤ q ∧ q < h ∧ grow w (bH w bs q) (h - q) = aH w bs h := by
  obtain ⟨pre, q, e, hq, fq, _, top⟩ := last_le (baseH_lt lo) (fun k => decide (k < h)) (fun a b l f => decide_eq_true (Int.lt_trans l (of_decide_eq_true f))) since_base (decide_eq_true h0)
  have hq0 := base_ge lo hq
  have fq := of_decide_eq_true fq
  refine ⟨pre, q, e, hq0, fq, (aH_gap o hq0 fq fun j a b => cutSum_no fun m => ?_).symm⟩
  have := of_decide_eq_false (top j (hours_base m) a)
  omega
theorem bH_mono {w : Wy} (o : WyOk w) {bs : List (Int × Int)} {p q : Int} (nn : ∀ b ∈ bs, 0 ≤ b.2) (hp : w.since ≤ p) (hq : p ≤ q) (h : ∀ j, p < j → j ≤ q → cutSum bs j = 0) : bH w bs p ≤ bH w bs q := by
  rw [bH_gap o nn hp hq h]
  have a := bH_hi o (h := p) nn
  have b : 0 ≤ w.growth * (q - p) := Int.mul_nonneg o.g0 (by omega)
  unfold grow
  omega
theorem base_below {w : Wy} (o : WyOk w) {bs : List (Int × Int)} (nn : ∀ b ∈ bs, 0 ≤ b.2) {p x s : Int} (hp : w.since ≤ p) (hx : p ≤ x) (h : bH w bs x ≤ s) : bH w bs p ≤ s ∨ ∃ z ∈ hoursOf bs, p < z ∧ z ≤ x ∧ bH w bs z ≤ s := by
  by_cases e : ∃ z ∈ hoursOf bs, p < z ∧ z ≤ x
  · obtain ⟨z, hz, h1, h2⟩ := e
    have s2 : ((hoursOf bs).filter fun k => decide (p < k)).Pairwise (· < ·) := (hoursOf_lt bs).filter _
    obtain ⟨pre, q, _, hq, fq, _, top⟩ := last_le s2 (fun k => decide (k ≤ x)) (fun a b l f => decide_eq_true (Int.le_trans (Int.le_of_lt l) (of_decide_eq_true f))) (List.mem_filter.mpr ⟨hz, decide_eq_true h1⟩) (decide_eq_true h2)
    obtain ⟨hq, hpq⟩ := List.mem_filter.mp hq
    have hpq := of_decide_eq_true hpq
    have fq := of_decide_eq_true fq
    refine .inr ⟨q, hq, hpq, fq, Int.le_trans (bH_mono o nn (by omega) fq fun j a b => cutSum_no fun m => ?_) h⟩
    have := of_decide_eq_false (top j (List.mem_filter.mpr ⟨m, decide_eq_true (by omega)⟩) a)
    omega
  · exact .inl (Int.le_trans (bH_mono o nn hp hx fun j a b => cutSum_no fun m => e ⟨j, m, a, b⟩) h)
/-- the least hour from one on at which a strength is enough -/
def NextV (w : Wy) (bs : List (Int × Int)) (h s : Int) : Option Int → Prop
  | some t => h ≤ t ∧ bH w bs t ≤ s ∧ ∀ x, h ≤ x → x < t → s < bH w bs x
  | none => ∀ x, h ≤ x → s < bH w bs x
theorem NextV.uniq {w : Wy} {bs : List (Int × Int)} {h s : Int} : ∀ {a b : Option Int}, NextV w bs h s a → NextV w bs h s b → a = b
  | some a, some b, ⟨a1, a2, a3⟩, ⟨b1, b2, b3⟩ => by
    rcases Int.lt_trichotomy a b with z | z | z
    · have := b3 a a1 z
      omega
    · rw [z]
    · have := a3 b b1 z
      omega
  | some a, none, ⟨a1, a2, _⟩, n => by
    have := n a a1
    omega
  | none, some a, n, ⟨a1, a2, _⟩ => by
    have := n a a1
    omega
  | none, none, _, _ => rfl
theorem NextV.perm {w : Wy} {bs cs : List (Int × Int)} {h s : Int} (p : bs.Perm cs) : ∀ {a : Option Int}, NextV w bs h s a → NextV w cs h s a
  | some a, ⟨a1, a2, a3⟩ => ⟨a1, bH_perm p a ▸ a2, fun x h1 h2 => bH_perm p x ▸ a3 x h1 h2⟩
  | none, n => fun x h1 => bH_perm p x ▸ n x h1
theorem next_some {w : Wy} (o : WyOk w) {bs : List (Int × Int)} (lo : ∀ b ∈ bs, w.since ≤ b.1) (nn : ∀ b ∈ bs, 0 ≤ b.2) {h s z : Int} {i : Nat} (h0 : w.since ≤ h) (hh : s < bH w bs h) (hi : (baseH w.since bs)[i]? = some z) (hz : h < z) (bz : bH w bs z ≤ s)
    (no : ∀ j, j < i → ∀ y, (baseH w.since bs)[j]? = some y → ¬ (h < y ∧ bH w bs y ≤ s)) : NextV w bs h s (some z) := by
  refine ⟨by omega, bz, fun x h1 h2 => ?_⟩
  by_cases e : bH w bs x ≤ s
  · rcases base_below o nn h0 h1 e with b | ⟨y, hy, y1, y2, y3⟩
    · omega
    · obtain ⟨j, hj⟩ := List.getElem?_of_mem (hours_base (since := w.since) hy)
      exact absurd ⟨y1, y3⟩ (no j (get_lt (baseH_lt lo) hj hi (by omega)) y hj)
  · omega
theorem next_none {w : Wy} (o : WyOk w) {bs : List (Int × Int)} (nn : ∀ b ∈ bs, 0 ≤ b.2) {h s : Int} (h0 : w.since ≤ h) (hh : s < bH w bs h)
    (no : ∀ y, y ∈ baseH w.since bs → ¬ (h < y ∧ bH w bs y ≤ s)) : NextV w bs h s none := fun x h1 => by
  by_cases e : bH w bs x ≤ s
  · rcases base_below o nn h0 h1 e with b | ⟨y, hy, y1, y2, y3⟩
    · omega
    · exact absurd ⟨y1, y3⟩ (no y (hours_base hy))
  · omega
/-- found by going through the hours -/
theorem next_due {w : Wy} (o : WyOk w) {bs : List (Int × Int)} (nn : ∀ b ∈ bs, 0 ≤ b.2) (hi : ∀ b ∈ bs, b.1 < w.since + 60) {s : Int} {k : Nat} (hk : k < 60) (no : ∀ j, k ≤ j → j < 60 → s < beh w bs j) : NextV w bs (w.since + (k : Int)) s none := fun x h1 => by
  by_cases e : x < w.since + 60
  · have := no (x - w.since).toNat (by omega) (by omega)
    exact this
  · have h59 := no 59 (by omega) (by omega)
    have m : bH w bs (w.since + 59) ≤ bH w bs x := bH_mono o nn (by omega) (by omega) fun j a b => cutSum_zero fun b hb e => by
      have := hi b hb
      omega
    have : bH w bs (w.since + 59) = beh w bs 59 := by
      show beh w bs (w.since + 59 - w.since).toNat = _
      rw [show (w.since + 59 - w.since).toNat = 59 by omega]
    omega
theorem next_at {w : Wy} {bs : List (Int × Int)} {s : Int} {k j : Nat} (hk : k ≤ j) (hj : beh w bs j ≤ s) (no : ∀ i, k ≤ i → i < j → s < beh w bs i) : NextV w bs (w.since + (k : Int)) s (some (w.since + (j : Int))) := by
  have e : ∀ i : Nat, bH w bs (w.since + (i : Int)) = beh w bs i := fun i => by
    show beh w bs (w.since + (i : Int) - w.since).toNat = _
    rw [show (w.since + (i : Int) - w.since).toNat = i by omega]
  refine ⟨by omega, by rw [e]; exact hj, fun x h1 h2 => ?_⟩
  exact no (x - w.since).toNat (by omega) (by omega)
/-- behind all breakings -/
theorem next_far {w : Wy} (o : WyOk w) {bs : List (Int × Int)} (nn : ∀ b ∈ bs, 0 ≤ b.2) (hi : ∀ b ∈ bs, b.1 < w.since + 60) {h s : Int} (h0 : w.since + 60 ≤ h) : NextV w bs h s (if bH w bs h ≤ s then some h else none) := by
  split
  · rename_i e
    exact ⟨Int.le_refl _, e, fun x a b => by omega⟩
  · rename_i e
    intro x hx
    have m : bH w bs h ≤ bH w bs x := bH_mono o nn (by omega) hx fun j a b => cutSum_zero fun b hb e => by
      have := hi b hb
      omega
    omega
/-- the greatest hour as far as one at which a strength is enough -/
def LastV (w : Wy) (bs : List (Int × Int)) (h s : Int) : Option Int → Prop
  | some t => w.since ≤ t ∧ t ≤ h ∧ bH w bs t ≤ s ∧ ∀ x, t < x → x ≤ h → s < bH w bs x
  | none => ∀ x, w.since ≤ x → x ≤ h → s < bH w bs x
theorem LastV.uniq {w : Wy} {bs : List (Int × Int)} {h s : Int} : ∀ {a b : Option Int}, LastV w bs h s a → LastV w bs h s b → a = b
  | some a, some b, ⟨_, a1, a2, a3⟩, ⟨_, b1, b2, b3⟩ => by
    rcases Int.lt_trichotomy a b with z | z | z
    · have := a3 b z b1
      omega
    · rw [z]
    · have := b3 a z a1
      omega
  | some a, none, ⟨a0, a1, a2, _⟩, n => by
    have := n a a0 a1
    omega
  | none, some a, n, ⟨a0, a1, a2, _⟩ => by
    have := n a a0 a1
    omega
  | none, none, _, _ => rfl
/-- the last hour of a stretch that begins at a base -/
def endO (w : Wy) (p l s : Int) : Option Int := if w.growth = 0 ∨ w.most ≤ s then none else some (p + (s - l) / w.growth)
theorem ends_none {w : Wy} (o : WyOk w) {bs : List (Int × Int)} (nn : ∀ b ∈ bs, 0 ≤ b.2) {p x s : Int} (hp : w.since ≤ p) (hx : p ≤ x) (no : ∀ j, p < j → j ≤ x → cutSum bs j = 0) (l : bH w bs p ≤ s) (e : endO w p (bH w bs p) s = none) : bH w bs x ≤ s := by
  unfold endO at e
  split at e
  · rename_i c
    rw [bH_gap o nn hp hx no]
    unfold grow
    rcases c with c | c
    · rw [c, Int.zero_mul]
      omega
    · omega
  · cases e
theorem ends_some {w : Wy} (o : WyOk w) {bs : List (Int × Int)} (nn : ∀ b ∈ bs, 0 ≤ b.2) {p x s t : Int} (hp : w.since ≤ p) (hx : p ≤ x) (no : ∀ j, p < j → j ≤ x → cutSum bs j = 0) (e : endO w p (bH w bs p) s = some t) : bH w bs x ≤ s ↔ x ≤ t := by
  unfold endO at e
  split at e
  · cases e
  · rename_i c
    rw [not_or] at c
    have c2 : s < w.most := by omega
    have g : 0 < w.growth := by
      have := o.g0
      omega
    have e := Option.some.inj e
    rw [bH_gap o nn hp hx no]
    have k : (x - p) ≤ (s - bH w bs p) / w.growth ↔ (x - p) * w.growth ≤ s - bH w bs p := Int.le_ediv_iff_mul_le g
    rw [Int.mul_comm] at k
    unfold grow
    generalize w.growth * (x - p) = m at k
    generalize (s - bH w bs p) / w.growth = y at k e
    omega
theorem ends_ge {w : Wy} (o : WyOk w) {bs : List (Int × Int)} (nn : ∀ b ∈ bs, 0 ≤ b.2) {p s t : Int} (hp : w.since ≤ p) (l : bH w bs p ≤ s) (e : endO w p (bH w bs p) s = some t) : p ≤ t :=
  (ends_some o nn hp (Int.le_refl _) (fun j a b => by omega) e).mp l
/-- one step of the walk down: a base p, no bases between it and u -/
theorem last_hit {w : Wy} (o : WyOk w) {bs : List (Int × Int)} (nn : ∀ b ∈ bs, 0 ≤ b.2) {h s p u : Int} (hp : w.since ≤ p) (hu : p ≤ u) (hh : u ≤ h) (no : ∀ j, p < j → j ≤ u → cutSum bs j = 0) (ab : ∀ x, u < x → x ≤ h → s < bH w bs x) (l : bH w bs p ≤ s) :
    LastV w bs h s (some (match endO w p (bH w bs p) s with | none => u | some t => min u t)) := by
  cases e : endO w p (bH w bs p) s with
  | none => exact ⟨show w.since ≤ u by omega, hh, ends_none o nn hp hu no l e, ab⟩
  | some t =>
    have g := ends_ge o nn hp l e
    have k : ∀ x, p ≤ x → x ≤ u → (bH w bs x ≤ s ↔ x ≤ t) := fun x a b => ends_some o nn hp a (fun j c d => no j c (by omega)) e
    refine ⟨?_, ?_, ?_, fun x a b => ?_⟩
    · show w.since ≤ min u t
      omega
    · show min u t ≤ h
      omega
    · exact (k (min u t) (by omega) (by omega)).mpr (by omega)
    · have a : min u t < x := a
      by_cases z : x ≤ u
      · have := k x (by omega) z
        omega
      · exact ab x (by omega) b
theorem last_miss {w : Wy} (o : WyOk w) {bs : List (Int × Int)} (nn : ∀ b ∈ bs, 0 ≤ b.2) {h s p u : Int} (hp : w.since ≤ p) (no : ∀ j, p < j → j ≤ u → cutSum bs j = 0) (ab : ∀ x, u < x → x ≤ h → s < bH w bs x) (l : s < bH w bs p) : ∀ x, p - 1 < x → x ≤ h → s < bH w bs x := fun x a b => by
  by_cases z : x ≤ u
  · have := bH_mono o nn hp (show p ≤ x by omega) fun j c d => no j c (by omega)
    omega
  · exact ab x (by omega) b
theorem last_scan {w : Wy} (o : WyOk w) {bs : List (Int × Int)} (nn : ∀ b ∈ bs, 0 ≤ b.2) (hi : ∀ b ∈ bs, b.1 < w.since + 60) {h t : Int} {N : Nat} (h0 : w.since ≤ h) (hN : (N : Int) = min 60 (h - w.since + 1)) (hc : ¬ (w.since + 59 < h ∧ beh w bs 59 ≤ t)) :
    ((List.range N).filter (fun i => decide (beh w bs i ≤ t)) = [] ∧ LastV w bs h t none) ∨ ∃ (pre : List Nat) (k : Nat), (List.range N).filter (fun i => decide (beh w bs i ≤ t)) = pre ++ [k] ∧ LastV w bs h t (some (w.since + (k : Int))) := by
  have e : ∀ i : Nat, bH w bs (w.since + (i : Int)) = beh w bs i := fun i => by
    show beh w bs (w.since + (i : Int) - w.since).toNat = _
    rw [show (w.since + (i : Int) - w.since).toNat = i by omega]
  have up : ∀ x, w.since + 59 < x → x ≤ h → t < bH w bs x := fun x a b => by
    have m : bH w bs (w.since + ((59 : Nat) : Int)) ≤ bH w bs x := bH_mono o nn (by omega) (by omega) fun j a b => cutSum_zero fun b hb e => by
      have := hi b hb
      omega
    rw [e] at m
    by_cases z : beh w bs 59 ≤ t
    · exact absurd ⟨by omega, z⟩ hc
    · omega
  have inN : ∀ x, w.since ≤ x → x ≤ h → x ≤ w.since + 59 → (x - w.since).toNat < N := fun x a b c => by omega
  by_cases em : (List.range N).filter (fun i => decide (beh w bs i ≤ t)) = []
  · refine .inl ⟨em, fun x a b => ?_⟩
    by_cases z : w.since + 59 < x
    · exact up x z b
    · have := List.filter_eq_nil_iff.mp em (x - w.since).toNat (List.mem_range.mpr (inN x a b (by omega)))
      have := of_decide_eq_false (by simpa using this : decide (beh w bs (x - w.since).toNat ≤ t) = false)
      show t < beh w bs (x - w.since).toNat
      omega
  · refine .inr ⟨_, _, (List.dropLast_concat_getLast em).symm, ?_⟩
    have hm := List.mem_filter.mp (List.getLast_mem em)
    have hr := List.mem_range.mp hm.1
    have hk := of_decide_eq_true hm.2
    have sf : ((List.range N).filter (fun i => decide (beh w bs i ≤ t))).Pairwise (· < ·) := List.pairwise_lt_range.filter _
    have top : ∀ k ∈ (List.range N).filter (fun i => decide (beh w bs i ≤ t)), k ≤ ((List.range N).filter (fun i => decide (beh w bs i ≤ t))).getLast em := fun k mk => by
      rw [← List.dropLast_concat_getLast em] at mk sf
      rcases List.mem_append.mp mk with mk | mk
      · have := (List.pairwise_append.mp sf).2.2 k mk _ (List.mem_singleton.mpr rfl)
        omega
      · rw [List.mem_singleton.mp mk]
        exact Nat.le_refl _
    generalize ((List.range N).filter (fun i => decide (beh w bs i ≤ t))).getLast em = k at hr hk top
    refine ⟨by omega, by omega, by rw [e]; exact hk, fun x a b => ?_⟩
    by_cases z : w.since + 59 < x
    · exact up x z b
    · have h1 := inN x (by omega) b (by omega)
      by_cases y : beh w bs (x - w.since).toNat ≤ t
      · have := top (x - w.since).toNat (List.mem_filter.mpr ⟨List.mem_range.mpr h1, decide_eq_true y⟩)
        omega
      · show t < beh w bs (x - w.since).toNat
        omega
/-! stretches of hours: parted, rising -/
def Sep : Int → List (Int × Option Int) → Prop
  | _, [] => True
  | b, (a, none) :: r => b ≤ a ∧ r = []
  | b, (a, some e) :: r => b ≤ a ∧ a ≤ e ∧ Sep (e + 2) r
def inIv (x : Int) (v : Int × Option Int) : Prop := v.1 ≤ x ∧ ∀ e, v.2 = some e → x ≤ e
def inS (x : Int) (l : List (Int × Option Int)) : Prop := ∃ v ∈ l, inIv x v
theorem inS_nil {x : Int} : ¬ inS x [] := fun ⟨_, m, _⟩ => nomatch m
theorem inS_cons {x : Int} {v : Int × Option Int} {l : List (Int × Option Int)} : inS x (v :: l) ↔ inIv x v ∨ inS x l :=
  ⟨fun ⟨u, m, h⟩ => (List.mem_cons.mp m).elim (fun e => .inl (e ▸ h)) fun m => .inr ⟨u, m, h⟩, fun h => h.elim (fun h => ⟨v, List.mem_cons_self, h⟩) fun ⟨u, m, h⟩ => ⟨u, List.mem_cons_of_mem _ m, h⟩⟩
theorem inS_app {x : Int} {v : Int × Option Int} {l : List (Int × Option Int)} : inS x (l ++ [v]) ↔ inS x l ∨ inIv x v :=
  ⟨fun ⟨u, m, h⟩ => (List.mem_append.mp m).elim (fun m => .inl ⟨u, m, h⟩) fun m => .inr (List.mem_singleton.mp m ▸ h), fun h => h.elim (fun ⟨u, m, h⟩ => ⟨u, List.mem_append_left _ m, h⟩) fun h => ⟨v, List.mem_append_right _ (List.mem_singleton.mpr rfl), h⟩⟩
theorem sep_ge : ∀ {l : List (Int × Option Int)} {b x : Int}, Sep b l → inS x l → b ≤ x
  | [], _, _, _, h => (inS_nil h).elim
  | (a, none) :: r, b, x, ⟨h1, h2⟩, h => by
    subst h2
    rcases inS_cons.mp h with h | h
    · have : a ≤ x := h.1
      omega
    · exact (inS_nil h).elim
  | (a, some e) :: r, b, x, ⟨h1, h2, h3⟩, h => by
    rcases inS_cons.mp h with h | h
    · have : a ≤ x := h.1
      omega
    · have := sep_ge h3 h
      omega
theorem sep_start {a b : Int} {o : Option Int} {r : List (Int × Option Int)} (h : Sep b ((a, o) :: r)) : b ≤ a ∧ inS a ((a, o) :: r) ∧ ∀ x, inS x ((a, o) :: r) → a ≤ x := by
  cases o with
  | none =>
    obtain ⟨h1, h2⟩ := h
    subst h2
    refine ⟨h1, inS_cons.mpr (.inl ⟨Int.le_refl _, nofun⟩), fun x hx => ?_⟩
    rcases inS_cons.mp hx with h | h
    · exact h.1
    · exact (inS_nil h).elim
  | some e =>
    obtain ⟨h1, h2, h3⟩ := h
    refine ⟨h1, inS_cons.mpr (.inl ⟨Int.le_refl _, fun e' h => by cases h; exact h2⟩), fun x hx => ?_⟩
    rcases inS_cons.mp hx with h | h
    · exact h.1
    · have := sep_ge h3 h
      omega
theorem sep_uniq : ∀ {l m : List (Int × Option Int)} {b : Int}, Sep b l → Sep b m → (∀ x, inS x l ↔ inS x m) → l = m
  | [], [], _, _, _, _ => rfl
  | [], (a, o) :: r, _, _, h, e => (inS_nil ((e a).mpr (sep_start h).2.1)).elim
  | (a, o) :: r, [], _, h, _, e => (inS_nil ((e a).mp (sep_start h).2.1)).elim
  | (a, o) :: r, (a', o') :: r', b, h, h', e => by
    obtain ⟨_, s1, t1⟩ := sep_start h
    obtain ⟨_, s2, t2⟩ := sep_start h'
    have ea : a = a' := by
      have := t2 a ((e a).mp s1)
      have := t1 a' ((e a').mpr s2)
      omega
    subst ea
    cases o with
    | none =>
      obtain ⟨_, hr⟩ := h
      subst hr
      cases o' with
      | none =>
        obtain ⟨_, hr⟩ := h'
        rw [hr]
      | some e' =>
        obtain ⟨_, q1, q2⟩ := h'
        have z : inS (e' + 1) [(a, none)] := inS_cons.mpr (.inl ⟨show a ≤ e' + 1 by omega, nofun⟩)
        rcases inS_cons.mp ((e _).mp z) with h | h
        · have := h.2 e' rfl
          omega
        · have := sep_ge q2 h
          omega
    | some f =>
      obtain ⟨_, p1, p2⟩ := h
      cases o' with
      | none =>
        obtain ⟨_, hr⟩ := h'
        subst hr
        have z : inS (f + 1) [(a, none)] := inS_cons.mpr (.inl ⟨show a ≤ f + 1 by omega, nofun⟩)
        rcases inS_cons.mp ((e _).mpr z) with h | h
        · have := h.2 f rfl
          omega
        · have := sep_ge p2 h
          omega
      | some f' =>
        obtain ⟨_, q1, q2⟩ := h'
        have ef : f = f' := by
          rcases Int.lt_trichotomy f f' with c | c | c
          · have z : inS (f + 1) ((a, some f') :: r') := inS_cons.mpr (.inl ⟨show a ≤ f + 1 by omega, fun x h => by cases h; omega⟩)
            rcases inS_cons.mp ((e _).mpr z) with h | h
            · have := h.2 f rfl
              omega
            · have := sep_ge p2 h
              omega
          · exact c
          · have z : inS (f' + 1) ((a, some f) :: r) := inS_cons.mpr (.inl ⟨show a ≤ f' + 1 by omega, fun x h => by cases h; omega⟩)
            rcases inS_cons.mp ((e _).mp z) with h | h
            · have := h.2 f' rfl
              omega
            · have := sep_ge q2 h
              omega
        subst ef
        rw [sep_uniq p2 q2 fun x => ?_]
        constructor
        · intro h
          have g := sep_ge p2 h
          rcases inS_cons.mp ((e x).mp (inS_cons.mpr (.inr h))) with z | z
          · have := z.2 f rfl
            omega
          · exact z
        · intro h
          have g := sep_ge q2 h
          rcases inS_cons.mp ((e x).mpr (inS_cons.mpr (.inr h))) with z | z
          · have := z.2 f rfl
            omega
          · exact z
/-- all of them end, by u -/
def EndB (u : Int) (l : List (Int × Option Int)) : Prop := ∀ v ∈ l, ∃ e, v.2 = some e ∧ e ≤ u
theorem sep_snoc : ∀ {l : List (Int × Option Int)} {b u a : Int} {o : Option Int}, Sep b l → EndB u l → u + 2 ≤ a → b ≤ a → (∀ e, o = some e → a ≤ e) → Sep b (l ++ [(a, o)])
  | [], b, u, a, none, _, _, _, h, _ => ⟨h, rfl⟩
  | [], b, u, a, some e, _, _, _, h, he => ⟨h, he e rfl, trivial⟩
  | (c, none) :: r, b, u, a, o, _, h, _, _, _ => by
    obtain ⟨e, he, _⟩ := h _ List.mem_cons_self
    cases he
  | (c, some f) :: r, b, u, a, o, ⟨h1, h2, h3⟩, hb, hu, h, he => by
    obtain ⟨e, e1, e2⟩ := hb _ List.mem_cons_self
    have e1 := Option.some.inj e1
    exact ⟨h1, h2, sep_snoc h3 (fun v m => hb v (List.mem_cons_of_mem _ m)) hu (by omega) he⟩
theorem sep_last : ∀ {l : List (Int × Option Int)} {b a e : Int} {o : Option Int}, Sep b (l ++ [(a, some e)]) → (∀ e', o = some e' → a ≤ e') → Sep b (l ++ [(a, o)])
  | [], b, a, e, none, h, _ => ⟨h.1, rfl⟩
  | [], b, a, e, some f, h, he => ⟨h.1, he f rfl, trivial⟩
  | (c, none) :: r, b, a, e, o, h, _ => by
    have := h.2
    exact absurd this (by cases r <;> simp)
  | (c, some f) :: r, b, a, e, o, ⟨h1, h2, h3⟩, he => ⟨h1, h2, sep_last h3 he⟩
/-- what stands ahead of the last one ends two hours ahead of it -/
theorem sep_ahead : ∀ {l : List (Int × Option Int)} {b a : Int} {o : Option Int}, Sep b (l ++ [(a, o)]) → EndB (a - 2) l
  | [], _, _, _, _ => nofun
  | (c, none) :: r, b, a, o, h => by
    have := h.2
    exact absurd this (by cases r <;> simp)
  | (c, some f) :: r, b, a, o, ⟨h1, h2, h3⟩ => fun v m => by
    rcases List.mem_cons.mp m with rfl | m
    · have := sep_ge h3 (inS_app.mpr (.inr (show inIv a (a, o) from ⟨Int.le_refl _, fun e he => ?_⟩)))
      · exact ⟨f, rfl, by omega⟩
      · have he : o = some e := he
        subst he
        exact (sep_pre h3)
    · exact sep_ahead h3 v m
where sep_pre : ∀ {l : List (Int × Option Int)} {b a e : Int}, Sep b (l ++ [(a, some e)]) → a ≤ e
  | [], _, _, _, h => h.2.1
  | (c, none) :: r, _, _, _, h => absurd h.2 (by cases r <;> simp)
  | (c, some f) :: r, _, _, _, h => sep_pre h.2.2
theorem sep_pre {l : List (Int × Option Int)} {b a e : Int} (h : Sep b (l ++ [(a, some e)])) : a ≤ e := sep_ahead.sep_pre h
/-- where the last hour is in, the last stretch ends there -/
theorem last_in {l : List (Int × Option Int)} {b u : Int} (h : Sep b l) (hb : EndB u l) (hu : inS u l) : ∃ pre a, l = pre ++ [(a, some u)] := by
  rcases List.eq_nil_or_concat l with rfl | ⟨pre, v, rfl⟩
  · exact (inS_nil hu).elim
  · rw [List.concat_eq_append] at *
    obtain ⟨a, o⟩ := v
    obtain ⟨e, he, e2⟩ := hb (a, o) (List.mem_append_right _ (List.mem_singleton.mpr rfl))
    have he : o = some e := he
    subst he
    have ah := sep_ahead h
    have p := sep_pre h
    rcases inS_app.mp hu with ⟨v, m, z⟩ | z
    · obtain ⟨f, hf, f2⟩ := ah v m
      have := z.2 f hf
      omega
    · have := z.2 e rfl
      have : e = u := by omega
      exact ⟨pre, a, by rw [this]⟩
theorem endB_mono {u v : Int} {l : List (Int × Option Int)} (h : EndB u l) (uv : u ≤ v) : EndB v l := fun x m => by
  obtain ⟨e, a, b⟩ := h x m
  exact ⟨e, a, by omega⟩
theorem endB_app {u : Int} {l : List (Int × Option Int)} {a e : Int} (h : EndB u l) (he : e ≤ u) : EndB u (l ++ [(a, some e)]) := fun x m => by
  rcases List.mem_append.mp m with m | m
  · exact h x m
  · rw [List.mem_singleton.mp m]
    exact ⟨e, rfl, he⟩
def minO : Option Int → Option Int → Option Int
  | none, u => u
  | some e, none => some e
  | some e, some v => if v < e then some v else some e
/-- the stretches of P from b on, as far as a bound -/
structure StrI (P : Int → Prop) (b : Int) (bd : Option Int) (l : List (Int × Option Int)) : Prop where
  sp : Sep b l
  eb : ∀ u, bd = some u → EndB u l
  iff : ∀ x, inS x l ↔ (b ≤ x ∧ (∀ u, bd = some u → x ≤ u) ∧ P x)
theorem str_skip {P : Int → Prop} {b a : Int} {nx : Option Int} {l : List (Int × Option Int)} (h : StrI P b (some (a - 1)) l) (hn : ∀ v, nx = some v → a - 1 ≤ v) (no : ∀ x, a ≤ x → (∀ v, nx = some v → x ≤ v) → ¬ P x) : StrI P b nx l := by
  refine ⟨h.sp, fun u hu => endB_mono (h.eb _ rfl) (hn u hu), fun x => ?_⟩
  rw [h.iff]
  constructor
  · rintro ⟨h1, h2, h3⟩
    have := h2 _ rfl
    exact ⟨h1, fun u hu => by have := hn u hu; omega, h3⟩
  · rintro ⟨h1, h2, h3⟩
    refine ⟨h1, fun u hu => ?_, h3⟩
    cases hu
    by_cases c : a ≤ x
    · exact absurd h3 (no x c h2)
    · omega
theorem str_new {P : Int → Prop} {b a : Int} {nx o : Option Int} {l : List (Int × Option Int)} (h : StrI P b (some (a - 1)) l) (ba : b ≤ a) (ho : ∀ e, o = some e → a ≤ e) (hn : ∀ v, nx = some v → a - 1 ≤ v) (on : ∀ v, nx = some v → ∃ e, o = some e ∧ e ≤ v)
    (pf : ∀ x, a ≤ x → (∀ v, nx = some v → x ≤ v) → (P x ↔ ∀ e, o = some e → x ≤ e)) (gap : ∀ pre a0, l ≠ pre ++ [(a0, some (a - 1))]) : StrI P b nx (l ++ [(a, o)]) := by
  have e2 : EndB (a - 2) l := by
    rcases List.eq_nil_or_concat l with rfl | ⟨pre, v, rfl⟩
    · exact nofun
    · rw [List.concat_eq_append] at *
      obtain ⟨a0, o0⟩ := v
      obtain ⟨e, he, e2⟩ := h.eb _ rfl (a0, o0) (List.mem_append_right _ (List.mem_singleton.mpr rfl))
      have he : o0 = some e := he
      subst he
      have ne : e ≠ a - 1 := fun z => gap pre a0 (by rw [z])
      have ah := sep_ahead h.sp
      have p := sep_pre h.sp
      exact endB_app (endB_mono ah (by omega)) (by omega)
  refine ⟨sep_snoc h.sp e2 (by omega) ba ho, fun u hu => ?_, fun x => ?_⟩
  · obtain ⟨e, he, eu⟩ := on u hu
    subst he
    exact endB_app (endB_mono e2 (by have := hn u hu; omega)) eu
  · rw [inS_app, h.iff]
    constructor
    · rintro (⟨h1, h2, h3⟩ | ⟨h1, h2⟩)
      · have := h2 _ rfl
        exact ⟨h1, fun u hu => by have := hn u hu; omega, h3⟩
      · have h1 : a ≤ x := h1
        have up : ∀ u, nx = some u → x ≤ u := fun u hu => by
          obtain ⟨e, he, eu⟩ := on u hu
          have := h2 e he
          omega
        exact ⟨by omega, up, (pf x h1 up).mpr h2⟩
    · rintro ⟨h1, h2, h3⟩
      by_cases c : a ≤ x
      · exact .inr ⟨c, (pf x c h2).mp h3⟩
      · exact .inl ⟨h1, fun u hu => by cases hu; omega, h3⟩
theorem str_merge {P : Int → Prop} {b a a0 : Int} {nx o : Option Int} {pre : List (Int × Option Int)} (h : StrI P b (some (a - 1)) (pre ++ [(a0, some (a - 1))])) (ho : ∀ e, o = some e → a ≤ e) (hn : ∀ v, nx = some v → a - 1 ≤ v) (on : ∀ v, nx = some v → ∃ e, o = some e ∧ e ≤ v)
    (pf : ∀ x, a ≤ x → (∀ v, nx = some v → x ≤ v) → (P x ↔ ∀ e, o = some e → x ≤ e)) : StrI P b nx (pre ++ [(a0, o)]) := by
  have p := sep_pre h.sp
  have ah := sep_ahead h.sp
  have ba : b ≤ a0 := sep_ge h.sp (inS_app.mpr (.inr ⟨Int.le_refl _, fun e he => by cases he; exact p⟩))
  refine ⟨sep_last h.sp fun e he => by have := ho e he; omega, fun u hu => ?_, fun x => ?_⟩
  · obtain ⟨e, he, eu⟩ := on u hu
    subst he
    exact endB_app (endB_mono ah (by have := hn u hu; omega)) eu
  · have old := h.iff x
    rw [inS_app] at old ⊢
    constructor
    · rintro (z | ⟨h1, h2⟩)
      · obtain ⟨q1, q2, q3⟩ := old.mp (.inl z)
        have := q2 _ rfl
        exact ⟨q1, fun u hu => by have := hn u hu; omega, q3⟩
      · have h1 : a0 ≤ x := h1
        by_cases c : a ≤ x
        · have up : ∀ u, nx = some u → x ≤ u := fun u hu => by
            obtain ⟨e, he, eu⟩ := on u hu
            have := h2 e he
            omega
          exact ⟨by omega, up, (pf x c up).mpr h2⟩
        · obtain ⟨q1, q2, q3⟩ := old.mp (.inr ⟨h1, fun e he => by cases he; omega⟩)
          exact ⟨q1, fun u hu => by have := hn u hu; omega, q3⟩
    · rintro ⟨h1, h2, h3⟩
      by_cases c : a ≤ x
      · exact .inr ⟨show a0 ≤ x by omega, (pf x c h2).mp h3⟩
      · rcases old.mpr ⟨h1, fun u hu => by cases hu; omega, h3⟩ with z | ⟨z1, z2⟩
        · exact .inl z
        · exact .inr ⟨z1, fun e he => by have := ho e he; omega⟩
/-- the end of what begins at a base, as far as the hour ahead of the next one -/
theorem minO_seg {w : Wy} (o : WyOk w) {bs : List (Int × Int)} (nn : ∀ b ∈ bs, 0 ≤ b.2) {p s : Int} {nx : Option Int} (hp : w.since ≤ p) (no : ∀ j, p < j → (∀ v, nx = some v → j ≤ v) → cutSum bs j = 0) (l : bH w bs p ≤ s) (hn : ∀ v, nx = some v → p ≤ v) :
    (∀ e, minO (endO w p (bH w bs p) s) nx = some e → p ≤ e) ∧ (∀ v, nx = some v → ∃ e, minO (endO w p (bH w bs p) s) nx = some e ∧ e ≤ v) ∧
    ∀ x, p ≤ x → (∀ v, nx = some v → x ≤ v) → (bH w bs x ≤ s ↔ ∀ e, minO (endO w p (bH w bs p) s) nx = some e → x ≤ e) := by
  have noc : ∀ x, p ≤ x → (∀ v, nx = some v → x ≤ v) → ∀ j, p < j → j ≤ x → cutSum bs j = 0 := fun x _ h j a b => no j a fun v hv => Int.le_trans b (h v hv)
  cases e : endO w p (bH w bs p) s with
  | none =>
    refine ⟨fun e he => hn e he, fun v hv => ⟨v, hv, Int.le_refl _⟩, fun x a b => ⟨fun _ e he => b e he, fun _ => ends_none o nn hp a (noc x a b) l e⟩⟩
  | some t =>
    have g := ends_ge o nn hp l e
    cases nx with
    | none => exact ⟨fun e he => by cases he; exact g, nofun, fun x a b => (ends_some o nn hp a (noc x a b) e).trans ⟨fun h e he => by cases he; exact h, fun h => h t rfl⟩⟩
    | some v =>
      have hv := hn v rfl
      by_cases c : v < t
      · have em : minO (some t) (some v) = some v := if_pos c
        rw [em]
        refine ⟨fun e he => by cases he; exact hv, fun u hu => ⟨v, rfl, by cases hu; exact Int.le_refl _⟩, fun x a b => ?_⟩
        have := b v rfl
        exact (ends_some o nn hp a (noc x a b) e).trans ⟨fun _ e he => by cases he; exact this, fun _ => by omega⟩
      · have em : minO (some t) (some v) = some t := if_neg c
        rw [em]
        refine ⟨fun e he => by cases he; exact g, fun u hu => ⟨t, rfl, by cases hu; omega⟩, fun x a b => ?_⟩
        exact (ends_some o nn hp a (noc x a b) e).trans ⟨fun h e he => by cases he; exact h, fun h => h t rfl⟩
theorem sep_gap : ∀ {l : List (Int × Option Int)} {b : Int} {v : Int × Option Int}, Sep b l → v ∈ l → inIv v.1 v ∧ ¬ inS (v.1 - 1) l ∧ ∀ e, v.2 = some e → inIv e v ∧ ¬ inS (e + 1) l
  | (a, none) :: r, b, v, ⟨h1, h2⟩, m => by
    subst h2
    rw [List.mem_singleton.mp m]
    refine ⟨⟨Int.le_refl _, nofun⟩, fun h => ?_, nofun⟩
    rcases inS_cons.mp h with h | h
    · have : a ≤ a - 1 := h.1
      omega
    · exact inS_nil h
  | (a, some f) :: r, b, v, ⟨h1, h2, h3⟩, m => by
    rcases List.mem_cons.mp m with rfl | m
    · refine ⟨⟨Int.le_refl _, fun e he => by cases he; exact h2⟩, fun h => ?_, fun e he => ?_⟩
      · rcases inS_cons.mp h with h | h
        · have : a ≤ a - 1 := h.1
          omega
        · have := sep_ge h3 h
          have : f + 2 ≤ a - 1 := this
          omega
      · cases he
        refine ⟨⟨h2, fun e he => by cases he; exact Int.le_refl _⟩, fun h => ?_⟩
        rcases inS_cons.mp h with h | h
        · have := h.2 f rfl
          omega
        · have := sep_ge h3 h
          omega
    · obtain ⟨q1, q2, q3⟩ := sep_gap h3 m
      have g := sep_ge h3 (x := v.1) ⟨v, m, q1⟩
      refine ⟨q1, fun h => ?_, fun e he => ⟨(q3 e he).1, fun h => ?_⟩⟩
      · rcases inS_cons.mp h with h | h
        · have := h.2 f rfl
          omega
        · exact q2 h
      · have ge := sep_ge h3 (x := e) ⟨v, m, (q3 e he).1⟩
        rcases inS_cons.mp h with h | h
        · have := h.2 f rfl
          omega
        · exact (q3 e he).2 h
theorem str_bnd {w : Wy} (o : WyOk w) {bs : List (Int × Int)} (nn : ∀ b ∈ bs, 0 ≤ b.2) (hi : ∀ b ∈ bs, b.1 < w.since + 60) {s : Int} {l : List (Int × Option Int)} (s1 : s ≤ 1000000000) (sp : Sep w.since l) (iff : ∀ x, inS x l ↔ w.since ≤ x ∧ bH w bs x ≤ s) :
    ∀ v ∈ l, w.since ≤ v.1 ∧ v.1 ≤ w.since + 60 ∧ ∀ e, v.2 = some e → w.since ≤ e ∧ e ≤ w.since + 1000000100 := fun v m => by
  obtain ⟨q1, q2, q3⟩ := sep_gap sp m
  have a0 := (iff v.1).mp ⟨v, m, q1⟩
  have no : ∀ x y, w.since + 59 ≤ x → ∀ j, x < j → j ≤ y → cutSum bs j = 0 := fun x y hx j a _ => cutSum_zero fun b hb e => by
    have := hi b hb
    omega
  refine ⟨a0.1, ?_, fun e he => ?_⟩
  · by_cases c : v.1 ≤ w.since + 60
    · exact c
    · have := bH_mono o nn (show w.since ≤ v.1 - 1 by omega) (show v.1 - 1 ≤ v.1 by omega) (no _ _ (by omega))
      exact absurd ((iff (v.1 - 1)).mpr ⟨by omega, by omega⟩) q2
  · obtain ⟨e1, e2⟩ := q3 e he
    have b0 := (iff e).mp ⟨v, m, e1⟩
    refine ⟨b0.1, ?_⟩
    by_cases c : e ≤ w.since + 59
    · omega
    · have b1 : s < bH w bs (e + 1) := by
        by_cases z : bH w bs (e + 1) ≤ s
        · exact absurd ((iff (e + 1)).mpr ⟨by omega, z⟩) e2
        · omega
      have p0 : w.since ≤ w.since + 59 := by omega
      rw [bH_gap o nn p0 (show w.since + 59 ≤ e + 1 by omega) (no _ _ (Int.le_refl _))] at b1
      have b0 := b0.2
      rw [bH_gap o nn p0 (show w.since + 59 ≤ e by omega) (no _ _ (Int.le_refl _))] at b0
      have l0 := bH_lo (w := w) (bs := bs) (h := w.since + 59)
      unfold grow at b0 b1
      have g0 := o.g0
      by_cases g : w.growth = 0
      · rw [g, Int.zero_mul] at b0 b1
        omega
      · have k : (e - (w.since + 59)) ≤ w.growth * (e - (w.since + 59)) := by
          have := Int.mul_le_mul_of_nonneg_right (show 1 ≤ w.growth by omega) (show 0 ≤ e - (w.since + 59) by omega)
          rw [Int.one_mul] at this
          exact this
        generalize w.growth * (e - (w.since + 59)) = y at b0 k
        generalize w.growth * (e + 1 - (w.since + 59)) = z at b1
        omega

theorem within_int {v : V} {lo hi : Int} (h : withinV v lo hi = true) : ∃ i : Int, v = .int i ∧ lo ≤ i ∧ i ≤ hi := by
  cases v with
  | int i =>
    have h : (decide (lo ≤ i) && decide (i ≤ hi)) = true := h
    rw [Bool.and_eq_true] at h
    exact ⟨i, rfl, of_decide_eq_true h.1, of_decide_eq_true h.2⟩
  | _ => cases h
theorem within_ok {h lo hi : Int} (h0 : lo ≤ h) (h1 : h ≤ hi) : withinV (.int h) lo hi = true := by
  show (decide (lo ≤ h) && decide (h ≤ hi)) = true
  rw [decide_eq_true h0, decide_eq_true h1]
  rfl
def wyOf (c : Ch) (since : Int) : Wy := ⟨c.first, c.growth, c.most, since⟩
theorem wyOk {c : Ch} {s : Int} (h : chOk c) : WyOk (wyOf c s) := by
  unfold chOk at h
  exact ⟨by show 0 ≤ c.first; omega, by show 0 ≤ c.growth; omega, by show c.first ≤ c.most; omega⟩
/-- for each hour where its list of cuts stands, and the cuts -/
abbrev CutT := List (Int × Addr × List Int)
def cutK (L : CutT) : List (Key × V) := L.map fun t => (Sum.inl t.1, V.ref t.2.1)
structure CutsAt (H : Hp) (d : Addr) (L : CutT) : Prop where
  hd : H d = some (.dK (cutK L))
  hl : ∀ t ∈ L, H t.2.1 = some (.lst (t.2.2.map V.int))
  ne : ∀ t ∈ L, t.2.2 ≠ []
  nk : (L.map (·.1)).Nodup
  na : (L.map (·.2.1)).Nodup
def fpC (d : Addr) (L : CutT) : List Addr := d :: L.map (·.2.1)
theorem CutsAt.keepS {H H' : Hp} {d : Addr} {L : CutT} {S : List Addr} (h : CutsAt H d L) (k : KeepS S H H') (n : ∀ x ∈ fpC d L, x ∉ S) : CutsAt H' d L :=
  ⟨k _ _ h.hd (.inr (n _ List.mem_cons_self)), fun t ht => k _ _ (h.hl t ht) (.inr (n _ (List.mem_cons_of_mem _ (List.mem_map_of_mem ht)))), h.ne, h.nk, h.na⟩
theorem CutsAt.keep {H H' : Hp} {d : Addr} {L : CutT} (h : CutsAt H d L) (s : Same H H') : CutsAt H' d L := ⟨s _ _ h.hd, fun t ht => s _ _ (h.hl t ht), h.ne, h.nk, h.na⟩
theorem fp_there {H : Hp} {d : Addr} {L : CutT} (h : CutsAt H d L) {x : Addr} (m : x ∈ fpC d L) : ∃ o, H x = some o ∧ imm o = false := by
  rcases List.mem_cons.mp m with rfl | m
  · exact ⟨_, h.hd, rfl⟩
  · obtain ⟨t, ht, rfl⟩ := List.mem_map.mp m
    exact ⟨_, h.hl t ht, rfl⟩
theorem d_ne {H : Hp} {d : Addr} {L : CutT} (h : CutsAt H d L) {t : Int × Addr × List Int} (m : t ∈ L) : t.2.1 ≠ d := ne_of (h.hl t m) h.hd nofun
theorem cutK_keys (L : CutT) : (cutK L).map (·.1) = (L.map (·.1)).map Sum.inl := by
  unfold cutK
  rw [List.map_map, List.map_map]
  rfl
theorem valV_cut {L : CutT} {h : Int} : valV (cutK L) (Sum.inl h) = (L.find? fun t => decide (t.1 = h)).map fun t => V.ref t.2.1 := by
  unfold valV cutK
  rw [List.find?_map, Option.map_map]
  have e : ((fun kv : Key × V => decide (kv.1 = Sum.inl h)) ∘ fun t : Int × Addr × List Int => ((Sum.inl t.1 : Key), V.ref t.2.1)) = fun t => decide (t.1 = h) := by
    funext t
    simp only [Function.comp]
    exact decide_eq_decide.mpr ⟨fun e => Sum.inl.inj e, fun e => congrArg Sum.inl e⟩
  rw [e]
  rfl
theorem valV_cutS {L : CutT} {t : Int × Addr × List Int} (n : (L.map (·.1)).Nodup) (m : t ∈ L) : valV (cutK L) (Sum.inl t.1) = some (V.ref t.2.1) := by
  rw [valV_cut, cutsL_mem n m]
  rfl
theorem find_cut {L : CutT} {h : Int} : (∃ t ∈ L, t.1 = h) ∨ (∀ t ∈ L, t.1 ≠ h) := by
  by_cases e : ∃ t ∈ L, t.1 = h
  · exact .inl e
  · exact .inr fun t m z => e ⟨t, m, z⟩
theorem valV_cutN {L : CutT} {h : Int} (n : ∀ t ∈ L, t.1 ≠ h) : valV (cutK L) (Sum.inl h) = none := by
  rw [valV_cut, List.find?_eq_none.mpr fun t m => by simpa using n t m]
  rfl
/-- one more cut of an hour, its new list at l -/
def putCut : CutT → Int → Addr → Int → CutT
  | [], h, l, c => [(h, l, [c])]
  | t :: r, h, l, c => if t.1 = h then (h, l, t.2.2 ++ [c]) :: r else t :: putCut r h l c
theorem mem_put {h c : Int} {l : Addr} : ∀ {L : CutT} {u : Int × Addr × List Int}, u ∈ putCut L h l c → u ∈ L ∨ u = (h, l, cutsL L h ++ [c])
  | [], u, m => .inr (by simpa [putCut, cutsL] using m)
  | t :: r, u, m => by
    unfold putCut at m
    unfold cutsL
    rw [List.find?_cons]
    by_cases e : t.1 = h
    · rw [if_pos e] at m
      simp only [decide_eq_true e]
      rcases List.mem_cons.mp m with m | m
      · exact .inr m
      · exact .inl (List.mem_cons_of_mem _ m)
    · rw [if_neg e] at m
      simp only [decide_eq_false e]
      rcases List.mem_cons.mp m with m | m
      · exact .inl (m ▸ List.mem_cons_self)
      · rcases mem_put m with m | m
        · exact .inl (List.mem_cons_of_mem _ m)
        · exact .inr m
theorem keys_put {h c : Int} {l : Addr} : ∀ {L : CutT}, (L.map (·.1)).Nodup → ((putCut L h l c).map (·.1)).Nodup
  | [], _ => by simp [putCut]
  | t :: r, n => by
    rw [List.map_cons, List.nodup_cons] at n
    unfold putCut
    by_cases e : t.1 = h
    · rw [if_pos e, List.map_cons, List.nodup_cons]
      exact ⟨e ▸ n.1, n.2⟩
    · rw [if_neg e, List.map_cons, List.nodup_cons]
      refine ⟨fun m => ?_, keys_put n.2⟩
      obtain ⟨u, mu, eu⟩ := List.mem_map.mp m
      rcases mem_put mu with z | z
      · exact n.1 (eu ▸ List.mem_map_of_mem z)
      · rw [z] at eu
        exact e eu.symm
theorem addr_put {h c : Int} {l : Addr} : ∀ {L : CutT}, (L.map (·.2.1)).Nodup → l ∉ L.map (·.2.1) → ((putCut L h l c).map (·.2.1)).Nodup
  | [], _, _ => by simp [putCut]
  | t :: r, n, hl => by
    rw [List.map_cons, List.nodup_cons] at n
    rw [List.map_cons, List.mem_cons, not_or] at hl
    unfold putCut
    by_cases e : t.1 = h
    · rw [if_pos e, List.map_cons, List.nodup_cons]
      exact ⟨hl.2, n.2⟩
    · rw [if_neg e, List.map_cons, List.nodup_cons]
      refine ⟨fun m => ?_, addr_put n.2 hl.2⟩
      obtain ⟨u, mu, eu⟩ := List.mem_map.mp m
      rcases mem_put mu with z | z
      · exact n.1 (eu ▸ List.mem_map_of_mem z)
      · rw [z] at eu
        exact hl.1 eu
theorem flat_put {h c : Int} {l : Addr} : ∀ {L : CutT}, (flat (putCut L h l c)).Perm ((h, c) :: flat L)
  | [] => .refl _
  | t :: r => by
    unfold putCut
    by_cases e : t.1 = h
    · rw [if_pos e]
      unfold flat
      rw [List.flatMap_cons, List.flatMap_cons, List.map_append, e]
      show (((t.2.2.map fun c => (h, c)) ++ [(h, c)]) ++ _).Perm _
      rw [List.append_assoc]
      exact List.perm_middle
    · rw [if_neg e]
      have ih := flat_put (h := h) (c := c) (l := l) (L := r)
      unfold flat at ih ⊢
      rw [List.flatMap_cons, List.flatMap_cons]
      exact (ih.append_left _).trans List.perm_middle
theorem map_same {k : Key} {v : V} : ∀ {r : CutT}, (∀ t ∈ r, Sum.inl t.1 ≠ k) → ((cutK r).map fun kv => if kv.1 = k then (kv.1, v) else kv) = cutK r
  | [], _ => rfl
  | t :: r, n => by
    have ih := map_same (k := k) (v := v) (r := r) fun u m => n u (List.mem_cons_of_mem _ m)
    unfold cutK at ih ⊢
    rw [List.map_cons, List.map_cons, ih, if_neg (n t List.mem_cons_self)]
theorem putK_cut {h c : Int} {l : Addr} : ∀ {L : CutT}, (L.map (·.1)).Nodup → putK (cutK L) (Sum.inl h) (V.ref l) = cutK (putCut L h l c)
  | [], _ => rfl
  | t :: r, n => by
    rw [List.map_cons, List.nodup_cons] at n
    have ih := putK_cut (h := h) (c := c) (l := l) n.2
    unfold putCut
    by_cases e : t.1 = h
    · rw [if_pos e]
      unfold putK
      rw [show cutK (t :: r) = (Sum.inl t.1, V.ref t.2.1) :: cutK r from rfl]
      rw [if_pos (List.any_eq_true.mpr ⟨(Sum.inl t.1, V.ref t.2.1), List.mem_cons_self, decide_eq_true (congrArg Sum.inl e)⟩)]
      show (if (Sum.inl t.1 : Key) = Sum.inl h then ((Sum.inl t.1 : Key), V.ref l) else _) :: _ = (Sum.inl h, V.ref l) :: cutK r
      rw [if_pos (congrArg Sum.inl e), e]
      congr 1
      exact map_same fun u m z => n.1 (e ▸ Sum.inl.inj z ▸ List.mem_map_of_mem m)
    · rw [if_neg e]
      have e2 : ¬ (Sum.inl t.1 : Key) = Sum.inl h := fun z => e (Sum.inl.inj z)
      unfold putK at ih ⊢
      show (if (decide ((Sum.inl t.1 : Key) = Sum.inl h) || (cutK r).any fun kv => decide (kv.1 = Sum.inl h)) = true then (if (Sum.inl t.1 : Key) = Sum.inl h then ((Sum.inl t.1 : Key), V.ref l) else (Sum.inl t.1, V.ref t.2.1)) :: _ else (Sum.inl t.1, V.ref t.2.1) :: (cutK r ++ [(Sum.inl h, V.ref l)])) = (Sum.inl t.1, V.ref t.2.1) :: cutK (putCut r h l c)
      rw [decide_eq_false e2, Bool.false_or, if_neg e2, ← ih]
      split <;> rfl
/-- what stands when one more cut was put -/
theorem CutsAt.put {H H' : Hp} {d l : Addr} {L : CutT} {h c : Int} (C : CutsAt H d L) (hl : H l = none) (k : ∀ t ∈ L, H' t.2.1 = H t.2.1) (hd : H' d = some (.dK (cutK (putCut L h l c)))) (e : H' l = some (.lst ((cutsL L h ++ [c]).map V.int))) : CutsAt H' d (putCut L h l c) := by
  have nl : l ∉ L.map (·.2.1) := fun m => by
    obtain ⟨t, ht, z⟩ := List.mem_map.mp m
    have := C.hl t ht
    rw [z, hl] at this
    cases this
  refine ⟨hd, fun t ht => ?_, fun t ht => ?_, keys_put C.nk, addr_put C.na nl⟩
  · rcases mem_put ht with m | m
    · rw [k t m]
      exact C.hl t m
    · rw [m]
      exact e
  · rcases mem_put ht with m | m
    · exact C.ne t m
    · rw [m]
      simp
theorem fp_put {h c : Int} {d l : Addr} {L : CutT} {x : Addr} (m : x ∈ fpC d (putCut L h l c)) : x ∈ fpC d L ∨ x = l := by
  rcases List.mem_cons.mp m with rfl | m
  · exact .inl List.mem_cons_self
  · obtain ⟨t, ht, rfl⟩ := List.mem_map.mp m
    rcases mem_put ht with z | z
    · exact .inl (List.mem_cons_of_mem _ (List.mem_map_of_mem z))
    · rw [z]
      exact .inr rfl
theorem cutsL_of {L : CutT} (n : (L.map (·.1)).Nodup) {t : Int × Addr × List Int} (m : t ∈ L) : cutsL L t.1 = t.2.2 := by
  unfold cutsL
  rw [cutsL_mem n m]
  rfl
theorem cutsL_none {L : CutT} {h : Int} (n : ∀ t ∈ L, t.1 ≠ h) : cutsL L h = [] := by
  unfold cutsL
  rw [List.find?_eq_none.mpr fun t m => by simpa using n t m]
  rfl
theorem pair_ne {α β : Type} {f : α → β} {l : List α} (n : l.Pairwise fun a b => f a ≠ f b) {a b : α} (ha : a ∈ l) (hb : b ∈ l) (h : a ≠ b) : f a ≠ f b := by
  obtain ⟨i, hi, rfl⟩ := List.getElem_of_mem ha
  obtain ⟨j, hj, rfl⟩ := List.getElem_of_mem hb
  rcases Nat.lt_trichotomy i j with z | z | z
  · exact List.pairwise_iff_getElem.mp n i j hi hj z
  · subst z
    exact absurd rfl h
  · exact (List.pairwise_iff_getElem.mp n j i hj hi z).symm
/-- the cuts of an hour put otherwise, the hour taken out where there are none -/
def setCut : CutT → Int → List Int → CutT
  | [], _, _ => []
  | t :: r, h, cs => if t.1 = h then (if cs = [] then r else (t.1, t.2.1, cs) :: r) else t :: setCut r h cs
theorem mem_set {h : Int} {cs : List Int} : ∀ {L : CutT} {u : Int × Addr × List Int}, (L.map (·.1)).Nodup → u ∈ setCut L h cs → (u ∈ L ∧ u.1 ≠ h) ∨ (∃ ds, (h, u.2.1, ds) ∈ L ∧ u = (h, u.2.1, cs) ∧ cs ≠ [])
  | t :: r, u, n, m => by
    rw [List.map_cons, List.nodup_cons] at n
    have nr : ∀ v ∈ r, t.1 = h → v.1 ≠ h := fun v hv e z => n.1 (e.trans z.symm ▸ List.mem_map_of_mem hv)
    unfold setCut at m
    by_cases e : t.1 = h
    · rw [if_pos e] at m
      by_cases e2 : cs = []
      · rw [if_pos e2] at m
        exact .inl ⟨List.mem_cons_of_mem _ m, nr u m e⟩
      · rw [if_neg e2] at m
        rcases List.mem_cons.mp m with rfl | m
        · exact .inr ⟨t.2.2, by rw [← e]; exact List.mem_cons_self, by rw [← e], e2⟩
        · exact .inl ⟨List.mem_cons_of_mem _ m, nr u m e⟩
    · rw [if_neg e] at m
      rcases List.mem_cons.mp m with rfl | m
      · exact .inl ⟨List.mem_cons_self, e⟩
      · rcases mem_set n.2 m with ⟨a, b⟩ | ⟨cs, a, b⟩
        · exact .inl ⟨List.mem_cons_of_mem _ a, b⟩
        · exact .inr ⟨cs, List.mem_cons_of_mem _ a, b⟩
theorem set_sub {α : Type} {f : Int × Addr × List Int → α} {h : Int} {cs : List Int} (hf : ∀ t cs, f (t.1, t.2.1, cs) = f t) : ∀ {L : CutT}, ((setCut L h cs).map f).Sublist (L.map f)
  | [] => .slnil
  | t :: r => by
    unfold setCut
    split
    · split
      · exact .cons _ (List.Sublist.refl _)
      · rw [List.map_cons, List.map_cons, hf]
        exact List.Sublist.refl _
    · exact (set_sub hf).cons₂ _
theorem flat_set {h k : Int} {cs : List Int} : ∀ {L : CutT}, (∃ t ∈ L, t.1 = h) → (cutsL L h).Perm (k :: cs) → (flat L).Perm ((h, k) :: flat (setCut L h cs))
  | [], m, _ => by obtain ⟨_, m, _⟩ := m; cases m
  | t :: r, ht, m => by
    unfold cutsL at m
    rw [List.find?_cons] at m
    have fc : ∀ (u : Int × Addr × List Int) (l : CutT), flat (u :: l) = (u.2.2.map fun c => (u.1, c)) ++ flat l := fun u l => List.flatMap_cons
    unfold setCut
    by_cases e : t.1 = h
    · simp only [decide_eq_true e] at m
      have m : t.2.2.Perm (k :: cs) := m
      rw [if_pos e, fc]
      have p := m.map fun c => (t.1, c)
      rw [List.map_cons, e] at p
      rw [e]
      by_cases e2 : cs = []
      · rw [if_pos e2]
        rw [e2] at p
        exact p.append_right _
      · rw [if_neg e2, fc]
        exact p.append_right _
    · simp only [decide_eq_false e] at m
      have ht2 : ∃ t ∈ r, t.1 = h := by
        obtain ⟨u, hu, z⟩ := ht
        rcases List.mem_cons.mp hu with rfl | hu
        · exact absurd z e
        · exact ⟨u, hu, z⟩
      rw [if_neg e, fc, fc]
      exact ((flat_set ht2 m).append_left _).trans List.perm_middle
theorem cutK_set1 {h : Int} {cs : List Int} (m : cs ≠ []) : ∀ {L : CutT}, cutK (setCut L h cs) = cutK L
  | [] => rfl
  | t :: r => by
    unfold setCut
    by_cases e : t.1 = h
    · rw [if_pos e, if_neg m]
      rfl
    · rw [if_neg e]
      show (_ :: cutK (setCut r h cs)) = (_ :: cutK r)
      rw [cutK_set1 m]
theorem cutK_set2 {h : Int} : ∀ {L : CutT}, (L.map (·.1)).Nodup → (∃ t ∈ L, t.1 = h) → cutK (setCut L h []) = dropK (cutK L) (Sum.inl h)
  | t :: r, n, ht => by
    rw [List.map_cons, List.nodup_cons] at n
    have ec : cutK (t :: r) = ((Sum.inl t.1 : Key), V.ref t.2.1) :: cutK r := rfl
    unfold setCut
    by_cases e : t.1 = h
    · rw [if_pos e, if_pos rfl, ec]
      unfold dropK
      rw [List.filter_cons, if_neg (by rw [decide_eq_false (fun z => z (congrArg Sum.inl e))]; decide)]
      refine (List.filter_eq_self.mpr fun kv hkv => ?_).symm
      unfold cutK at hkv
      obtain ⟨u, hu, rfl⟩ := List.mem_map.mp hkv
      exact decide_eq_true fun z => n.1 (e.trans (Sum.inl.inj z).symm ▸ List.mem_map_of_mem hu)
    · have ht2 : ∃ t ∈ r, t.1 = h := by
        obtain ⟨u, hu, z⟩ := ht
        rcases List.mem_cons.mp hu with rfl | hu
        · exact absurd z e
        · exact ⟨u, hu, z⟩
      rw [if_neg e, ec]
      unfold dropK
      have e3 : decide ((Sum.inl t.1 : Key) ≠ Sum.inl h) = true := decide_eq_true (fun z => e (Sum.inl.inj z))
      rw [List.filter_cons, if_pos e3]
      show (_ :: cutK (setCut r h [])) = _
      rw [cutK_set2 n.2 ht2]
      rfl
/-- what stands when the cuts of an hour were put otherwise -/
theorem CutsAt.set {H H' : Hp} {d : Addr} {L : CutT} {t : Int × Addr × List Int} {cs : List Int} (C : CutsAt H d L) (ht : t ∈ L) (o : ∀ u ∈ L, u.1 ≠ t.1 → H' u.2.1 = H u.2.1) (hd : H' d = some (.dK (cutK (setCut L t.1 cs)))) (e : cs ≠ [] → H' t.2.1 = some (.lst (cs.map V.int))) : CutsAt H' d (setCut L t.1 cs) := by
  refine ⟨hd, fun u hu => ?_, fun u hu => ?_, C.nk.sublist (set_sub fun _ _ => rfl), C.na.sublist (set_sub fun _ _ => rfl)⟩
  · rcases mem_set C.nk hu with ⟨a, b⟩ | ⟨ds, a, b, n⟩
    · rw [o u a b]
      exact C.hl u a
    · have e1 := cutsL_mem C.nk ht
      have e2 := cutsL_mem C.nk a
      rw [e1] at e2
      have e3 := Option.some.inj e2
      rw [e3] at e
      rw [b]
      exact e n
  · rcases mem_set C.nk hu with ⟨a, b⟩ | ⟨cs, a, b, n⟩
    · exact C.ne u a
    · rw [b]
      exact n
theorem fp_set {h : Int} {cs : List Int} {d : Addr} {L : CutT} {x : Addr} (m : x ∈ fpC d (setCut L h cs)) : x ∈ fpC d L := by
  rcases List.mem_cons.mp m with rfl | m
  · exact List.mem_cons_self
  · exact List.mem_cons_of_mem _ ((set_sub fun _ _ => rfl).subset m)
theorem bs_set {h k : Int} {cs : List Int} {L : CutT} {bs : List (Int × Int)} (p : bs.Perm (flat L)) (ht : ∃ t ∈ L, t.1 = h) (m : (cutsL L h).Perm (k :: cs)) : (bs.erase (h, k)).Perm (flat (setCut L h cs)) := by
  have := (p.trans (flat_set ht m)).erase (h, k)
  rwa [List.erase_cons_head] at this
/-- the lists of other hours stand where the list of one was changed -/
theorem others {H : Hp} {d : Addr} {L : CutT} (C : CutsAt H d L) {t : Int × Addr × List Int} (ht : t ∈ L) {u : Int × Addr × List Int} (hu : u ∈ L) (ne : u.1 ≠ t.1) : u.2.1 ≠ t.2.1 := fun e => ne (by
  have n := C.na
  rw [List.nodup_iff_pairwise_ne, List.pairwise_map] at n
  by_cases z : u = t
  · rw [z]
  · exact absurd e (pair_ne n hu ht z))
theorem mem_cutsL {h k : Int} {L : CutT} (n : (L.map (·.1)).Nodup) : k ∈ cutsL L h ↔ (h, k) ∈ flat L := by
  rw [mem_flat]
  constructor
  · intro m
    rcases find_cut (L := L) (h := h) with ⟨t, ht, rfl⟩ | e
    · rw [cutsL_of n ht] at m
      exact ⟨t, ht, rfl, m⟩
    · rw [cutsL_none e] at m
      cases m
  · rintro ⟨t, ht, e, m⟩
    have e : t.1 = h := e
    rw [← e, cutsL_of n ht]
    exact m
theorem inV_int {k : Int} : ∀ {ns : List Int}, inV (.int k) (ns.map V.int) = decide (k ∈ ns)
  | [] => rfl
  | a :: r => by
    have ih := inV_int (k := k) (ns := r)
    unfold inV at ih ⊢
    rw [List.map_cons, List.any_cons, ih]
    have e : eqV (.int a) (.int k) = decide (a = k) := by
      by_cases z : a = k
      · subst z; simp [eqV]
      · simp [eqV, z]
    rw [e]
    by_cases z : a = k
    · subst z; simp
    · have : ¬ k = a := fun e => z e.symm
      simp [z, this]
theorem all_flatI {ns : List Int} : (ns.map V.int).all flatV = true := by
  rw [List.all_map]
  exact List.all_eq_true.mpr fun _ _ => rfl
def rowsV (w : Wy) (bs : List (Int × Int)) : List (List V) := (hoursOf bs).map fun h => [.int h, .int (aH w bs h), .int (bH w bs h)]
def baseV (w : Wy) (bs : List (Int × Int)) : List (List V) := (baseH w.since bs).map fun h => [.int h, .int (bH w bs h)]
def brkV (bs : List (Int × Int)) : List (List V) := (brkOf bs).map fun b => [.int b.1, .int b.2]
structure BsOk (since : Int) (bs : List (Int × Int)) : Prop where
  lo : ∀ b ∈ bs, since ≤ b.1
  hi : ∀ b ∈ bs, b.1 ≤ 100000000
  c0 : ∀ b ∈ bs, 1 ≤ b.2
  c1 : ∀ b ∈ bs, b.2 ≤ 1000000
theorem flat_len {L : CutT} (h : ∀ t ∈ L, t.2.2 ≠ []) : L.length ≤ (flat L).length := by
  induction L with
  | nil => exact Nat.zero_le _
  | cons t r ih =>
    have i := ih fun u m => h u (List.mem_cons_of_mem _ m)
    have hp : 0 < t.2.2.length := List.length_pos_iff.mpr (h t List.mem_cons_self)
    unfold flat at i ⊢
    rw [List.flatMap_cons, List.length_append, List.length_map, List.length_cons]
    omega
theorem cutsL_len {L : CutT} (h : Int) : (cutsL L h).length ≤ (flat L).length := by
  induction L with
  | nil => exact Nat.zero_le _
  | cons t r ih =>
    unfold cutsL flat at ih ⊢
    rw [List.find?_cons, List.flatMap_cons, List.length_append, List.length_map]
    split
    · show t.2.2.length ≤ _
      omega
    · omega
theorem BsOk.cons {since h c : Int} {bs : List (Int × Int)} (o : BsOk since bs) (h0 : since ≤ h) (h1 : h ≤ 100000000) (c0 : 1 ≤ c) (c1 : c ≤ 1000000) : BsOk since ((h, c) :: bs) :=
  ⟨fun b m => (List.mem_cons.mp m).elim (fun e => e ▸ h0) (o.lo b), fun b m => (List.mem_cons.mp m).elim (fun e => e ▸ h1) (o.hi b), fun b m => (List.mem_cons.mp m).elim (fun e => e ▸ c0) (o.c0 b), fun b m => (List.mem_cons.mp m).elim (fun e => e ▸ c1) (o.c1 b)⟩
theorem BsOk.perm {since : Int} {bs cs : List (Int × Int)} (o : BsOk since bs) (p : bs.Perm cs) : BsOk since cs := ⟨fun b m => o.lo b (p.mem_iff.mpr m), fun b m => o.hi b (p.mem_iff.mpr m), fun b m => o.c0 b (p.mem_iff.mpr m), fun b m => o.c1 b (p.mem_iff.mpr m)⟩
theorem BsOk.sub {since : Int} {bs cs : List (Int × Int)} (o : BsOk since bs) (p : ∀ b ∈ cs, b ∈ bs) : BsOk since cs := ⟨fun b m => o.lo b (p b m), fun b m => o.hi b (p b m), fun b m => o.c0 b (p b m), fun b m => o.c1 b (p b m)⟩
theorem BsOk.nn {since : Int} {bs : List (Int × Int)} (o : BsOk since bs) : ∀ b ∈ bs, 0 ≤ b.2 := fun b m => by
  have := o.c0 b m
  omega
theorem hours_len0 {bs : List (Int × Int)} : (hoursOf bs).length ≤ bs.length := by
  unfold hoursOf
  rw [(srtI_perm _).length_eq]
  have d : ∀ l : List Int, (ddI l).length ≤ l.length := fun l => by
    induction l with
    | nil => exact Nat.le_refl _
    | cons x r ih =>
      unfold ddI
      split
      · exact Nat.le_succ_of_le ih
      · exact Nat.succ_le_succ ih
  have := d (bs.map (·.1))
  rw [List.length_map] at this
  exact this
theorem ks_trans {S S' : List Addr} {H H1 H2 : Hp} (a : KeepS S H H1) (b : KeepS S' H1 H2) (h : ∀ x ∈ S', x ∈ S ∨ H x = none) : KeepS S H H2 := fun c o e n => b c o (a c o e n) (n.imp id fun n m => by
  rcases h c m with z | z
  · exact n z
  · rw [z] at e
    cases e)
theorem apart {A B : List Addr} {H : Hp} (a : ∀ x ∈ A, ∃ o, H x = some o ∧ imm o = false) (b : ∀ x ∈ B, H x = none) : ∀ x ∈ A, x ∉ B := fun x hx m => by
  obtain ⟨o, e, _⟩ := a x hx
  rw [b x m] at e
  cases e
theorem apart' {A B : List Addr} {H : Hp} (a : ∀ x ∈ A, ∃ o, H x = some o ∧ imm o = false) (b : ∀ x ∈ B, H x = none) : ∀ x ∈ B, x ∉ A := fun x hx m => apart a b x m hx
theorem out_none {S : List Addr} {H : Hp} (h : ∀ x ∈ S, H x = none) {b : Addr} {o : HO} (e : H b = some o) : b ∉ S := fun m => by
  rw [h b m] at e
  cases e
theorem out_there {S : List Addr} {H : Hp} (h : ∀ x ∈ S, ∃ o, H x = some o ∧ imm o = false) {b : Addr} (e : H b = none) : b ∉ S := fun m => by
  obtain ⟨o, z, _⟩ := h b m
  rw [e] at z
  cases z
theorem nin_app {A B : List Addr} {b : Addr} (h1 : b ∉ A) (h2 : b ∉ B) : b ∉ A ++ B := fun m => (List.mem_append.mp m).elim h1 h2
theorem app_nin {A B C : List Addr} (h1 : ∀ z ∈ A, z ∉ C) (h2 : ∀ z ∈ B, z ∉ C) : ∀ z ∈ A ++ B, z ∉ C := fun z hz => (List.mem_append.mp hz).elim (h1 z) (h2 z)
theorem nin_app2 {A B C : List Addr} (h1 : ∀ z ∈ A, z ∉ B) (h2 : ∀ z ∈ A, z ∉ C) : ∀ z ∈ A, z ∉ B ++ C := fun z hz => nin_app (h1 z hz) (h2 z hz)
theorem ks_kb {p : Addr} {H H' : Hp} {n : Nat} (hB : BoxAt H p n) (k : KeepB p H H') : KeepS [p] H H' := fun b o e h => k b o e fun z => by
  obtain ⟨x, y, w, e2, _⟩ := hB
  subst z
  rcases h with h | h
  · rw [e2] at e
    cases e
    cases h
  · exact h List.mem_cons_self
theorem ks_same {S : List Addr} {H H1 H2 : Hp} (k : KeepS S H H1) (s : Same H1 H2) : KeepS S H H2 := fun b o e h => s b o (k b o e h)
theorem not_p {p : Addr} {S : List Addr} (h : p ∉ S) : ∀ x ∈ S, x ∉ [p] := fun x hx m => h (List.mem_singleton.mp m ▸ hx)
/-- what is new of a footprint is not where something stood -/
theorem out_new {S S' : List Addr} {H : Hp} (h : ∀ x ∈ S', x ∈ S ∨ H x = none) {b : Addr} {o : HO} (e : H b = some o) (n : b ∉ S) : b ∉ S' := fun m => by
  rcases h b m with z | z
  · exact n z
  · rw [z] at e
    cases e
theorem baseV_mem {w : Wy} {bs : List (Int × Int)} {r : List V} (h : r ∈ baseV w bs) : ∃ k, r = [.int k, .int (bH w bs k)] := by
  unfold baseV at h
  obtain ⟨k, _, rfl⟩ := List.mem_map.mp h
  exact ⟨k, rfl⟩
theorem base_small {w : Wy} {bs : List (Int × Int)} {H : Hp} {ps : List V} (h : RowsAt H ps (baseV w bs)) (l : bs.length < 64) : ps.length ≤ 100000 := by
  have h1 := h.len
  have h2 := hours_len0 (bs := bs)
  unfold baseV baseH at h1
  rw [List.length_map] at h1
  split at h1
  · omega
  · rw [List.length_cons] at h1
    omega
def icF (ch : Addr) (since : Int) (d : Addr) : List (Str × V) := [("way", .ref ch), ("since", .int since), ("cuts", .ref d)]
theorem icl_way {ch : Addr} {since : Int} {d : Addr} : (icF ch since d).lookup ("way" : Str) = some (.ref ch) := by kernel_rfl
theorem icl_since {ch : Addr} {since : Int} {d : Addr} : (icF ch since d).lookup ("since" : Str) = some (.int since) := by kernel_rfl
theorem icl_cuts {ch : Addr} {since : Int} {d : Addr} : (icF ch since d).lookup ("cuts" : Str) = some (.ref d) := by kernel_rfl
theorem ic_put {ch : Addr} {since : Int} {d : Addr} : putF "cuts" (.ref d) (putF "since" (.int since) (putF "way" (.ref ch) [])) = icF ch since d := by kernel_rfl
local macro_rules | `(tactic| walk_at "lk") => `(tactic| with_reducible first | exact My.icl_way | exact My.icl_since | exact My.icl_cuts)
def wayCh (f g m : Int) : Ch := ⟨Str.ofString "way", Str.ofString "a", Str.ofString "b", 3, 4, f, g, m⟩
structure NumOk (f g m s : Int) : Prop where
  f0 : 0 ≤ f
  fm : f ≤ m
  m1 : m ≤ 1000000
  g0 : 0 ≤ g
  g1 : g ≤ 1000
  s0 : 0 ≤ s
  s1 : s ≤ 1000000
theorem NumOk.ch {f g m s : Int} (o : NumOk f g m s) : chOk (wayCh f g m) := by
  obtain ⟨a, b, c, d, e, _, _⟩ := o
  unfold chOk wayCh
  simp only []
  omega
def numK (f g m s : Int) (d : Addr) : List (Key × V) := [(Sum.inr "first", .int f), (Sum.inr "growth", .int g), (Sum.inr "most", .int m), (Sum.inr "begin", .int s), (Sum.inr "cuts", .ref d)]
theorem nk_first {f g m s : Int} {d : Addr} : valV (numK f g m s d) (Sum.inr "first") = some (.int f) := by kernel_rfl
theorem nk_growth {f g m s : Int} {d : Addr} : valV (numK f g m s d) (Sum.inr "growth") = some (.int g) := by kernel_rfl
theorem nk_most {f g m s : Int} {d : Addr} : valV (numK f g m s d) (Sum.inr "most") = some (.int m) := by kernel_rfl
theorem nk_begin {f g m s : Int} {d : Addr} : valV (numK f g m s d) (Sum.inr "begin") = some (.int s) := by kernel_rfl
theorem nk_cuts {f g m s : Int} {d : Addr} : valV (numK f g m s d) (Sum.inr "cuts") = some (.ref d) := by kernel_rfl
local macro_rules | `(tactic| walk_at "vk") => `(tactic| with_reducible first | exact My.nk_first | exact My.nk_growth | exact My.nk_most | exact My.nk_begin | exact My.nk_cuts)
local macro_rules | `(tactic| walk_at "rd1") => `(tactic| ((with_reducible refine My.rd_dgtS (kvs := ?kk) (v := ?vv) ?hd ?hl ?_); (case hd => walk_at "hp"); (case hl => walk_at "vk")))
def NumAt (H : Hp) (n : Addr) (f g m s : Int) (bs : List (Int × Int)) (S : List Addr) : Prop := ∃ d L, H n = some (.dK (numK f g m s d)) ∧ CutsAt H d L ∧ bs.Perm (flat L) ∧ S = n :: fpC d L
theorem num_ne {H : Hp} {n d : Addr} {f g m s : Int} {e : Addr} {L : CutT} (hn : H n = some (.dK (numK f g m s e))) (hL : CutsAt H d L) : n ∉ fpC d L := fun z => by
  rcases List.mem_cons.mp z with rfl | z
  · rw [hL.hd] at hn
    injection hn with hn
    injection hn with hn
    cases L with
    | nil => cases hn
    | cons t r =>
      injection hn with h1 _
      injection h1 with h1 _
      cases h1
  · obtain ⟨t, ht, rfl⟩ := List.mem_map.mp z
    rw [hL.hl t ht] at hn
    cases hn
theorem NumAt.keep {H H' : Hp} {n : Addr} {f g m s : Int} {bs : List (Int × Int)} {S : List Addr} (k : Same H H') (h : NumAt H n f g m s bs S) : NumAt H' n f g m s bs S := by
  obtain ⟨d, L, h1, h2, r⟩ := h
  exact ⟨d, L, k _ _ h1, h2.keep k, r⟩
theorem NumAt.keepS {H H' : Hp} {n : Addr} {f g m s : Int} {bs : List (Int × Int)} {S S2 : List Addr} (k : KeepS S2 H H') (nS : ∀ x ∈ S, x ∉ S2) (h : NumAt H n f g m s bs S) : NumAt H' n f g m s bs S := by
  obtain ⟨d, L, h1, h2, h3, rfl⟩ := h
  exact ⟨d, L, k _ _ h1 (.inr (nS _ List.mem_cons_self)), h2.keepS k fun x hx => nS x (List.mem_cons_of_mem _ hx), h3, rfl⟩
theorem NumAt.there {H : Hp} {n : Addr} {f g m s : Int} {bs : List (Int × Int)} {S : List Addr} (h : NumAt H n f g m s bs S) {x : Addr} (mx : x ∈ S) : ∃ o, H x = some o ∧ imm o = false := by
  obtain ⟨d, L, h1, h2, h3, rfl⟩ := h
  rcases List.mem_cons.mp mx with rfl | mx
  · exact ⟨_, h1, rfl⟩
  · exact fp_there h2 mx
theorem BoxAt.ks {S : List Addr} {H H' : Hp} {p : Addr} {n : Nat} (b : BoxAt H p n) (k : KeepS S H H') (np : p ∉ S) : BoxAt H' p n := by
  obtain ⟨u, v, w, e, r⟩ := b
  exact ⟨u, v, w, k _ _ e (.inr np), r⟩
theorem kb_none {p : Addr} {n : Nat} {H H' : Hp} (k : KeepB p H H') (b : BoxAt H' p n) {x : Addr} (h : H' x = none) : H x = none := by
  cases e : H x with
  | none => rfl
  | some o =>
    have np : x ≠ p := fun z => by
      obtain ⟨_, _, _, e2, _⟩ := b
      rw [z, e2] at h
      cases h
    rw [k x o e np] at h
    cases h
theorem aH_at {w : Wy} {bs : List (Int × Int)} {i : Nat} : aH w bs (w.since + (i : Int)) = lev w bs i := by
  unfold aH
  rw [show (w.since + (i : Int) - w.since).toNat = i by omega]
theorem bH_at {w : Wy} {bs : List (Int × Int)} {i : Nat} : bH w bs (w.since + (i : Int)) = beh w bs i := by
  unfold bH
  rw [show (w.since + (i : Int) - w.since).toNat = i by omega]
/-- the rows, found among so many hours -/
theorem rows_range {w : Wy} {bs : List (Int × Int)} (lo : ∀ b ∈ bs, w.since ≤ b.1) (hi : ∀ b ∈ bs, b.1 < w.since + 60) :
    ((List.range 60).filter fun i : Nat => decide (w.since + (i : Int) ∈ hoursOf bs)).map (fun i : Nat => [V.int (w.since + (i : Int)), .int (lev w bs i), .int (beh w bs i)]) = rowsV w bs := by
  have e : ((List.range 60).filter fun i : Nat => decide (w.since + (i : Int) ∈ hoursOf bs)).map (fun i : Nat => w.since + (i : Int)) = hoursOf bs := by
    refine hoursOf_uniq ?_ fun h => ?_
    · rw [List.pairwise_map]
      exact (List.pairwise_lt_range.filter _).imp fun h => by omega
    · rw [List.mem_map, ← mem_hoursOf]
      constructor
      · rintro ⟨i, hi2, rfl⟩
        exact of_decide_eq_true (List.mem_filter.mp hi2).2
      · intro m
        obtain ⟨b, hb, e⟩ := mem_hoursOf.mp m
        have h1 := lo b hb
        have h2 := hi b hb
        refine ⟨(h - w.since).toNat, List.mem_filter.mpr ⟨List.mem_range.mpr (by omega), decide_eq_true ?_⟩, by omega⟩
        rw [show w.since + (((h - w.since).toNat : Nat) : Int) = h by omega]
        exact m
  unfold rowsV
  conv => rhs; rw [← e, List.map_map]
  refine List.map_congr_left fun i _ => ?_
  simp only [Function.comp, aH_at, bH_at]
def dRows (rs : List (List V)) : PyData := .list (rs.map fun r => .tuple (r.map dI))
def dRB (w : Wy) (bs : List (Int × Int)) : PyData := .list [dRows (rowsV w bs), dRows (brkV bs)]
theorem rowsV_int {w : Wy} {bs : List (Int × Int)} : ∀ r ∈ rowsV w bs, ∀ x ∈ r, ∃ i : Int, x = .int i := fun r hr x hx => by
  unfold rowsV at hr
  obtain ⟨h, _, rfl⟩ := List.mem_map.mp hr
  simp only [List.mem_cons, List.not_mem_nil, or_false] at hx
  rcases hx with rfl | rfl | rfl <;> exact ⟨_, rfl⟩
theorem brkV_int {bs : List (Int × Int)} : ∀ r ∈ brkV bs, ∀ x ∈ r, ∃ i : Int, x = .int i := fun r hr x hx => by
  unfold brkV at hr
  obtain ⟨h, _, rfl⟩ := List.mem_map.mp hr
  simp only [List.mem_cons, List.not_mem_nil, or_false] at hx
  rcases hx with rfl | rfl <;> exact ⟨_, rfl⟩
theorem dp_rows {K : PySem.W.Frag} {H : Hp} {q : Addr} {ps : List V} {rs : List (List V)} (hq : H q = some (.lst ps)) (h : RowsAt H ps rs) (hi : ∀ r ∈ rs, ∀ x ∈ r, ∃ i : Int, x = .int i) : Dp K H (.ref q) (dRows rs) := .lst (sqL_of hq) (h.dp dI fun r hr => dpI (hi r hr))
theorem dp_rb {K : PySem.W.Frag} {H : Hp} {l q1 q2 : Addr} {ps qs : List V} {w : Wy} {bs : List (Int × Int)} (hl : H l = some (.lst [.ref q1, .ref q2])) (h1 : H q1 = some (.lst ps)) (r1 : RowsAt H ps (rowsV w bs)) (h2 : H q2 = some (.lst qs)) (r2 : RowsAt H qs (brkV bs)) : DpE K H (.ref l) (dRB w bs) :=
  .dp (.lst (sqL_of hl) (.cons (dp_rows h1 r1 rowsV_int) (.cons (dp_rows h2 r2 brkV_int) .nil)))
theorem sm_rows {rs : List (List V)} (l : rs.length ≤ 64) (h : ∀ r ∈ rs, r.length ≤ 3 ∧ ∀ x ∈ r, ∃ i : Int, x = .int i ∧ i.natAbs ≤ 1000000000) : Sm 2 400000 (dRows rs) := by
  refine (Sm.lst (n := 1) (w := 6010) (m := 64) (fun d hd => ?_) (by rw [List.length_map]; exact l)).mono (Nat.le_refl _) (by decide)
  obtain ⟨r, hr, rfl⟩ := List.mem_map.mp hd
  obtain ⟨h1, h2⟩ := h r hr
  refine (Sm.tup (n := 0) (w := 2000) (m := 3) (fun d hd => ?_) (by rw [List.length_map]; exact h1)).mono (Nat.le_refl _) (by decide)
  obtain ⟨x, hx, rfl⟩ := List.mem_map.mp hd
  obtain ⟨i, rfl, hi⟩ := h2 x hx
  exact Sm.int (Nat.le_trans hi (by decide))
theorem sm_rowsV {w : Wy} {bs : List (Int × Int)} (o : WyOk w) (m : w.most ≤ 1000000) (ob : BsOk w.since bs) (s0 : 0 ≤ w.since) (l : bs.length < 64) : Sm 2 400000 (dRows (rowsV w bs)) := by
  refine sm_rows ?_ fun r hr => ?_
  · unfold rowsV
    rw [List.length_map]
    have := hours_len0 (bs := bs)
    omega
  · unfold rowsV at hr
    obtain ⟨h, hh, rfl⟩ := List.mem_map.mp hr
    obtain ⟨b, hb, rfl⟩ := mem_hoursOf.mp hh
    have h1 := ob.lo b hb
    have h2 := ob.hi b hb
    have a0 := aH_lo o (bs := bs) (h := b.1)
    have a1 := aH_hi o (bs := bs) (h := b.1)
    have b0 := bH_lo (w := w) (bs := bs) (h := b.1)
    have b1 := bH_hi o (h := b.1) ob.nn
    refine ⟨Nat.le_refl _, fun x hx => ?_⟩
    simp only [List.mem_cons, List.not_mem_nil, or_false] at hx
    rcases hx with rfl | rfl | rfl <;> exact ⟨_, rfl, by omega⟩
theorem sm_brkV {bs : List (Int × Int)} {s : Int} (ob : BsOk s bs) (s0 : 0 ≤ s) (l : bs.length < 64) : Sm 2 400000 (dRows (brkV bs)) := by
  refine sm_rows ?_ fun r hr => ?_
  · unfold brkV
    rw [List.length_map, (brkOf_perm bs).length_eq]
    omega
  · unfold brkV at hr
    obtain ⟨b, hb, rfl⟩ := List.mem_map.mp hr
    have hb := (brkOf_perm bs).mem_iff.mp hb
    have h1 := ob.lo b hb
    have h2 := ob.hi b hb
    have h3 := ob.c0 b hb
    have h4 := ob.c1 b hb
    refine ⟨by simp, fun x hx => ?_⟩
    simp only [List.mem_cons, List.not_mem_nil, or_false] at hx
    rcases hx with rfl | rfl <;> exact ⟨_, rfl, by omega⟩
theorem ok_rb {w : Wy} {bs : List (Int × Int)} (o : WyOk w) (m : w.most ≤ 1000000) (ob : BsOk w.since bs) (s0 : 0 ≤ w.since) (l : bs.length < 64) : okD (dRB w bs) :=
  Sm.ok (Sm.lst (n := 2) (w := 400000) (m := 2) (sm_cons (sm_rowsV o m ob s0 l) (sm_cons (sm_brkV ob s0 l) sm_nil)) (Nat.le_refl _))
/-- behind all breakings -/
theorem far_eq {w : Wy} (o : WyOk w) {bs : List (Int × Int)} (nn : ∀ b ∈ bs, 0 ≤ b.2) (hi : ∀ b ∈ bs, b.1 < w.since + 60) {h : Int} (h0 : w.since + 60 ≤ h) : grow w (beh w bs 59) (h - w.since - 59) = aH w bs h ∧ grow w (beh w bs 59) (h - w.since - 59) = bH w bs h := by
  have z : ∀ j, w.since + 59 < j → cutSum bs j = 0 := fun j hj => cutSum_zero fun b hb e => by
    have := hi b hb
    omega
  have e : beh w bs 59 = bH w bs (w.since + 59) := (bH_at (i := 59)).symm
  rw [e, show h - w.since - 59 = h - (w.since + 59) by omega]
  exact ⟨(aH_gap o (by omega) (by omega) fun j a _ => z j a).symm, (bH_gap o nn (by omega) (by omega) fun j a _ => z j a).symm⟩
/-- the walk over the rows, up to an hour: where it stands -/
def AtSt (w : Wy) (bs : List (Int × Int)) (h : Int) (i : Nat) (q l : Int) : Prop :=
  (∀ k ∈ (hoursOf bs).take i, k ≠ h) ∧ ((q = w.since ∧ l = w.first ∧ ∀ k ∈ (hoursOf bs).take i, ¬ k < h) ∨ (q ∈ hoursOf bs ∧ q < h ∧ l = bH w bs q ∧ ∀ k ∈ (hoursOf bs).take i, k < h → k ≤ q))
theorem AtSt.zero {w : Wy} {bs : List (Int × Int)} {h : Int} : AtSt w bs h 0 w.since w.first :=
  ⟨fun k m => (nomatch m), .inl ⟨rfl, rfl, fun k m => (nomatch m)⟩⟩
theorem AtSt.step {w : Wy} {bs : List (Int × Int)} {h : Int} {i : Nat} {q l k : Int} (st : AtSt w bs h i q l) (hk : (hoursOf bs)[i]? = some k) (ne : k ≠ h) :
    (k < h → AtSt w bs h (i + 1) k (bH w bs k)) ∧ (¬ k < h → AtSt w bs h (i + 1) q l) := by
  have et : (hoursOf bs).take (i + 1) = (hoursOf bs).take i ++ [k] := by rw [List.take_add_one, hk]; rfl
  have mem : ∀ j, j ∈ (hoursOf bs).take (i + 1) → j ∈ (hoursOf bs).take i ∨ j = k := fun j m => by
    rw [et] at m
    rcases List.mem_append.mp m with m | m
    · exact .inl m
    · exact .inr (List.mem_singleton.mp m)
  have below : ∀ j ∈ (hoursOf bs).take i, j < k := fun j m => by
    obtain ⟨n, hn⟩ := List.getElem?_of_mem m
    have hl := (List.getElem?_eq_some_iff.mp hn).1
    rw [List.length_take] at hl
    rw [List.getElem?_take_of_lt (by omega)] at hn
    exact lt_get (hoursOf_lt bs) hn hk (by omega)
  obtain ⟨nh, st⟩ := st
  have nh2 : ∀ j ∈ (hoursOf bs).take (i + 1), j ≠ h := fun j m => by
    rcases mem j m with m | rfl
    · exact nh j m
    · exact ne
  constructor
  · intro lt
    refine ⟨nh2, .inr ⟨List.mem_of_getElem? hk, lt, rfl, fun j m _ => ?_⟩⟩
    rcases mem j m with m | rfl
    · have := below j m
      omega
    · exact Int.le_refl _
  · intro nl
    refine ⟨nh2, ?_⟩
    rcases st with ⟨e1, e2, e3⟩ | ⟨e1, e2, e3, e4⟩
    · refine .inl ⟨e1, e2, fun j m => ?_⟩
      rcases mem j m with m | rfl
      · exact e3 j m
      · exact nl
    · refine .inr ⟨e1, e2, e3, fun j m lt => ?_⟩
      rcases mem j m with m | rfl
      · exact e4 j m lt
      · exact absurd lt nl
theorem AtSt.fin {w : Wy} (o : WyOk w) {bs : List (Int × Int)} (lo : ∀ b ∈ bs, w.since ≤ b.1) {h : Int} (h0 : w.since ≤ h) {n : Nat} {q l : Int} (hn : (hoursOf bs).length ≤ n) (st : AtSt w bs h n q l) :
    grow w l (h - q) = aH w bs h ∧ grow w l (h - q) = bH w bs h := by
  unfold AtSt at st
  rw [List.take_of_length_le hn] at st
  obtain ⟨nh, st⟩ := st
  have e1 : aH w bs h = bH w bs h := by
    have := aH_lo o (bs := bs) (h := h)
    rw [bH_eq h0, cutSum_no fun m => nh h m rfl]
    omega
  rw [← e1, and_self]
  rcases st with ⟨rfl, rfl, e3⟩ | ⟨m, lt, rfl, e4⟩
  · by_cases e : w.since = h
    · subst e
      rw [Int.sub_self, aH_first]
      have := o.fm
      unfold grow
      rw [Int.mul_zero]
      omega
    · rw [← bH_begin o fun m => e3 _ m (by omega)]
      refine (aH_gap o (Int.le_refl _) (by omega) fun j a b => cutSum_no fun m => e3 j m b).symm
  · obtain ⟨b, hb, e⟩ := mem_hoursOf.mp m
    have hq := lo b hb
    refine (aH_gap o (by omega) lt fun j a b => cutSum_no fun m => ?_).symm
    have := e4 j m b
    omega
/-! ### the text -/
def topS (i : Nat) : Stmt := PySem.Challenge.pw_iceopened_k23_breakings_told.main.body.getD i (.Pass ⟨0, 0, 0, 0⟩)
abbrev s_wall : Stmt := (topS 0)
abbrev N_wall : List Str := ["k"]
theorem sc_wall : FnScope N_wall ["k"] (defScope s_wall) := ⟨rfl, rfl, rfl, by decide +kernel, rfl, by decide +kernel, by decide +kernel⟩
abbrev s_NoName___init__ : Stmt := (inClass (topS 3) 0)
abbrev N_NoName___init__ : List Str := ["self", "found"]
theorem sc_NoName___init__ : FnScope N_NoName___init__ ["self", "found"] (defScope s_NoName___init__) := ⟨rfl, rfl, rfl, by decide +kernel, rfl, by decide +kernel, by decide +kernel⟩
abbrev s_NoNumber___init__ : Stmt := (inClass (topS 4) 0)
abbrev N_NoNumber___init__ : List Str := ["self", "found"]
theorem sc_NoNumber___init__ : FnScope N_NoNumber___init__ ["self", "found"] (defScope s_NoNumber___init__) := ⟨rfl, rfl, rfl, by decide +kernel, rfl, by decide +kernel, by decide +kernel⟩
abbrev s_NoChannel___init__ : Stmt := (inClass (topS 5) 0)
abbrev N_NoChannel___init__ : List Str := ["self", "found"]
theorem sc_NoChannel___init__ : FnScope N_NoChannel___init__ ["self", "found"] (defScope s_NoChannel___init__) := ⟨rfl, rfl, rfl, by decide +kernel, rfl, by decide +kernel, by decide +kernel⟩
abbrev s_NoHour___init__ : Stmt := (inClass (topS 6) 0)
abbrev N_NoHour___init__ : List Str := ["self", "found"]
theorem sc_NoHour___init__ : FnScope N_NoHour___init__ ["self", "found"] (defScope s_NoHour___init__) := ⟨rfl, rfl, rfl, by decide +kernel, rfl, by decide +kernel, by decide +kernel⟩
abbrev s_NoEntry___init__ : Stmt := (inClass (topS 7) 0)
abbrev N_NoEntry___init__ : List Str := ["self", "found"]
theorem sc_NoEntry___init__ : FnScope N_NoEntry___init__ ["self", "found"] (defScope s_NoEntry___init__) := ⟨rfl, rfl, rfl, by decide +kernel, rfl, by decide +kernel, by decide +kernel⟩
abbrev s_Doubled___init__ : Stmt := (inClass (topS 8) 0)
abbrev N_Doubled___init__ : List Str := ["self", "name"]
theorem sc_Doubled___init__ : FnScope N_Doubled___init__ ["self", "name"] (defScope s_Doubled___init__) := ⟨rfl, rfl, rfl, by decide +kernel, rfl, by decide +kernel, by decide +kernel⟩
abbrev s_TooMany___init__ : Stmt := (inClass (topS 9) 0)
abbrev N_TooMany___init__ : List Str := ["self", "many"]
theorem sc_TooMany___init__ : FnScope N_TooMany___init__ ["self", "many"] (defScope s_TooMany___init__) := ⟨rfl, rfl, rfl, by decide +kernel, rfl, by decide +kernel, by decide +kernel⟩
abbrev s_is_whole : Stmt := (topS 13)
abbrev N_is_whole : List Str := ["thing"]
theorem sc_is_whole : FnScope N_is_whole ["thing"] (defScope s_is_whole) := ⟨rfl, rfl, rfl, by decide +kernel, rfl, by decide +kernel, by decide +kernel⟩
abbrev s_is_within : Stmt := (topS 14)
abbrev N_is_within : List Str := ["thing", "low", "high"]
theorem sc_is_within : FnScope N_is_within ["thing", "low", "high"] (defScope s_is_within) := ⟨rfl, rfl, rfl, by decide +kernel, rfl, by decide +kernel, by decide +kernel⟩
abbrev s_is_name : Stmt := (topS 15)
abbrev N_is_name : List Str := ["thing", "sign"]
theorem sc_is_name : FnScope N_is_name ["thing"] (defScope s_is_name) := ⟨rfl, rfl, rfl, by decide +kernel, rfl, by decide +kernel, by decide +kernel⟩
abbrev s_need_names : Stmt := (topS 22)
abbrev N_need_names : List Str := ["things", "thing"]
theorem sc_need_names : FnScope N_need_names ["things"] (defScope s_need_names) := ⟨rfl, rfl, rfl, by decide +kernel, rfl, by decide +kernel, by decide +kernel⟩
abbrev s_need_numbers : Stmt := (topS 23)
abbrev N_need_numbers : List Str := ["rows", "thing", "low", "high"]
theorem sc_need_numbers : FnScope N_need_numbers ["rows"] (defScope s_need_numbers) := ⟨rfl, rfl, rfl, by decide +kernel, rfl, by decide +kernel, by decide +kernel⟩
abbrev s_Channel___init__ : Stmt := (inClass (topS 24) 0)
abbrev N_Channel___init__ : List Str := ["self", "name", "one", "other", "hours", "depth", "first", "growth", "most"]
theorem sc_Channel___init__ : FnScope N_Channel___init__ ["self", "name", "one", "other", "hours", "depth", "first", "growth", "most"] (defScope s_Channel___init__) := ⟨rfl, rfl, rfl, by decide +kernel, rfl, by decide +kernel, by decide +kernel⟩
abbrev s_Ice___init__ : Stmt := (inClass (topS 30) 0)
abbrev N_Ice___init__ : List Str := ["self", "channel", "begin"]
theorem sc_Ice___init__ : FnScope N_Ice___init__ ["self", "channel", "begin"] (defScope s_Ice___init__) := ⟨rfl, rfl, rfl, by decide +kernel, rfl, by decide +kernel, by decide +kernel⟩
abbrev s_Ice_need_hour : Stmt := (inClass (topS 30) 1)
abbrev N_Ice_need_hour : List Str := ["self", "hour"]
theorem sc_Ice_need_hour : FnScope N_Ice_need_hour ["self", "hour"] (defScope s_Ice_need_hour) := ⟨rfl, rfl, rfl, by decide +kernel, rfl, by decide +kernel, by decide +kernel⟩
abbrev s_Ice_need_breaking : Stmt := (inClass (topS 30) 2)
abbrev N_Ice_need_breaking : List Str := ["self", "hour", "cut"]
theorem sc_Ice_need_breaking : FnScope N_Ice_need_breaking ["self", "hour", "cut"] (defScope s_Ice_need_breaking) := ⟨rfl, rfl, rfl, by decide +kernel, rfl, by decide +kernel, by decide +kernel⟩
abbrev s_Ice_break_at : Stmt := (inClass (topS 30) 3)
abbrev N_Ice_break_at : List Str := ["self", "hour", "cut"]
theorem sc_Ice_break_at : FnScope N_Ice_break_at ["self", "hour", "cut"] (defScope s_Ice_break_at) := ⟨rfl, rfl, rfl, by decide +kernel, rfl, by decide +kernel, by decide +kernel⟩
abbrev s_Ice_mend_at : Stmt := (inClass (topS 30) 4)
abbrev N_Ice_mend_at : List Str := ["self", "hour", "cut"]
theorem sc_Ice_mend_at : FnScope N_Ice_mend_at ["self", "hour", "cut"] (defScope s_Ice_mend_at) := ⟨rfl, rfl, rfl, by decide +kernel, rfl, by decide +kernel, by decide +kernel⟩
abbrev s_Ice_breakings : Stmt := (inClass (topS 30) 5)
abbrev N_Ice_breakings : List Str := ["self", "found", "hour", "cut"]
theorem sc_Ice_breakings : FnScope N_Ice_breakings ["self"] (defScope s_Ice_breakings) := ⟨rfl, rfl, rfl, by decide +kernel, rfl, by decide +kernel, by decide +kernel⟩
abbrev s_Ice_grown : Stmt := (inClass (topS 30) 6)
abbrev N_Ice_grown : List Str := ["self", "level", "gap"]
theorem sc_Ice_grown : FnScope N_Ice_grown ["self", "level", "gap"] (defScope s_Ice_grown) := ⟨rfl, rfl, rfl, by decide +kernel, rfl, by decide +kernel, by decide +kernel⟩
abbrev s_Ice_rows : Stmt := (inClass (topS 30) 7)
abbrev N_Ice_rows : List Str := ["self", "found", "at", "level", "hour", "ahead"]
theorem sc_Ice_rows : FnScope N_Ice_rows ["self"] (defScope s_Ice_rows) := ⟨rfl, rfl, rfl, by decide +kernel, rfl, by decide +kernel, by decide +kernel⟩
abbrev s_Ice_bases : Stmt := (inClass (topS 30) 8)
abbrev N_Ice_bases : List Str := ["self", "found", "hour", "ahead", "behind"]
theorem sc_Ice_bases : FnScope N_Ice_bases ["self"] (defScope s_Ice_bases) := ⟨rfl, rfl, rfl, by decide +kernel, rfl, by decide +kernel, by decide +kernel⟩
abbrev s_Ice_thick : Stmt := (inClass (topS 30) 9)
abbrev N_Ice_thick : List Str := ["self", "hour", "start", "level", "base"]
theorem sc_Ice_thick : FnScope N_Ice_thick ["self", "hour"] (defScope s_Ice_thick) := ⟨rfl, rfl, rfl, by decide +kernel, rfl, by decide +kernel, by decide +kernel⟩
abbrev s_Ice_ahead : Stmt := (inClass (topS 30) 10)
abbrev N_Ice_ahead : List Str := ["self", "hour", "start", "level", "base"]
theorem sc_Ice_ahead : FnScope N_Ice_ahead ["self", "hour"] (defScope s_Ice_ahead) := ⟨rfl, rfl, rfl, by decide +kernel, rfl, by decide +kernel, by decide +kernel⟩
abbrev s_law_cell : Stmt := (topS 32)
abbrev N_law_cell : List Str := ["_law_script", "_law_k"]
theorem sc_law_cell : FnScope N_law_cell ["_law_script", "_law_k"] (defScope s_law_cell) := ⟨rfl, rfl, rfl, by decide +kernel, rfl, by decide +kernel, by decide +kernel⟩
abbrev s_law_box : Stmt := (topS 33)
abbrev N_law_box : List Str := ["_law_cell_here"]
theorem sc_law_box : FnScope N_law_box ["_law_cell_here"] (defScope s_law_box) := ⟨rfl, rfl, rfl, by decide +kernel, rfl, by decide +kernel, by decide +kernel⟩
abbrev s_law_take : Stmt := (topS 34)
abbrev N_law_take : List Str := ["_law_box_here", "_law_many", "_law_digit", "_law_number"]
theorem sc_law_take : FnScope N_law_take ["_law_box_here", "_law_many"] (defScope s_law_take) := ⟨rfl, rfl, rfl, by decide +kernel, rfl, by decide +kernel, by decide +kernel⟩
abbrev s_law_numbers : Stmt := (topS 35)
abbrev N_law_numbers : List Str := ["_law_box_here", "_law_most", "_law_first", "_law_growth", "_law_begin"]
theorem sc_law_numbers : FnScope N_law_numbers ["_law_box_here"] (defScope s_law_numbers) := ⟨rfl, rfl, rfl, by decide +kernel, rfl, by decide +kernel, by decide +kernel⟩
abbrev s_law_ice : Stmt := (topS 36)
abbrev N_law_ice : List Str := ["_law_numbers_here", "_law_way"]
theorem sc_law_ice : FnScope N_law_ice ["_law_numbers_here"] (defScope s_law_ice) := ⟨rfl, rfl, rfl, by decide +kernel, rfl, by decide +kernel, by decide +kernel⟩
abbrev s_law_cut : Stmt := (topS 37)
abbrev N_law_cut : List Str := ["_law_box_here", "_law_numbers_here"]
theorem sc_law_cut : FnScope N_law_cut ["_law_box_here", "_law_numbers_here"] (defScope s_law_cut) := ⟨rfl, rfl, rfl, by decide +kernel, rfl, by decide +kernel, by decide +kernel⟩
abbrev s_law_hour : Stmt := (topS 38)
abbrev N_law_hour : List Str := ["_law_box_here", "_law_numbers_here", "_law_begin", "_law_some"]
theorem sc_law_hour : FnScope N_law_hour ["_law_box_here", "_law_numbers_here"] (defScope s_law_hour) := ⟨rfl, rfl, rfl, by decide +kernel, rfl, by decide +kernel, by decide +kernel⟩
abbrev s_law_all : Stmt := (topS 39)
abbrev N_law_all : List Str := ["_law_numbers_here", "_law_found", "_law_hour_here", "_law_cut_here"]
theorem sc_law_all : FnScope N_law_all ["_law_numbers_here"] (defScope s_law_all) := ⟨rfl, rfl, rfl, by decide +kernel, rfl, by decide +kernel, by decide +kernel⟩
abbrev s_law_rows : Stmt := (topS 40)
abbrev N_law_rows : List Str := ["_law_numbers_here", "_law_found", "_law_at_here", "_law_level", "_law_hour_here", "_law_ahead"]
theorem sc_law_rows : FnScope N_law_rows ["_law_numbers_here"] (defScope s_law_rows) := ⟨rfl, rfl, rfl, by decide +kernel, rfl, by decide +kernel, by decide +kernel⟩
abbrev s_law_at : Stmt := (topS 41)
abbrev N_law_at : List Str := ["_law_numbers_here", "_law_hour_here", "_law_at_here", "_law_level", "_law_when", "_law_ahead", "_law_behind", "_law_due"]
theorem sc_law_at : FnScope N_law_at ["_law_numbers_here", "_law_hour_here"] (defScope s_law_at) := ⟨rfl, rfl, rfl, by decide +kernel, rfl, by decide +kernel, by decide +kernel⟩
abbrev s_law_mended : Stmt := (topS 42)
abbrev N_law_mended : List Str := ["_law_ice_here", "_law_hour_here", "_law_cut_here", "e"]
theorem sc_law_mended : FnScope N_law_mended ["_law_ice_here", "_law_hour_here", "_law_cut_here"] (defScope s_law_mended) := ⟨rfl, rfl, rfl, by decide +kernel, rfl, by decide +kernel, by decide +kernel⟩
abbrev s_law_mend : Stmt := (topS 43)
abbrev N_law_mend : List Str := ["_law_box_here", "_law_ice_here", "_law_numbers_here", "_law_some", "_law_hour_here", "_law_cut_here", "_law_way", "_law_level", "_law_due"]
theorem sc_law_mend : FnScope N_law_mend ["_law_box_here", "_law_ice_here", "_law_numbers_here"] (defScope s_law_mend) := ⟨rfl, rfl, rfl, by decide +kernel, rfl, by decide +kernel, by decide +kernel⟩
abbrev s_law_deed : Stmt := (topS 44)
abbrev N_law_deed : List Str := ["_law_box_here", "_law_ice_here", "_law_numbers_here", "_law_hour_here", "_law_cut_here", "_law_some"]
theorem sc_law_deed : FnScope N_law_deed ["_law_box_here", "_law_ice_here", "_law_numbers_here"] (defScope s_law_deed) := ⟨rfl, rfl, rfl, by decide +kernel, rfl, by decide +kernel, by decide +kernel⟩
abbrev s_law_stands : Stmt := (topS 45)
abbrev N_law_stands : List Str := ["_law_ice_here", "_law_numbers_here", "_law_turn", "_law_told", "_law_rows_here"]
theorem sc_law_stands : FnScope N_law_stands ["_law_ice_here", "_law_numbers_here"] (defScope s_law_stands) := ⟨rfl, rfl, rfl, by decide +kernel, rfl, by decide +kernel, by decide +kernel⟩
abbrev s_law : Stmt := (topS 46)
abbrev N_law : List Str := ["_law_script", "_law_box_here", "_law_some", "_law_ices", "_law_k", "_law_at_here", "_law_numbers_here"]
theorem sc_law : FnScope N_law ["_law_script"] (defScope s_law) := ⟨rfl, rfl, rfl, by decide +kernel, rfl, by decide +kernel, by decide +kernel⟩
set_option genInjectivity false in
set_option genSizeOf false in
/-- what the top has written -/
structure Tx (K : PySem.W.Frag) (mg : Str → Option Value) where
  a_IceError : Addr
  g_IceError : mg "IceError" = some (.ref a_IceError)
  a_NoName : Addr
  g_NoName : mg "NoName" = some (.ref a_NoName)
  a_NoNumber : Addr
  g_NoNumber : mg "NoNumber" = some (.ref a_NoNumber)
  a_NoChannel : Addr
  g_NoChannel : mg "NoChannel" = some (.ref a_NoChannel)
  a_NoHour : Addr
  g_NoHour : mg "NoHour" = some (.ref a_NoHour)
  a_NoEntry : Addr
  g_NoEntry : mg "NoEntry" = some (.ref a_NoEntry)
  a_Doubled : Addr
  g_Doubled : mg "Doubled" = some (.ref a_Doubled)
  a_TooMany : Addr
  g_TooMany : mg "TooMany" = some (.ref a_TooMany)
  a_Channel : Addr
  g_Channel : mg "Channel" = some (.ref a_Channel)
  a_Ice : Addr
  g_Ice : mg "Ice" = some (.ref a_Ice)
  a_wall : Addr
  d_wall : FuncData
  F_wall : Fun K "_wall" "_wall" s_wall a_wall d_wall
  g_wall : mg "_wall" = some (.ref a_wall)
  b_wall : Binds K d_wall ["k"] []
  a_NoName___init__ : Addr
  d_NoName___init__ : FuncData
  F_NoName___init__ : Fun K "__init__" "NoName.__init__" s_NoName___init__ a_NoName___init__ d_NoName___init__
  b_NoName___init__ : Binds K d_NoName___init__ ["self", "found"] []
  a_NoNumber___init__ : Addr
  d_NoNumber___init__ : FuncData
  F_NoNumber___init__ : Fun K "__init__" "NoNumber.__init__" s_NoNumber___init__ a_NoNumber___init__ d_NoNumber___init__
  b_NoNumber___init__ : Binds K d_NoNumber___init__ ["self", "found"] []
  a_NoChannel___init__ : Addr
  d_NoChannel___init__ : FuncData
  F_NoChannel___init__ : Fun K "__init__" "NoChannel.__init__" s_NoChannel___init__ a_NoChannel___init__ d_NoChannel___init__
  b_NoChannel___init__ : Binds K d_NoChannel___init__ ["self", "found"] []
  a_NoHour___init__ : Addr
  d_NoHour___init__ : FuncData
  F_NoHour___init__ : Fun K "__init__" "NoHour.__init__" s_NoHour___init__ a_NoHour___init__ d_NoHour___init__
  b_NoHour___init__ : Binds K d_NoHour___init__ ["self", "found"] []
  a_NoEntry___init__ : Addr
  d_NoEntry___init__ : FuncData
  F_NoEntry___init__ : Fun K "__init__" "NoEntry.__init__" s_NoEntry___init__ a_NoEntry___init__ d_NoEntry___init__
  b_NoEntry___init__ : Binds K d_NoEntry___init__ ["self", "found"] []
  a_Doubled___init__ : Addr
  d_Doubled___init__ : FuncData
  F_Doubled___init__ : Fun K "__init__" "Doubled.__init__" s_Doubled___init__ a_Doubled___init__ d_Doubled___init__
  b_Doubled___init__ : Binds K d_Doubled___init__ ["self", "name"] []
  a_TooMany___init__ : Addr
  d_TooMany___init__ : FuncData
  F_TooMany___init__ : Fun K "__init__" "TooMany.__init__" s_TooMany___init__ a_TooMany___init__ d_TooMany___init__
  b_TooMany___init__ : Binds K d_TooMany___init__ ["self", "many"] []
  a_is_whole : Addr
  d_is_whole : FuncData
  F_is_whole : Fun K "is_whole" "is_whole" s_is_whole a_is_whole d_is_whole
  g_is_whole : mg "is_whole" = some (.ref a_is_whole)
  b_is_whole : Binds K d_is_whole ["thing"] []
  a_is_within : Addr
  d_is_within : FuncData
  F_is_within : Fun K "is_within" "is_within" s_is_within a_is_within d_is_within
  g_is_within : mg "is_within" = some (.ref a_is_within)
  b_is_within : Binds K d_is_within ["thing", "low", "high"] []
  a_is_name : Addr
  d_is_name : FuncData
  F_is_name : Fun K "is_name" "is_name" s_is_name a_is_name d_is_name
  g_is_name : mg "is_name" = some (.ref a_is_name)
  b_is_name : Binds K d_is_name ["thing"] []
  a_need_names : Addr
  d_need_names : FuncData
  F_need_names : Fun K "need_names" "need_names" s_need_names a_need_names d_need_names
  g_need_names : mg "need_names" = some (.ref a_need_names)
  b_need_names : Binds K d_need_names ["things"] []
  a_need_numbers : Addr
  d_need_numbers : FuncData
  F_need_numbers : Fun K "need_numbers" "need_numbers" s_need_numbers a_need_numbers d_need_numbers
  g_need_numbers : mg "need_numbers" = some (.ref a_need_numbers)
  b_need_numbers : Binds K d_need_numbers ["rows"] []
  a_Channel___init__ : Addr
  d_Channel___init__ : FuncData
  F_Channel___init__ : Fun K "__init__" "Channel.__init__" s_Channel___init__ a_Channel___init__ d_Channel___init__
  b_Channel___init__ : Binds K d_Channel___init__ ["self", "name", "one", "other", "hours", "depth", "first", "growth", "most"] []
  a_Ice___init__ : Addr
  d_Ice___init__ : FuncData
  F_Ice___init__ : Fun K "__init__" "Ice.__init__" s_Ice___init__ a_Ice___init__ d_Ice___init__
  b_Ice___init__ : Binds K d_Ice___init__ ["self", "channel", "begin"] []
  a_Ice_need_hour : Addr
  d_Ice_need_hour : FuncData
  F_Ice_need_hour : Fun K "need_hour" "Ice.need_hour" s_Ice_need_hour a_Ice_need_hour d_Ice_need_hour
  b_Ice_need_hour : Binds K d_Ice_need_hour ["self", "hour"] []
  a_Ice_need_breaking : Addr
  d_Ice_need_breaking : FuncData
  F_Ice_need_breaking : Fun K "need_breaking" "Ice.need_breaking" s_Ice_need_breaking a_Ice_need_breaking d_Ice_need_breaking
  b_Ice_need_breaking : Binds K d_Ice_need_breaking ["self", "hour", "cut"] []
  a_Ice_break_at : Addr
  d_Ice_break_at : FuncData
  F_Ice_break_at : Fun K "break_at" "Ice.break_at" s_Ice_break_at a_Ice_break_at d_Ice_break_at
  b_Ice_break_at : Binds K d_Ice_break_at ["self", "hour", "cut"] []
  a_Ice_mend_at : Addr
  d_Ice_mend_at : FuncData
  F_Ice_mend_at : Fun K "mend_at" "Ice.mend_at" s_Ice_mend_at a_Ice_mend_at d_Ice_mend_at
  b_Ice_mend_at : Binds K d_Ice_mend_at ["self", "hour", "cut"] []
  a_Ice_breakings : Addr
  d_Ice_breakings : FuncData
  F_Ice_breakings : Fun K "breakings" "Ice.breakings" s_Ice_breakings a_Ice_breakings d_Ice_breakings
  b_Ice_breakings : Binds K d_Ice_breakings ["self"] []
  a_Ice_grown : Addr
  d_Ice_grown : FuncData
  F_Ice_grown : Fun K "grown" "Ice.grown" s_Ice_grown a_Ice_grown d_Ice_grown
  b_Ice_grown : Binds K d_Ice_grown ["self", "level", "gap"] []
  a_Ice_rows : Addr
  d_Ice_rows : FuncData
  F_Ice_rows : Fun K "rows" "Ice.rows" s_Ice_rows a_Ice_rows d_Ice_rows
  b_Ice_rows : Binds K d_Ice_rows ["self"] []
  a_Ice_bases : Addr
  d_Ice_bases : FuncData
  F_Ice_bases : Fun K "bases" "Ice.bases" s_Ice_bases a_Ice_bases d_Ice_bases
  b_Ice_bases : Binds K d_Ice_bases ["self"] []
  a_Ice_thick : Addr
  d_Ice_thick : FuncData
  F_Ice_thick : Fun K "thick" "Ice.thick" s_Ice_thick a_Ice_thick d_Ice_thick
  b_Ice_thick : Binds K d_Ice_thick ["self", "hour"] []
  a_Ice_ahead : Addr
  d_Ice_ahead : FuncData
  F_Ice_ahead : Fun K "ahead" "Ice.ahead" s_Ice_ahead a_Ice_ahead d_Ice_ahead
  b_Ice_ahead : Binds K d_Ice_ahead ["self", "hour"] []
  a_law_cell : Addr
  d_law_cell : FuncData
  F_law_cell : Fun K "_law_cell" "_law_cell" s_law_cell a_law_cell d_law_cell
  g_law_cell : mg "_law_cell" = some (.ref a_law_cell)
  b_law_cell : Binds K d_law_cell ["_law_script", "_law_k"] []
  a_law_box : Addr
  d_law_box : FuncData
  F_law_box : Fun K "_law_box" "_law_box" s_law_box a_law_box d_law_box
  g_law_box : mg "_law_box" = some (.ref a_law_box)
  b_law_box : Binds K d_law_box ["_law_cell_here"] []
  a_law_take : Addr
  d_law_take : FuncData
  F_law_take : Fun K "_law_take" "_law_take" s_law_take a_law_take d_law_take
  g_law_take : mg "_law_take" = some (.ref a_law_take)
  b_law_take : Binds K d_law_take ["_law_box_here", "_law_many"] []
  a_law_numbers : Addr
  d_law_numbers : FuncData
  F_law_numbers : Fun K "_law_numbers" "_law_numbers" s_law_numbers a_law_numbers d_law_numbers
  g_law_numbers : mg "_law_numbers" = some (.ref a_law_numbers)
  b_law_numbers : Binds K d_law_numbers ["_law_box_here"] []
  a_law_ice : Addr
  d_law_ice : FuncData
  F_law_ice : Fun K "_law_ice" "_law_ice" s_law_ice a_law_ice d_law_ice
  g_law_ice : mg "_law_ice" = some (.ref a_law_ice)
  b_law_ice : Binds K d_law_ice ["_law_numbers_here"] []
  a_law_cut : Addr
  d_law_cut : FuncData
  F_law_cut : Fun K "_law_cut" "_law_cut" s_law_cut a_law_cut d_law_cut
  g_law_cut : mg "_law_cut" = some (.ref a_law_cut)
  b_law_cut : Binds K d_law_cut ["_law_box_here", "_law_numbers_here"] []
  a_law_hour : Addr
  d_law_hour : FuncData
  F_law_hour : Fun K "_law_hour" "_law_hour" s_law_hour a_law_hour d_law_hour
  g_law_hour : mg "_law_hour" = some (.ref a_law_hour)
  b_law_hour : Binds K d_law_hour ["_law_box_here", "_law_numbers_here"] []
  a_law_all : Addr
  d_law_all : FuncData
  F_law_all : Fun K "_law_all" "_law_all" s_law_all a_law_all d_law_all
  g_law_all : mg "_law_all" = some (.ref a_law_all)
  b_law_all : Binds K d_law_all ["_law_numbers_here"] []
  a_law_rows : Addr
  d_law_rows : FuncData
  F_law_rows : Fun K "_law_rows" "_law_rows" s_law_rows a_law_rows d_law_rows
  g_law_rows : mg "_law_rows" = some (.ref a_law_rows)
  b_law_rows : Binds K d_law_rows ["_law_numbers_here"] []
  a_law_at : Addr
  d_law_at : FuncData
  F_law_at : Fun K "_law_at" "_law_at" s_law_at a_law_at d_law_at
  g_law_at : mg "_law_at" = some (.ref a_law_at)
  b_law_at : Binds K d_law_at ["_law_numbers_here", "_law_hour_here"] []
  a_law_mended : Addr
  d_law_mended : FuncData
  F_law_mended : Fun K "_law_mended" "_law_mended" s_law_mended a_law_mended d_law_mended
  g_law_mended : mg "_law_mended" = some (.ref a_law_mended)
  b_law_mended : Binds K d_law_mended ["_law_ice_here", "_law_hour_here", "_law_cut_here"] []
  a_law_mend : Addr
  d_law_mend : FuncData
  F_law_mend : Fun K "_law_mend" "_law_mend" s_law_mend a_law_mend d_law_mend
  g_law_mend : mg "_law_mend" = some (.ref a_law_mend)
  b_law_mend : Binds K d_law_mend ["_law_box_here", "_law_ice_here", "_law_numbers_here"] []
  a_law_deed : Addr
  d_law_deed : FuncData
  F_law_deed : Fun K "_law_deed" "_law_deed" s_law_deed a_law_deed d_law_deed
  g_law_deed : mg "_law_deed" = some (.ref a_law_deed)
  b_law_deed : Binds K d_law_deed ["_law_box_here", "_law_ice_here", "_law_numbers_here"] []
  a_law_stands : Addr
  d_law_stands : FuncData
  F_law_stands : Fun K "_law_stands" "_law_stands" s_law_stands a_law_stands d_law_stands
  g_law_stands : mg "_law_stands" = some (.ref a_law_stands)
  b_law_stands : Binds K d_law_stands ["_law_ice_here", "_law_numbers_here"] []
  a_law : Addr
  d_law : FuncData
  F_law : Fun K "law" "law" s_law a_law d_law
  g_law : mg "law" = some (.ref a_law)
  b_law : Binds K d_law ["_law_script"] []
  cl_Channel : Cls K a_Channel
  n_Channel_name : NoAttr K a_Channel "name"
  n_Channel_one : NoAttr K a_Channel "one"
  n_Channel_other : NoAttr K a_Channel "other"
  n_Channel_hours : NoAttr K a_Channel "hours"
  n_Channel_depth : NoAttr K a_Channel "depth"
  n_Channel_first : NoAttr K a_Channel "first"
  n_Channel_growth : NoAttr K a_Channel "growth"
  n_Channel_most : NoAttr K a_Channel "most"
  cl_Ice : Cls K a_Ice
  n_Ice_way : NoAttr K a_Ice "way"
  n_Ice_since : NoAttr K a_Ice "since"
  n_Ice_cuts : NoAttr K a_Ice "cuts"
  hn_class : PySem.W.specialIn K (.builtin "object.__class__") "__get__" = some (some (.builtin "getset_descriptor.__get__"))
  ht_class : PySem.W.takesIn K (.builtin "object.__class__") = some true
  ic_Channel : PySem.W.findIn K (.ref a_Channel) "__class__" = some (some (.builtin "object.__class__"))
  im_Channel : PySem.W.mroIn K a_Channel (.type "object") = some true
  ki_Channel_Channel : PySem.W.kitOne K (.ref a_Channel) (.ref a_Channel) = some true
  ic_Ice : PySem.W.findIn K (.ref a_Ice) "__class__" = some (some (.builtin "object.__class__"))
  im_Ice : PySem.W.mroIn K a_Ice (.type "object") = some true
  ki_Ice_Channel : PySem.W.kitOne K (.ref a_Ice) (.ref a_Channel) = some false
  mk_Channel : Mk K a_Channel a_Channel___init__
  mk_Ice : Mk K a_Ice a_Ice___init__
  me_Ice_ahead : Meth K a_Ice "ahead" a_Ice_ahead
  me_Ice_bases : Meth K a_Ice "bases" a_Ice_bases
  me_Ice_break_at : Meth K a_Ice "break_at" a_Ice_break_at
  me_Ice_breakings : Meth K a_Ice "breakings" a_Ice_breakings
  me_Ice_grown : Meth K a_Ice "grown" a_Ice_grown
  me_Ice_mend_at : Meth K a_Ice "mend_at" a_Ice_mend_at
  me_Ice_need_breaking : Meth K a_Ice "need_breaking" a_Ice_need_breaking
  me_Ice_need_hour : Meth K a_Ice "need_hour" a_Ice_need_hour
  me_Ice_rows : Meth K a_Ice "rows" a_Ice_rows
  me_Ice_thick : Meth K a_Ice "thick" a_Ice_thick
  rd_IceError : PySem.W.readsIn K a_IceError (.type "type") = true
  ga_IceError : PySem.W.specialIn K (.ref a_IceError) "__getattribute__" = some (some (.builtin "type.__getattribute__"))
  vi_IceError : PySem.W.findCls K (.ref a_IceError) (.type "type") "__init__" = some (.val (.builtin "ValueError.__init__"))
  ox_NoName : OexC K a_NoName
  ix_NoName : PySem.W.findIn K (.ref a_NoName) "__init__" = some (some (.ref a_NoName___init__))
  tx_NoName : PySem.W.typeIn K (.ref a_NoName___init__) = some (.type "function")
  xf_NoName : XfC K a_NoName
  n_NoName_found : PySem.W.findIn K (.ref a_NoName) "found" = some none
  ox_NoNumber : OexC K a_NoNumber
  ix_NoNumber : PySem.W.findIn K (.ref a_NoNumber) "__init__" = some (some (.ref a_NoNumber___init__))
  tx_NoNumber : PySem.W.typeIn K (.ref a_NoNumber___init__) = some (.type "function")
  xf_NoNumber : XfC K a_NoNumber
  n_NoNumber_found : PySem.W.findIn K (.ref a_NoNumber) "found" = some none
  ox_NoChannel : OexC K a_NoChannel
  ix_NoChannel : PySem.W.findIn K (.ref a_NoChannel) "__init__" = some (some (.ref a_NoChannel___init__))
  tx_NoChannel : PySem.W.typeIn K (.ref a_NoChannel___init__) = some (.type "function")
  xf_NoChannel : XfC K a_NoChannel
  n_NoChannel_found : PySem.W.findIn K (.ref a_NoChannel) "found" = some none
  ox_NoHour : OexC K a_NoHour
  ix_NoHour : PySem.W.findIn K (.ref a_NoHour) "__init__" = some (some (.ref a_NoHour___init__))
  tx_NoHour : PySem.W.typeIn K (.ref a_NoHour___init__) = some (.type "function")
  xf_NoHour : XfC K a_NoHour
  n_NoHour_found : PySem.W.findIn K (.ref a_NoHour) "found" = some none
  ox_NoEntry : OexC K a_NoEntry
  ix_NoEntry : PySem.W.findIn K (.ref a_NoEntry) "__init__" = some (some (.ref a_NoEntry___init__))
  tx_NoEntry : PySem.W.typeIn K (.ref a_NoEntry___init__) = some (.type "function")
  xf_NoEntry : XfC K a_NoEntry
  n_NoEntry_found : PySem.W.findIn K (.ref a_NoEntry) "found" = some none
  ox_Doubled : OexC K a_Doubled
  ix_Doubled : PySem.W.findIn K (.ref a_Doubled) "__init__" = some (some (.ref a_Doubled___init__))
  tx_Doubled : PySem.W.typeIn K (.ref a_Doubled___init__) = some (.type "function")
  xf_Doubled : XfC K a_Doubled
  n_Doubled_name : PySem.W.findIn K (.ref a_Doubled) "name" = some none
  ox_TooMany : OexC K a_TooMany
  ix_TooMany : PySem.W.findIn K (.ref a_TooMany) "__init__" = some (some (.ref a_TooMany___init__))
  tx_TooMany : PySem.W.typeIn K (.ref a_TooMany___init__) = some (.type "function")
  xf_TooMany : XfC K a_TooMany
  n_TooMany_many : PySem.W.findIn K (.ref a_TooMany) "many" = some none
  te_NoName_IceError : PySem.W.exmOne K (.ref a_NoName) (.ref a_IceError) = some true
  te_NoNumber_IceError : PySem.W.exmOne K (.ref a_NoNumber) (.ref a_IceError) = some true
  te_NoChannel_IceError : PySem.W.exmOne K (.ref a_NoChannel) (.ref a_IceError) = some true
  te_NoHour_IceError : PySem.W.exmOne K (.ref a_NoHour) (.ref a_IceError) = some true
  te_NoEntry_IceError : PySem.W.exmOne K (.ref a_NoEntry) (.ref a_IceError) = some true
  te_Doubled_IceError : PySem.W.exmOne K (.ref a_Doubled) (.ref a_IceError) = some true
  te_TooMany_IceError : PySem.W.exmOne K (.ref a_TooMany) (.ref a_IceError) = some true
  te_NoName_NoEntry : PySem.W.exmOne K (.ref a_NoName) (.ref a_NoEntry) = some false
  te_NoNumber_NoEntry : PySem.W.exmOne K (.ref a_NoNumber) (.ref a_NoEntry) = some false
  te_NoChannel_NoEntry : PySem.W.exmOne K (.ref a_NoChannel) (.ref a_NoEntry) = some false
  te_NoHour_NoEntry : PySem.W.exmOne K (.ref a_NoHour) (.ref a_NoEntry) = some false
  te_NoEntry_NoEntry : PySem.W.exmOne K (.ref a_NoEntry) (.ref a_NoEntry) = some true
  te_Doubled_NoEntry : PySem.W.exmOne K (.ref a_Doubled) (.ref a_NoEntry) = some false
  te_TooMany_NoEntry : PySem.W.exmOne K (.ref a_TooMany) (.ref a_NoEntry) = some false
  m_all : mg "all" = none
  m_bool : mg "bool" = none
  m_int : mg "int" = none
  m_isinstance : mg "isinstance" = none
  m_len : mg "len" = none
  m_max : mg "max" = none
  m_min : mg "min" = none
  m_range : mg "range" = none
  m_repr : mg "repr" = none
  m_sorted : mg "sorted" = none
  m_str : mg "str" = none
  m_sum : mg "sum" = none
  c_LETTERS : ∃ u, mg "LETTERS" = some u ∧ RelV (.str "abcdefghijklmnopqrstuvwxyz") u
  c_LONGEST_NAME : ∃ u, mg "LONGEST_NAME" = some u ∧ RelV (.int 8) u
  c_MOST_HOUR : ∃ u, mg "MOST_HOUR" = some u ∧ RelV (.int 1000000) u
  c_MOST_ICE : ∃ u, mg "MOST_ICE" = some u ∧ RelV (.int 1000000) u
  c_MOST_DEPTH : ∃ u, mg "MOST_DEPTH" = some u ∧ RelV (.int 1000) u
  c_MOST_LENGTH : ∃ u, mg "MOST_LENGTH" = some u ∧ RelV (.int 1000) u
  c_MOST_GROWTH : ∃ u, mg "MOST_GROWTH" = some u ∧ RelV (.int 1000) u
  c_LAST_HOUR : ∃ u, mg "LAST_HOUR" = some u ∧ RelV (.int 1000000000) u
  c_LAST_BREAKING : ∃ u, mg "LAST_BREAKING" = some u ∧ RelV (.int 100000000) u
  c_MOST_CUT : ∃ u, mg "MOST_CUT" = some u ∧ RelV (.int 1000000) u
  c_MOST_BREAKINGS : ∃ u, mg "MOST_BREAKINGS" = some u ∧ RelV (.int 200) u
local macro_rules | `(tactic| walk_at "cls") => `(tactic| first | exact My.Tx.cl_Channel (by assumption) | exact My.Tx.cl_Ice (by assumption))
local macro_rules | `(tactic| walk_at "noattr") => `(tactic| first | exact My.Tx.n_Channel_name (by assumption) | exact My.Tx.n_Channel_one (by assumption) | exact My.Tx.n_Channel_other (by assumption) | exact My.Tx.n_Channel_hours (by assumption) | exact My.Tx.n_Channel_depth (by assumption) | exact My.Tx.n_Channel_first (by assumption) | exact My.Tx.n_Channel_growth (by assumption) | exact My.Tx.n_Channel_most (by assumption) | exact My.Tx.n_Ice_way (by assumption) | exact My.Tx.n_Ice_since (by assumption) | exact My.Tx.n_Ice_cuts (by assumption))
section
variable {P : Program} {w : World} {K : PySem.W.Frag} {mg : Str → Option Value} {base : Heap}
def ChanAt (T : Tx K mg) (H : Hp) (a : Addr) (c : Ch) : Prop := ∃ dx, H a = some (.ins T.a_Channel dx (chF c))

/-- an Ice: its channel, its begin, its table -/
def IceI (T : Tx K mg) (H : Hp) (a : Addr) (c : Ch) (ch : Addr) (since : Int) (d : Addr) : Prop := (∃ dx, H a = some (.ins T.a_Ice dx (icF ch since d))) ∧ ChanAt T H ch c
def IceAt (T : Tx K mg) (H : Hp) (a : Addr) (c : Ch) (since : Int) (bs : List (Int × Int)) (S : List Addr) : Prop :=
  ∃ ch d L, IceI T H a c ch since d ∧ CutsAt H d L ∧ bs.Perm (flat L) ∧ S = fpC d L ∧ chOk c ∧ 0 ≤ since ∧ since ≤ 1000000 ∧ BsOk since bs
theorem IceI.keep {T : Tx K mg} {H H' : Hp} {a : Addr} {c : Ch} {ch : Addr} {since : Int} {d : Addr} (h : IceI T H a c ch since d) (s : Same H H') : IceI T H' a c ch since d := by
  obtain ⟨⟨dx, h1⟩, dy, h2⟩ := h
  exact ⟨⟨dx, s _ _ h1⟩, dy, s _ _ h2⟩
theorem IceI.keepS {T : Tx K mg} {H H' : Hp} {a : Addr} {c : Ch} {ch : Addr} {since : Int} {d : Addr} {S : List Addr} (h : IceI T H a c ch since d) (s : KeepS S H H') : IceI T H' a c ch since d := by
  obtain ⟨⟨dx, h1⟩, dy, h2⟩ := h
  exact ⟨⟨dx, s _ _ h1 (.inl rfl)⟩, dy, s _ _ h2 (.inl rfl)⟩
theorem IceAt.keep {T : Tx K mg} {H H' : Hp} {a : Addr} {c : Ch} {since : Int} {bs : List (Int × Int)} {S : List Addr} (s : Same H H') (h : IceAt T H a c since bs S) : IceAt T H' a c since bs S := by
  obtain ⟨ch, d, L, h1, h2, r⟩ := h
  exact ⟨ch, d, L, h1.keep s, h2.keep s, r⟩
theorem IceAt.keepS {T : Tx K mg} {H H' : Hp} {a : Addr} {c : Ch} {since : Int} {bs : List (Int × Int)} {S S2 : List Addr} (s : KeepS S2 H H') (n : ∀ x ∈ S, x ∉ S2) (h : IceAt T H a c since bs S) : IceAt T H' a c since bs S := by
  obtain ⟨ch, d, L, h1, h2, h3, rfl, r⟩ := h
  exact ⟨ch, d, L, h1.keepS s, h2.keepS s n, h3, rfl, r⟩
theorem IceAt.there {T : Tx K mg} {H : Hp} {a : Addr} {c : Ch} {since : Int} {bs : List (Int × Int)} {S : List Addr} (h : IceAt T H a c since bs S) {x : Addr} (m : x ∈ S) : ∃ o, H x = some o ∧ imm o = false := by
  obtain ⟨ch, d, L, h1, h2, h3, rfl, r⟩ := h
  exact fp_there h2 m
/-- an Ice, and the law's numbers of it -/
def Pr (T : Tx K mg) (H : Hp) (a n : Addr) (f g m s : Int) (bs : List (Int × Int)) (S : List Addr) : Prop :=
  ∃ Si Sn, IceAt T H a (wayCh f g m) s bs Si ∧ NumAt H n f g m s bs Sn ∧ S = Si ++ Sn ∧ (∀ x ∈ Si, x ∉ Sn) ∧ NumOk f g m s
theorem Pr.keep {T : Tx K mg} {H H' : Hp} {a n : Addr} {f g m s : Int} {bs : List (Int × Int)} {S : List Addr} (k : Same H H') (h : Pr T H a n f g m s bs S) : Pr T H' a n f g m s bs S := by
  obtain ⟨Si, Sn, h1, h2, r⟩ := h
  exact ⟨Si, Sn, h1.keep k, h2.keep k, r⟩
theorem Pr.keepS {T : Tx K mg} {H H' : Hp} {a n : Addr} {f g m s : Int} {bs : List (Int × Int)} {S S2 : List Addr} (k : KeepS S2 H H') (nS : ∀ x ∈ S, x ∉ S2) (h : Pr T H a n f g m s bs S) : Pr T H' a n f g m s bs S := by
  obtain ⟨Si, Sn, h1, h2, rfl, r⟩ := h
  exact ⟨Si, Sn, h1.keepS k fun x hx => nS x (List.mem_append_left _ hx), h2.keepS k fun x hx => nS x (List.mem_append_right _ hx), rfl, r⟩
theorem Pr.there {T : Tx K mg} {H : Hp} {a n : Addr} {f g m s : Int} {bs : List (Int × Int)} {S : List Addr} (h : Pr T H a n f g m s bs S) {x : Addr} (mx : x ∈ S) : ∃ o, H x = some o ∧ imm o = false := by
  obtain ⟨Si, Sn, h1, h2, rfl, r⟩ := h
  rcases List.mem_append.mp mx with mx | mx
  · exact h1.there mx
  · exact h2.there mx
/-- such a pair, all in one -/
structure PrS where
  a : Addr
  n : Addr
  f : Int
  g : Int
  m : Int
  s : Int
  bs : List (Int × Int)
  S : List Addr
def PrO (T : Tx K mg) (H : Hp) (x : PrS) : Prop := Pr T H x.a x.n x.f x.g x.m x.s x.bs x.S ∧ ∀ b ∈ x.bs, b.1 < x.s + 60
/-- two of them, apart, and the lists in which they stand -/
structure St2 (T : Tx K mg) (H : Hp) (p r li : Addr) (x y : PrS) : Prop where
  ox : PrO T H x
  oy : PrO T H y
  xy : ∀ z ∈ x.S, z ∉ y.S
  px : p ∉ x.S
  py : p ∉ y.S
  rx : r ∉ x.S
  ry : r ∉ y.S
  lx : li ∉ x.S
  ly : li ∉ y.S
  hr : H r = some (.lst [.ref x.n, .ref y.n])
  hl : H li = some (.lst [.ref x.a, .ref y.a])
  rp : r ≠ p
  lp : li ≠ p
theorem St2.keep {T : Tx K mg} {H H' : Hp} {p r li : Addr} {x y : PrS} (k : Same H H') (h : St2 T H p r li x y) : St2 T H' p r li x y :=
  ⟨⟨h.ox.1.keep k, h.ox.2⟩, ⟨h.oy.1.keep k, h.oy.2⟩, h.xy, h.px, h.py, h.rx, h.ry, h.lx, h.ly, k _ _ h.hr, k _ _ h.hl, h.rp, h.lp⟩
theorem St2.kb {T : Tx K mg} {H H' : Hp} {p r li : Addr} {x y : PrS} {n : Nat} (hB : BoxAt H p n) (k : KeepB p H H') (h : St2 T H p r li x y) : St2 T H' p r li x y :=
  ⟨⟨h.ox.1.keepS (ks_kb hB k) (not_p h.px), h.ox.2⟩, ⟨h.oy.1.keepS (ks_kb hB k) (not_p h.py), h.oy.2⟩, h.xy, h.px, h.py, h.rx, h.ry, h.lx, h.ly, k _ _ h.hr h.rp, k _ _ h.hl h.lp, h.rp, h.lp⟩
theorem St2.left {T : Tx K mg} {H H' : Hp} {p r li : Addr} {x y x' : PrS} (h : St2 T H p r li x y) (k : KeepS (p :: x.S) H H') (o : PrO T H' x') (sub : ∀ z ∈ x'.S, z ∈ x.S ∨ H z = none) (ea : x'.a = x.a) (en : x'.n = x.n) {n : Nat} (hB : BoxAt H p n) : St2 T H' p r li x' y := by
  have nm : ∀ {b : Addr}, b ≠ p → b ∉ x.S → b ∉ p :: x.S := fun h1 h2 m => (List.mem_cons.mp m).elim h1 h2
  obtain ⟨_, _, _, hp, _⟩ := hB
  refine ⟨o, ⟨h.oy.1.keepS k fun z hz m => ?_, h.oy.2⟩, fun z hz => ?_, out_new sub hp h.px, h.py, out_new sub h.hr h.rx, h.ry, out_new sub h.hl h.lx, h.ly, ?_, ?_, h.rp, h.lp⟩
  · rcases List.mem_cons.mp m with rfl | m
    · exact h.py hz
    · exact h.xy z m hz
  · intro my
    obtain ⟨o2, e, _⟩ := h.oy.1.there my
    exact out_new sub e (fun m => h.xy z m my) hz
  · rw [en]
    exact k _ _ h.hr (.inr (nm h.rp h.rx))
  · rw [ea]
    exact k _ _ h.hl (.inr (nm h.lp h.lx))
theorem St2.right {T : Tx K mg} {H H' : Hp} {p r li : Addr} {x y y' : PrS} (h : St2 T H p r li x y) (k : KeepS (p :: y.S) H H') (o : PrO T H' y') (sub : ∀ z ∈ y'.S, z ∈ y.S ∨ H z = none) (ea : y'.a = y.a) (en : y'.n = y.n) {n : Nat} (hB : BoxAt H p n) : St2 T H' p r li x y' := by
  have nm : ∀ {b : Addr}, b ≠ p → b ∉ y.S → b ∉ p :: y.S := fun h1 h2 m => (List.mem_cons.mp m).elim h1 h2
  obtain ⟨_, _, _, hp, _⟩ := hB
  refine ⟨⟨h.ox.1.keepS k fun z hz m => ?_, h.ox.2⟩, o, fun z hz => ?_, h.px, out_new sub hp h.py, h.rx, out_new sub h.hr h.ry, h.lx, out_new sub h.hl h.ly, ?_, ?_, h.rp, h.lp⟩
  · rcases List.mem_cons.mp m with rfl | m
    · exact h.px hz
    · exact h.xy z hz m
  · obtain ⟨o2, e, _⟩ := h.ox.1.there hz
    exact out_new sub e (h.xy z hz)
  · rw [en]
    exact k _ _ h.hr (.inr (nm h.rp h.ry))
  · rw [ea]
    exact k _ _ h.hl (.inr (nm h.lp h.ly))
/-- .. all of it new since Hb -/
structure Iv (T : Tx K mg) (Hb H : Hp) (p r li : Addr) (x y : PrS) : Prop where
  st : St2 T H p r li x y
  sm : Same Hb H
  fp : Hb p = none
  fx : ∀ z ∈ x.S, Hb z = none
  fy : ∀ z ∈ y.S, Hb z = none
theorem same_ks {S : List Addr} {Hb H1 H2 : Hp} (s : Same Hb H1) (k : KeepS S H1 H2) (f : ∀ z ∈ S, Hb z = none) : Same Hb H2 := fun b o e => k b o (s b o e) (.inr fun m => by
  rw [f b m] at e
  cases e)
theorem Iv.kb {T : Tx K mg} {Hb H H' : Hp} {p r li : Addr} {x y : PrS} {n : Nat} (hB : BoxAt H p n) (k : KeepB p H H') (h : Iv T Hb H p r li x y) : Iv T Hb H' p r li x y :=
  ⟨h.st.kb hB k, KeepB.same k h.sm h.fp, h.fp, h.fx, h.fy⟩
theorem Iv.keep {T : Tx K mg} {Hb H H' : Hp} {p r li : Addr} {x y : PrS} (k : Same H H') (h : Iv T Hb H p r li x y) : Iv T Hb H' p r li x y :=
  ⟨h.st.keep k, h.sm.trans k, h.fp, h.fx, h.fy⟩
theorem Iv.left {T : Tx K mg} {Hb H H' : Hp} {p r li : Addr} {x y x' : PrS} (h : Iv T Hb H p r li x y) (k : KeepS (p :: x.S) H H') (o : PrO T H' x') (sub : ∀ z ∈ x'.S, z ∈ x.S ∨ H z = none) (ea : x'.a = x.a) (en : x'.n = x.n) {n : Nat} (hB : BoxAt H p n) : Iv T Hb H' p r li x' y :=
  ⟨h.st.left k o sub ea en hB, same_ks h.sm k fun z hz => (List.mem_cons.mp hz).elim (fun e => e ▸ h.fp) (h.fx z), h.fp, fun z hz => (sub z hz).elim (h.fx z) (none_of h.sm), h.fy⟩
theorem Iv.right {T : Tx K mg} {Hb H H' : Hp} {p r li : Addr} {x y y' : PrS} (h : Iv T Hb H p r li x y) (k : KeepS (p :: y.S) H H') (o : PrO T H' y') (sub : ∀ z ∈ y'.S, z ∈ y.S ∨ H z = none) (ea : y'.a = y.a) (en : y'.n = y.n) {n : Nat} (hB : BoxAt H p n) : Iv T Hb H' p r li x y' :=
  ⟨h.st.right k o sub ea en hB, same_ks h.sm k fun z hz => (List.mem_cons.mp hz).elim (fun e => e ▸ h.fp) (h.fy z), h.fp, h.fx, fun z hz => (sub z hz).elim (h.fy z) (none_of h.sm)⟩
def PrF (T : Tx K mg) (H : Hp) (x : PrS) : Prop := Pr T H x.a x.n x.f x.g x.m x.s x.bs x.S ∧ True
/-- two of them, apart, and the lists in which they stand -/
structure St3 (T : Tx K mg) (H : Hp) (p r li : Addr) (x y : PrS) : Prop where
  ox : PrF T H x
  oy : PrF T H y
  xy : ∀ z ∈ x.S, z ∉ y.S
  px : p ∉ x.S
  py : p ∉ y.S
  rx : r ∉ x.S
  ry : r ∉ y.S
  lx : li ∉ x.S
  ly : li ∉ y.S
  hr : H r = some (.lst [.ref x.n, .ref y.n])
  hl : H li = some (.lst [.ref x.a, .ref y.a])
  rp : r ≠ p
  lp : li ≠ p
theorem St3.keep {T : Tx K mg} {H H' : Hp} {p r li : Addr} {x y : PrS} (k : Same H H') (h : St3 T H p r li x y) : St3 T H' p r li x y :=
  ⟨⟨h.ox.1.keep k, h.ox.2⟩, ⟨h.oy.1.keep k, h.oy.2⟩, h.xy, h.px, h.py, h.rx, h.ry, h.lx, h.ly, k _ _ h.hr, k _ _ h.hl, h.rp, h.lp⟩
theorem St3.kb {T : Tx K mg} {H H' : Hp} {p r li : Addr} {x y : PrS} {n : Nat} (hB : BoxAt H p n) (k : KeepB p H H') (h : St3 T H p r li x y) : St3 T H' p r li x y :=
  ⟨⟨h.ox.1.keepS (ks_kb hB k) (not_p h.px), h.ox.2⟩, ⟨h.oy.1.keepS (ks_kb hB k) (not_p h.py), h.oy.2⟩, h.xy, h.px, h.py, h.rx, h.ry, h.lx, h.ly, k _ _ h.hr h.rp, k _ _ h.hl h.lp, h.rp, h.lp⟩
theorem St3.left {T : Tx K mg} {H H' : Hp} {p r li : Addr} {x y x' : PrS} (h : St3 T H p r li x y) (k : KeepS (p :: x.S) H H') (o : PrF T H' x') (sub : ∀ z ∈ x'.S, z ∈ x.S ∨ H z = none) (ea : x'.a = x.a) (en : x'.n = x.n) {n : Nat} (hB : BoxAt H p n) : St3 T H' p r li x' y := by
  have nm : ∀ {b : Addr}, b ≠ p → b ∉ x.S → b ∉ p :: x.S := fun h1 h2 m => (List.mem_cons.mp m).elim h1 h2
  obtain ⟨_, _, _, hp, _⟩ := hB
  refine ⟨o, ⟨h.oy.1.keepS k fun z hz m => ?_, h.oy.2⟩, fun z hz => ?_, out_new sub hp h.px, h.py, out_new sub h.hr h.rx, h.ry, out_new sub h.hl h.lx, h.ly, ?_, ?_, h.rp, h.lp⟩
  · rcases List.mem_cons.mp m with rfl | m
    · exact h.py hz
    · exact h.xy z m hz
  · intro my
    obtain ⟨o2, e, _⟩ := h.oy.1.there my
    exact out_new sub e (fun m => h.xy z m my) hz
  · rw [en]
    exact k _ _ h.hr (.inr (nm h.rp h.rx))
  · rw [ea]
    exact k _ _ h.hl (.inr (nm h.lp h.lx))
theorem St3.right {T : Tx K mg} {H H' : Hp} {p r li : Addr} {x y y' : PrS} (h : St3 T H p r li x y) (k : KeepS (p :: y.S) H H') (o : PrF T H' y') (sub : ∀ z ∈ y'.S, z ∈ y.S ∨ H z = none) (ea : y'.a = y.a) (en : y'.n = y.n) {n : Nat} (hB : BoxAt H p n) : St3 T H' p r li x y' := by
  have nm : ∀ {b : Addr}, b ≠ p → b ∉ y.S → b ∉ p :: y.S := fun h1 h2 m => (List.mem_cons.mp m).elim h1 h2
  obtain ⟨_, _, _, hp, _⟩ := hB
  refine ⟨⟨h.ox.1.keepS k fun z hz m => ?_, h.ox.2⟩, o, fun z hz => ?_, h.px, out_new sub hp h.py, h.rx, out_new sub h.hr h.ry, h.lx, out_new sub h.hl h.ly, ?_, ?_, h.rp, h.lp⟩
  · rcases List.mem_cons.mp m with rfl | m
    · exact h.px hz
    · exact h.xy z hz m
  · obtain ⟨o2, e, _⟩ := h.ox.1.there hz
    exact out_new sub e (h.xy z hz)
  · rw [en]
    exact k _ _ h.hr (.inr (nm h.rp h.ry))
  · rw [ea]
    exact k _ _ h.hl (.inr (nm h.lp h.ly))
/-- .. all of it new since Hb -/
structure Iv3 (T : Tx K mg) (Hb H : Hp) (p r li : Addr) (x y : PrS) : Prop where
  st : St3 T H p r li x y
  sm : Same Hb H
  fp : Hb p = none
  fx : ∀ z ∈ x.S, Hb z = none
  fy : ∀ z ∈ y.S, Hb z = none
theorem Iv3.kb {T : Tx K mg} {Hb H H' : Hp} {p r li : Addr} {x y : PrS} {n : Nat} (hB : BoxAt H p n) (k : KeepB p H H') (h : Iv3 T Hb H p r li x y) : Iv3 T Hb H' p r li x y :=
  ⟨h.st.kb hB k, KeepB.same k h.sm h.fp, h.fp, h.fx, h.fy⟩
theorem Iv3.keep {T : Tx K mg} {Hb H H' : Hp} {p r li : Addr} {x y : PrS} (k : Same H H') (h : Iv3 T Hb H p r li x y) : Iv3 T Hb H' p r li x y :=
  ⟨h.st.keep k, h.sm.trans k, h.fp, h.fx, h.fy⟩
theorem Iv3.left {T : Tx K mg} {Hb H H' : Hp} {p r li : Addr} {x y x' : PrS} (h : Iv3 T Hb H p r li x y) (k : KeepS (p :: x.S) H H') (o : PrF T H' x') (sub : ∀ z ∈ x'.S, z ∈ x.S ∨ H z = none) (ea : x'.a = x.a) (en : x'.n = x.n) {n : Nat} (hB : BoxAt H p n) : Iv3 T Hb H' p r li x' y :=
  ⟨h.st.left k o sub ea en hB, same_ks h.sm k fun z hz => (List.mem_cons.mp hz).elim (fun e => e ▸ h.fp) (h.fx z), h.fp, fun z hz => (sub z hz).elim (h.fx z) (none_of h.sm), h.fy⟩
theorem Iv3.right {T : Tx K mg} {Hb H H' : Hp} {p r li : Addr} {x y y' : PrS} (h : Iv3 T Hb H p r li x y) (k : KeepS (p :: y.S) H H') (o : PrF T H' y') (sub : ∀ z ∈ y'.S, z ∈ y.S ∨ H z = none) (ea : y'.a = y.a) (en : y'.n = y.n) {n : Nat} (hB : BoxAt H p n) : Iv3 T Hb H' p r li x y' :=
  ⟨h.st.right k o sub ea en hB, same_ks h.sm k fun z hz => (List.mem_cons.mp hz).elim (fun e => e ▸ h.fp) (h.fy z), h.fp, h.fx, fun z hz => (sub z hz).elim (h.fy z) (none_of h.sm)⟩
theorem St3.box {T : Tx K mg} {H H' : Hp} {p p' r li : Addr} {x y : PrS} (h : St3 T H p r li x y) (n : H p' = none) (k : Same H H') : St3 T H' p' r li x y :=
  ⟨⟨h.ox.1.keep k, trivial⟩, ⟨h.oy.1.keep k, trivial⟩, h.xy, out_there (fun z hz => h.ox.1.there hz) n, out_there (fun z hz => h.oy.1.there hz) n, h.rx, h.ry, h.lx, h.ly, k _ _ h.hr, k _ _ h.hl, ne_of_none h.hr n, ne_of_none h.hl n⟩
theorem Iv3.box {T : Tx K mg} {Hb H H' : Hp} {p p' r li : Addr} {x y : PrS} (h : Iv3 T Hb H p r li x y) (n : H p' = none) (k : Same H H') : Iv3 T Hb H' p' r li x y :=
  ⟨h.st.box n k, h.sm.trans k, none_of h.sm n, h.fx, h.fy⟩
theorem Iv.far {T : Tx K mg} {Hb H : Hp} {p r li : Addr} {x y : PrS} (h : Iv T Hb H p r li x y) : Iv3 T Hb H p r li x y :=
  ⟨⟨⟨h.st.ox.1, trivial⟩, ⟨h.st.oy.1, trivial⟩, h.st.xy, h.st.px, h.st.py, h.st.rx, h.st.ry, h.st.lx, h.st.ly, h.st.hr, h.st.hl, h.st.rp, h.st.lp⟩, h.sm, h.fp, h.fx, h.fy⟩
-- no reading of _wall yet
theorem ok_NoName___init__ (T : Tx K mg) : FnOk P w K mg base CX0 1 T.a_NoName___init__ T.d_NoName___init__ ["self", "found"] (spXInit T.a_NoName "found") := by
  refine T.F_NoName___init__.ok sc_NoName___init__ (fun vs H Q E h => ?_) (fun cdv A outer s H vs Q E hr h => ?_)
  · obtain ⟨a, v, rfl, _⟩ := h
    rfl
  · refine ⟨_, (pss_cons (ps_expr (pe_upinit rfl T.g_IceError T.rd_IceError T.ga_IceError T.vi_IceError (pa_cons (pv 0) (pa_cons pe_str pa_nil))))
        (pss_one (ps_ost (pv 0) (pv 1)))), ?_⟩
    exact xinit_rd T.ox_NoName T.n_NoName_found h
theorem ok_NoNumber___init__ (T : Tx K mg) : FnOk P w K mg base CX0 1 T.a_NoNumber___init__ T.d_NoNumber___init__ ["self", "found"] (spXInit T.a_NoNumber "found") := by
  refine T.F_NoNumber___init__.ok sc_NoNumber___init__ (fun vs H Q E h => ?_) (fun cdv A outer s H vs Q E hr h => ?_)
  · obtain ⟨a, v, rfl, _⟩ := h
    rfl
  · refine ⟨_, (pss_cons (ps_expr (pe_upinit rfl T.g_IceError T.rd_IceError T.ga_IceError T.vi_IceError (pa_cons (pv 0) (pa_cons pe_str pa_nil))))
        (pss_one (ps_ost (pv 0) (pv 1)))), ?_⟩
    exact xinit_rd T.ox_NoNumber T.n_NoNumber_found h
theorem ok_NoChannel___init__ (T : Tx K mg) : FnOk P w K mg base CX0 1 T.a_NoChannel___init__ T.d_NoChannel___init__ ["self", "found"] (spXInit T.a_NoChannel "found") := by
  refine T.F_NoChannel___init__.ok sc_NoChannel___init__ (fun vs H Q E h => ?_) (fun cdv A outer s H vs Q E hr h => ?_)
  · obtain ⟨a, v, rfl, _⟩ := h
    rfl
  · refine ⟨_, (pss_cons (ps_expr (pe_upinit rfl T.g_IceError T.rd_IceError T.ga_IceError T.vi_IceError (pa_cons (pv 0) (pa_cons pe_str pa_nil))))
        (pss_one (ps_ost (pv 0) (pv 1)))), ?_⟩
    exact xinit_rd T.ox_NoChannel T.n_NoChannel_found h
theorem ok_NoHour___init__ (T : Tx K mg) : FnOk P w K mg base CX0 1 T.a_NoHour___init__ T.d_NoHour___init__ ["self", "found"] (spXInit T.a_NoHour "found") := by
  refine T.F_NoHour___init__.ok sc_NoHour___init__ (fun vs H Q E h => ?_) (fun cdv A outer s H vs Q E hr h => ?_)
  · obtain ⟨a, v, rfl, _⟩ := h
    rfl
  · refine ⟨_, (pss_cons (ps_expr (pe_upinit rfl T.g_IceError T.rd_IceError T.ga_IceError T.vi_IceError (pa_cons (pv 0) (pa_cons pe_str pa_nil))))
        (pss_one (ps_ost (pv 0) (pv 1)))), ?_⟩
    exact xinit_rd T.ox_NoHour T.n_NoHour_found h
theorem ok_NoEntry___init__ (T : Tx K mg) : FnOk P w K mg base CX0 1 T.a_NoEntry___init__ T.d_NoEntry___init__ ["self", "found"] (spXInit T.a_NoEntry "found") := by
  refine T.F_NoEntry___init__.ok sc_NoEntry___init__ (fun vs H Q E h => ?_) (fun cdv A outer s H vs Q E hr h => ?_)
  · obtain ⟨a, v, rfl, _⟩ := h
    rfl
  · refine ⟨_, (pss_cons (ps_expr (pe_upinit rfl T.g_IceError T.rd_IceError T.ga_IceError T.vi_IceError (pa_cons (pv 0) (pa_cons pe_str pa_nil))))
        (pss_one (ps_ost (pv 0) (pv 1)))), ?_⟩
    exact xinit_rd T.ox_NoEntry T.n_NoEntry_found h
theorem ok_Doubled___init__ (T : Tx K mg) : FnOk P w K mg base CX0 1 T.a_Doubled___init__ T.d_Doubled___init__ ["self", "name"] (spXInit T.a_Doubled "name") := by
  refine T.F_Doubled___init__.ok sc_Doubled___init__ (fun vs H Q E h => ?_) (fun cdv A outer s H vs Q E hr h => ?_)
  · obtain ⟨a, v, rfl, _⟩ := h
    rfl
  · refine ⟨_, (pss_cons (ps_expr (pe_upinit rfl T.g_IceError T.rd_IceError T.ga_IceError T.vi_IceError (pa_cons (pv 0) (pa_cons pe_str pa_nil))))
        (pss_one (ps_ost (pv 0) (pv 1)))), ?_⟩
    exact xinit_rd T.ox_Doubled T.n_Doubled_name h
theorem ok_TooMany___init__ (T : Tx K mg) : FnOk P w K mg base CX0 1 T.a_TooMany___init__ T.d_TooMany___init__ ["self", "many"] (spXInit T.a_TooMany "many") := by
  refine T.F_TooMany___init__.ok sc_TooMany___init__ (fun vs H Q E h => ?_) (fun cdv A outer s H vs Q E hr h => ?_)
  · obtain ⟨a, v, rfl, _⟩ := h
    rfl
  · refine ⟨_, (pss_cons (ps_expr (pe_upinit rfl T.g_IceError T.rd_IceError T.ga_IceError T.vi_IceError (pa_cons (pv 0) (pa_cons pe_str pa_nil))))
        (pss_one (ps_ost (pv 0) (pv 1)))), ?_⟩
    exact xinit_rd T.ox_TooMany T.n_TooMany_many h
def sp_is_whole (K : PySem.W.Frag) : Sp := fun vs H Q _ => ∃ v, vs = [v] ∧ ThingAt K H v ∧ Q (.bl (wholeV v)) H
theorem ok_is_whole (T : Tx K mg) : FnOk P w K mg base CX0 1 T.a_is_whole T.d_is_whole ["thing"] (sp_is_whole K) := by
  refine T.F_is_whole.ok sc_is_whole (fun vs H Q E h => ?_) (fun cdv A outer s H vs Q E hr h => ?_)
  · obtain ⟨v, rfl, _⟩ := h
    rfl
  · refine ⟨_, (pss_one (ps_ret (pe_and (pe_callB (isiK (K := K) rfl) (by rfl) T.m_isinstance (by decide +kernel) (pa_cons (pv 0) (pa_cons (pe_bltn (v := .ty "int") rfl T.m_int (by decide +kernel) rfl) pa_nil))) (pe_one (pe_not (pe_callB (isiK (K := K) rfl) (by rfl) T.m_isinstance (by decide +kernel) (pa_cons (pv 0) (pa_cons (pe_bltn (v := .ty "bool") rfl T.m_bool (by decide +kernel) rfl) pa_nil)))))))), ?_⟩
    obtain ⟨v, rfl, hT, q⟩ := h
    obtain ⟨t, ht, h1, h2, h3⟩ := thing_ty hT
    walk_at "rd"
    refine rd_isi ht h1 ?_
    walk_at "rd"
    cases v with
    | int i =>
      refine iteT ?_
      walk_at "rd"
      refine rd_isi ht h2 ?_
      walk_at "rd"
      exact q
    | bl b =>
      refine iteT ?_
      walk_at "rd"
      refine rd_isi ht h2 ?_
      walk_at "rd"
      exact q
    | _ => first | exact iteF q | exact hT.elim
def sp_is_within (K : PySem.W.Frag) : Sp := fun vs H Q _ => ∃ v lo hi, vs = [v, .int lo, .int hi] ∧ ThingAt K H v ∧ Q (.bl (withinV v lo hi)) H
theorem ok_is_within (T : Tx K mg) : FnOk P w K mg base CX0 2 T.a_is_within T.d_is_within ["thing", "low", "high"] (sp_is_within K) := by
  refine T.F_is_within.ok sc_is_within (fun vs H Q E h => ?_) (fun cdv A outer s H vs Q E hr h => ?_)
  · obtain ⟨v, lo, hi, rfl, _⟩ := h
    rfl
  · refine ⟨_, (pss_one (ps_ret (pe_and (pe_call (ok_is_whole T) (hr.mono (by decide)) (by rfl) T.g_is_whole T.F_is_whole.kp T.b_is_whole .nil pass0 (pa_cons (pv 0) pa_nil)) (pe_one (pe_chain op_le op_le (pv 1) (pv 0) (pv 2)))))), ?_⟩
    obtain ⟨v, lo, hi, rfl, hT, q⟩ := h
    walk_at "rd"
    refine ⟨v, rfl, hT, ?_⟩
    walk_at "rd"
    cases v with
    | int i =>
      refine iteT ?_
      walk_at "rd"
      refine rd_iteD (fun h1 => ?_) (fun h1 => ?_)
      · walk_at "rd"
        rw [withinV, decide_eq_true h1, Bool.true_and] at q
        exact q
      · walk_at "rd"
        rw [withinV, decide_eq_false h1, Bool.false_and] at q
        exact q
    | _ => first | exact iteF q | exact hT.elim
def sp_is_name (K : PySem.W.Frag) : Sp := fun vs H Q _ => ∃ v, vs = [v] ∧ ThingAt K H v ∧ ∀ H', Same H H' → Q (.bl (nameV v)) H'
theorem ok_is_name (T : Tx K mg) : FnOk P w K mg base CX0 1 T.a_is_name T.d_is_name ["thing"] (sp_is_name K) := by
  refine T.F_is_name.ok sc_is_name (fun vs H Q E h => ?_) (fun cdv A outer s H vs Q E hr h => ?_)
  · obtain ⟨v, rfl, _⟩ := h
    rfl
  · refine ⟨_, (pss_cons (ps_if (PW.pt (pw_or (pt_not (pt_val (pe_callB (isiK (K := K) rfl) (by rfl) T.m_isinstance (by decide +kernel) (pa_cons (pv 0) (pa_cons (pe_bltn (v := .ty "str") rfl T.m_str (by decide +kernel) rfl) pa_nil))))) (pw_or1 (pt_not (pt_chain op_le op_le pe_int (pe_callB (lenK (K := K) rfl) (by rfl) T.m_len (by decide +kernel) (pa_cons (pv 0) pa_nil)) (C8.pe_gc rfl T.c_LONGEST_NAME))))))
        (pss_one (ps_ret pe_bl))
        pss_nil)
        (pss_one (ps_ret (pe_callB (allK (K := K) rfl rfl) (by rfl) T.m_all (by decide +kernel) (pa_cons (pe_lc (own := [("sign", 1)]) (g := gName 1) (tt := tYes) rfl sc_is_name.nd (pi_str (pv 0)) (blkOk_by (own := [("sign", 1)]) (N := N_is_name) (sc := defScope s_is_name) (by decide +kernel)) (fun _ _ _ _ _ => (pg_name (i := 1) sc_is_name.nd rfl (Or.inl rfl))) (fun _ _ _ _ _ => pts_nil) (fun _ _ _ _ _ => (pe_frm (pe_cmpR inSg (pv 1) (C8.pe_gc rfl T.c_LETTERS) rfl)))) pa_nil))))), ?_⟩
    obtain ⟨v, rfl, hT, q⟩ := h
    obtain ⟨t, ht, h1, h2, h3⟩ := thing_ty hT
    walk_at "rd"
    refine rd_isi ht h3 ?_
    walk_at "rd"
    cases v with
    | str z =>
      have hz : z.length ≤ 2000 := hT
      refine iteT ?_
      walk_at "rd"
      refine rd_iteD (fun h4 => ?_) (fun h4 => ?_)
      · walk_at "rd"
        refine rd_iteD (fun h5 => ?_) (fun h5 => ?_)
        · walk_at "rd"
          refine lcgo_str (f := fun c => .bl (isLet c)) (by omega) (fun _ => rfl) (fun c H' Q' hc q' => ?_) (fun D hD => ?_)
          · walk_at "rd"
            rw [isLet_in]
            exact q'
          · walk_at "rd"
            refine rd_all (bs := z.cps.toList.map isLet) (sqL_of (by rw [upd_same, List.map_map]; rfl)) ?_
            have eall : (z.cps.toList.map isLet).all id = z.cps.toList.all isLet := by rw [List.all_map]; rfl
            rw [eall]
            walk_at "rd"
            have e : nameV (.str z) = z.cps.toList.all isLet := by rw [nameV, nameS, decide_eq_true (show 1 ≤ z.length ∧ z.length ≤ 8 by omega), Bool.true_and]
            rw [← e]
            exact q _ (same_new hD)
        · walk_at "rd"
          have := q _ (Same.refl H)
          rw [nameV, nameS, decide_eq_false (show ¬ (1 ≤ z.length ∧ z.length ≤ 8) by omega), Bool.false_and] at this
          exact this
      · walk_at "rd"
        have := q _ (Same.refl H)
        rw [nameV, nameS, decide_eq_false (show ¬ (1 ≤ z.length ∧ z.length ≤ 8) by omega), Bool.false_and] at this
        exact this
    | _ =>
      first
      | (refine iteF ?_
         walk_at "rd"
         exact q _ (Same.refl H))
      | exact hT.elim

def sp_need_names (T : Tx K mg) : Sp := fun vs H Q E => ∃ p xs, vs = [.ref p] ∧ SqL K H p xs ∧ (∀ x ∈ xs, ThingAt K H x) ∧ xs.length ≤ 1000 ∧ (xs.find? (fun v => !nameV v) = none → ∀ H', Same H H' → Q .non H') ∧
  ∀ v, xs.find? (fun v => !nameV v) = some v → ∀ d H', Same H H' → H' d = some (.xd [("found", v)]) → E (.ref T.a_NoName) (some d) H'
theorem ok_need_names (T : Tx K mg) : FnOk P w K mg base (L2.CX P w) 3 T.a_need_names T.d_need_names ["things"] (sp_need_names T) := by
  refine T.F_need_names.okX sc_need_names (fun vs H Q E h => ?_) (fun cdv A outer s H vs Q E hr h => ?_)
  · obtain ⟨p, xs, rfl, _⟩ := h
    rfl
  · refine ⟨_, (pss_one (ps_for (passes_of rfl) rfl (pi_listK (K := K) rfl (pv 0)) (pg_name (i := 1) sc_need_names.nd rfl (Or.inl rfl))
        (pss_one (ps_if (pt_not (pt_val (pe_call (ok_is_name T) (hr.mono (by decide)) (by rfl) T.g_is_name T.F_is_name.kp T.b_is_name .nil pass0 (pa_cons (pv 1) pa_nil))))
        (pss_one (ps_raiseX rfl (takes_of rfl rfl rfl rfl) T.ox_NoName T.ix_NoName T.tx_NoName (ok_NoName___init__ T) (hr.mono (by decide)) T.b_NoName___init__ rfl T.g_NoName (pa_cons (pv 1) pa_nil)))
        pss_nil)))), ?_⟩
    obtain ⟨p, xs, rfl, hS, hT, hl, q1, q2⟩ := h
    walk_at "rd"
    refine rd_il hS ?_
    refine forgo walk_list (fun i σ' H' => Same H H' ∧ (xs.take i).find? (fun v => !nameV v) = none ∧ ∃ x1, σ' = [some (.ref p), x1]) ⟨Same.refl _, rfl, _, rfl⟩ (fun i σ' H' _ p => (p.1).seq hS) ?_ ?_
    · rintro i x σ' Ha Hb hi ⟨sa, hn, x1, rfl⟩ ⟨e0, hx⟩
      subst e0
      walk_at "rd"
      refine ⟨x, rfl, (hT x (List.mem_of_getElem? hx)).keep sa, fun Hc sc => ?_⟩
      walk_at "rd"
      cases hv : nameV x with
      | true =>
        walk_at "rd"
        exact ⟨sa.trans sc, (find_step hn hx).1 (by rw [hv]; rfl), _, rfl⟩
      | false =>
        walk_at "rd"
        refine rd_raise1 fun d hd => ?_
        exact q2 x ((find_step hn hx).2 (by rw [hv]; rfl)) d _ ((sa.trans sc).trans (same_new hd)) upd_same
    · rintro σ' Ha ⟨sa, hn, x1, rfl⟩
      walk_at "rd"
      rw [List.take_length] at hn
      exact q1 hn _ sa
def sp_need_numbers (T : Tx K mg) : Sp := fun vs H Q E => ∃ p, ∃ rs : List (Addr × V × Int × Int), vs = [.ref p] ∧ SqL K H p (rs.map fun r => .ref r.1) ∧ (∀ r ∈ rs, SqT K H r.1 [r.2.1, .int r.2.2.1, .int r.2.2.2] ∧ ThingAt K H r.2.1) ∧ rs.length ≤ 1000 ∧
  ((rs.map (·.2)).find? badN = none → ∀ H', Same H H' → Q .non H') ∧
  ∀ r, (rs.map (·.2)).find? badN = some r → ∀ d H', Same H H' → H' d = some (.xd [("found", r.1)]) → E (.ref T.a_NoNumber) (some d) H'
theorem ok_need_numbers (T : Tx K mg) : FnOk P w K mg base (L2.CX P w) 3 T.a_need_numbers T.d_need_numbers ["rows"] (sp_need_numbers T) := by
  refine T.F_need_numbers.okX sc_need_numbers (fun vs H Q E h => ?_) (fun cdv A outer s H vs Q E hr h => ?_)
  · obtain ⟨p, rs, rfl, _⟩ := h
    rfl
  · refine ⟨_, (pss_one (ps_for (passes_of rfl) rfl (pi_listK (K := K) rfl (pv 0)) (pg_tup rfl (pgs_cons (pg_name (i := 1) sc_need_numbers.nd rfl (Or.inl rfl)) (pgs_cons (pg_name (i := 2) sc_need_numbers.nd rfl (Or.inl rfl)) (pgs_cons (pg_name (i := 3) sc_need_numbers.nd rfl (Or.inl rfl)) pgs_nil))))
        (pss_one (ps_if (pt_not (pt_val (pe_call (ok_is_within T) (hr.mono (by decide)) (by rfl) T.g_is_within T.F_is_within.kp T.b_is_within .nil pass0 (pa_cons (pv 1) (pa_cons (pv 2) (pa_cons (pv 3) pa_nil))))))
        (pss_one (ps_raiseX rfl (takes_of rfl rfl rfl rfl) T.ox_NoNumber T.ix_NoNumber T.tx_NoNumber (ok_NoNumber___init__ T) (hr.mono (by decide)) T.b_NoNumber___init__ rfl T.g_NoNumber (pa_cons (pv 1) pa_nil)))
        pss_nil)))), ?_⟩
    obtain ⟨p, rs, rfl, hS, hT, hl, q1, q2⟩ := h
    walk_at "rd"
    refine rd_il hS ?_
    refine forgo walk_list (fun i σ' H' => Same H H' ∧ ((rs.map (·.2)).take i).find? badN = none ∧ ∃ x1 x2 x3, σ' = [some (.ref p), x1, x2, x3]) ⟨Same.refl _, rfl, _, _, _, rfl⟩ (fun i σ' H' _ p => (p.1).seq hS) ?_ ?_
    · rintro i x σ' Ha Hb hi ⟨sa, hn, x1, x2, x3, rfl⟩ ⟨e0, hx⟩
      subst e0
      rw [List.getElem?_map] at hx
      obtain ⟨⟨t, v, lo, hi2⟩, hr, rfl⟩ := Option.map_eq_some_iff.mp hx
      obtain ⟨ht, hth⟩ := hT _ (List.mem_of_getElem? hr)
      have hx2 : (rs.map (·.2))[i]? = some (v, lo, hi2) := by rw [List.getElem?_map, hr]; rfl
      refine rd_gtup (Same.seqT sa ht) rfl ?_
      walk_at "rd"
      refine ⟨v, lo, hi2, rfl, hth.keep sa, ?_⟩
      walk_at "rd"
      cases hv : withinV v lo hi2 with
      | true =>
        walk_at "rd"
        exact ⟨sa, (find_step hn hx2).1 (by simp only [badN, hv]; rfl), _, _, _, rfl⟩
      | false =>
        walk_at "rd"
        refine rd_raise1 fun d hd => ?_
        exact q2 _ ((find_step hn hx2).2 (by simp only [badN, hv]; rfl)) d _ (sa.trans (same_new hd)) upd_same
    · rintro σ' Ha ⟨sa, hn, x1, x2, x3, rfl⟩
      walk_at "rd"
      rw [show (rs.map fun r => V.ref r.1).length = (rs.map (·.2)).length by rw [List.length_map, List.length_map], List.take_length] at hn
      exact q1 hn _ sa
def sp_Channel___init__ (T : Tx K mg) : Sp := fun vs H Q E => ∃ a dx nm one oth h d f g m, vs = [.ref a, nm, one, oth, h, d, f, g, m] ∧ H a = some (.ins T.a_Channel dx []) ∧ (∀ x ∈ [nm, one, oth, h, d, f, g, m], ThingAt K H x) ∧
  (chanRef nm one oth h d f g m = none → ∀ c H', [nm, one, oth, h, d, f, g, m] = chV c → KeepB a H H' → H' a = some (.ins T.a_Channel dx (chF c)) → Q .non H') ∧
  (∀ v, chanRef nm one oth h d f g m = some (0, v) → ∀ d H', Same H H' → H' d = some (.xd [("found", v)]) → E (.ref T.a_NoName) (some d) H') ∧
  (∀ v, chanRef nm one oth h d f g m = some (1, v) → ∀ d H', Same H H' → H' d = some (.xd [("name", v)]) → E (.ref T.a_Doubled) (some d) H') ∧
  (∀ v, chanRef nm one oth h d f g m = some (2, v) → ∀ d H', Same H H' → H' d = some (.xd [("found", v)]) → E (.ref T.a_NoNumber) (some d) H')
theorem chan_0 {nm one oth h d f g m v : V} (h0 : [nm, one, oth].find? (fun v => !nameV v) = some v) : chanRef nm one oth h d f g m = some (0, v) := by
  unfold chanRef
  rw [h0]
theorem chan_1 {nm one oth h d f g m : V} (h0 : [nm, one, oth].find? (fun v => !nameV v) = none) (h1 : one = oth) : chanRef nm one oth h d f g m = some (1, one) := by
  unfold chanRef
  rw [h0]
  exact if_pos h1
theorem chan_2 {nm one oth h d f g m : V} {r : V × Int × Int} (h0 : [nm, one, oth].find? (fun v => !nameV v) = none) (h1 : one ≠ oth) (h2 : [(h, (1 : Int), (1000 : Int)), (d, 0, 1000), (f, 0, 1000000)].find? badN = some r) : chanRef nm one oth h d f g m = some (2, r.1) := by
  unfold chanRef
  rw [h0]
  simp only [if_neg h1, h2]
theorem chan_3 {nm one oth h d f g m : V} {r : V × Int × Int} (h0 : [nm, one, oth].find? (fun v => !nameV v) = none) (h1 : one ≠ oth) (h2 : [(h, (1 : Int), (1000 : Int)), (d, 0, 1000), (f, 0, 1000000)].find? badN = none) (h3 : [(g, (0 : Int), (1000 : Int)), (m, intOf f, 1000000)].find? badN = some r) :
    chanRef nm one oth h d f g m = some (2, r.1) := by
  unfold chanRef
  rw [h0]
  simp only [if_neg h1, h2, h3]
theorem chan_4 {nm one oth h d f g m : V} (h0 : [nm, one, oth].find? (fun v => !nameV v) = none) (h1 : one ≠ oth) (h2 : [(h, (1 : Int), (1000 : Int)), (d, 0, 1000), (f, 0, 1000000)].find? badN = none) (h3 : [(g, (0 : Int), (1000 : Int)), (m, intOf f, 1000000)].find? badN = none) :
    chanRef nm one oth h d f g m = none := by
  unfold chanRef
  rw [h0]
  simp only [if_neg h1, h2, h3]
theorem ok_Channel___init__ (T : Tx K mg) : FnOk P w K mg base (L2.CX P w) 4 T.a_Channel___init__ T.d_Channel___init__ ["self", "name", "one", "other", "hours", "depth", "first", "growth", "most"] (sp_Channel___init__ T) := by
  refine T.F_Channel___init__.okX sc_Channel___init__ (fun vs H Q E h => ?_) (fun cdv A outer s H vs Q E hr h => ?_)
  · obtain ⟨a, dx, nm, one, oth, h1, d1, f1, g1, m1, rfl, _⟩ := h
    rfl
  · refine ⟨_, (pss_cons (ps_expr (pe_callS (ok_need_names T) (hr.mono (by decide)) (by rfl) T.g_need_names T.F_need_names.kp T.b_need_names (fun σ => passAt (takes_of rfl rfl rfl rfl) σ) (pa_cons (pe_lst (pa_cons (pv 1) (pa_cons (pv 2) (pa_cons (pv 3) pa_nil)))) pa_nil)))
        (pss_cons (ps_if (pt_cmpR op_eq (pv 2) (pv 3) (nomark _))
        (pss_one (ps_raiseX rfl (takes_of rfl rfl rfl rfl) T.ox_Doubled T.ix_Doubled T.tx_Doubled (ok_Doubled___init__ T) (hr.mono (by decide)) T.b_Doubled___init__ rfl T.g_Doubled (pa_cons (pv 2) pa_nil)))
        pss_nil)
        (pss_cons (ps_expr (pe_callS (ok_need_numbers T) (hr.mono (by decide)) (by rfl) T.g_need_numbers T.F_need_numbers.kp T.b_need_numbers (fun σ => passAt (takes_of rfl rfl rfl rfl) σ) (pa_cons (pe_lst (pa_cons (pe_tup (pa_cons (pv 4) (pa_cons pe_int (pa_cons (C8.pe_gc rfl T.c_MOST_LENGTH) pa_nil)))) (pa_cons (pe_tup (pa_cons (pv 5) (pa_cons pe_int (pa_cons (C8.pe_gc rfl T.c_MOST_DEPTH) pa_nil)))) (pa_cons (pe_tup (pa_cons (pv 6) (pa_cons pe_int (pa_cons (C8.pe_gc rfl T.c_MOST_ICE) pa_nil)))) pa_nil)))) pa_nil)))
        (pss_cons (ps_expr (pe_callS (ok_need_numbers T) (hr.mono (by decide)) (by rfl) T.g_need_numbers T.F_need_numbers.kp T.b_need_numbers (fun σ => passAt (takes_of rfl rfl rfl rfl) σ) (pa_cons (pe_lst (pa_cons (pe_tup (pa_cons (pv 7) (pa_cons pe_int (pa_cons (C8.pe_gc rfl T.c_MOST_GROWTH) pa_nil)))) (pa_cons (pe_tup (pa_cons (pv 8) (pa_cons (pv 6) (pa_cons (C8.pe_gc rfl T.c_MOST_ICE) pa_nil)))) pa_nil))) pa_nil)))
        (pss_cons (ps_fldK (K := K) rfl (pv 0) (pv 1) rfl)
        (pss_cons (ps_fldK (K := K) rfl (pv 0) (pv 2) rfl)
        (pss_cons (ps_fldK (K := K) rfl (pv 0) (pv 3) rfl)
        (pss_cons (ps_fldK (K := K) rfl (pv 0) (pv 4) rfl)
        (pss_cons (ps_fldK (K := K) rfl (pv 0) (pv 5) rfl)
        (pss_cons (ps_fldK (K := K) rfl (pv 0) (pv 6) rfl)
        (pss_cons (ps_fldK (K := K) rfl (pv 0) (pv 7) rfl)
        (pss_one (ps_fldK (K := K) rfl (pv 0) (pv 8) rfl))))))))))))), ?_⟩
    obtain ⟨a, dx, nm, one, oth, h1, d1, f1, g1, m1, rfl, hA, hT, q0, q1, q2, q3⟩ := h
    walk_at "rd"
    refine rd_lstA (by simp) fun l H1 nl s1 el => ?_
    refine ⟨l, [nm, one, oth], rfl, sqL_of el, fun x hx => (hT x (by simp only [List.mem_cons, List.not_mem_nil, or_false] at hx; rcases hx with h | h | h <;> simp [h])).keep s1, by simp, fun hf H2 s2 => ?_, fun v hv d H2 s2 hd => q1 v (chan_0 hv) d H2 (s1.trans s2) hd⟩
    have n0 := List.find?_eq_none.mp hf
    obtain ⟨z0, rfl⟩ := name_str (v := nm) (by simpa using n0 nm (by simp))
    obtain ⟨z1, rfl⟩ := name_str (v := one) (by simpa using n0 one (by simp))
    obtain ⟨z2, rfl⟩ := name_str (v := oth) (by simpa using n0 oth (by simp))
    have s02 := s1.trans s2
    walk_at "rd"
    refine rd_iteD (fun he => ?_) (fun he => ?_)
    · walk_at "rd"
      refine rd_raise1 fun d hd => ?_
      exact q2 _ (chan_1 hf he) d _ (s02.trans (same_new hd)) upd_same
    · walk_at "rd"
      refine rd_tupA (by simp) fun t1 H3 n3 s3 e3 => ?_
      walk_at "rd"
      refine rd_tupA (by simp) fun t2 H4 n4 s4 e4 => ?_
      walk_at "rd"
      refine rd_tupA (by simp) fun t3 H5 n5 s5 e5 => ?_
      walk_at "rd"
      refine rd_lstA (by simp) fun l2 H6 n6 s6 e6 => ?_
      have s06 := (((s02.trans s3).trans s4).trans s5).trans s6
      refine ⟨l2, [(t1, h1, 1, 1000), (t2, d1, 0, 1000), (t3, f1, 0, 1000000)], rfl, sqL_of e6, fun r hr => ?_, by simp, fun hf2 H7 s7 => ?_, fun r hv d H7 s7 hd => q3 r.1 (chan_2 hf he hv) d H7 (s06.trans s7) hd⟩
      · simp only [List.mem_cons, List.not_mem_nil, or_false] at hr
        rcases hr with rfl | rfl | rfl
        · exact ⟨sqT_of (s6 _ _ (s5 _ _ (s4 _ _ e3))), (hT _ (by simp)).keep s06⟩
        · exact ⟨sqT_of (s6 _ _ (s5 _ _ e4)), (hT _ (by simp)).keep s06⟩
        · exact ⟨sqT_of (s6 _ _ e5), (hT _ (by simp)).keep s06⟩
      have hf2 : [(h1, (1 : Int), (1000 : Int)), (d1, 0, 1000), (f1, 0, 1000000)].find? badN = none := hf2
      have n2 := List.find?_eq_none.mp hf2
      obtain ⟨ih, rfl⟩ := in_int (v := h1) (lo := 1) (hi := 1000) (by simpa using n2 (h1, 1, 1000) (by simp))
      obtain ⟨id, rfl⟩ := in_int (v := d1) (lo := 0) (hi := 1000) (by simpa using n2 (d1, 0, 1000) (by simp))
      obtain ⟨iff, rfl⟩ := in_int (v := f1) (lo := 0) (hi := 1000000) (by simpa using n2 (f1, 0, 1000000) (by simp))
      have s07 := s06.trans s7
      walk_at "rd"
      refine rd_tupA (by simp) fun t4 H8 n8 s8 e8 => ?_
      walk_at "rd"
      refine rd_tupA (by simp) fun t5 H9 n9 s9 e9 => ?_
      walk_at "rd"
      refine rd_lstA (by simp) fun l3 Ha na sa ea => ?_
      have s0a := ((s07.trans s8).trans s9).trans sa
      refine ⟨l3, [(t4, g1, 0, 1000), (t5, m1, iff, 1000000)], rfl, sqL_of ea, fun r hr => ?_, by simp, fun hf3 Hb sb => ?_, fun r hv d Hb sb hd => q3 r.1 (chan_3 hf he hf2 hv) d Hb (s0a.trans sb) hd⟩
      · simp only [List.mem_cons, List.not_mem_nil, or_false] at hr
        rcases hr with rfl | rfl
        · exact ⟨sqT_of (sa _ _ (s9 _ _ e8)), (hT _ (by simp)).keep s0a⟩
        · exact ⟨sqT_of (sa _ _ e9), (hT _ (by simp)).keep s0a⟩
      have hf3 : [(g1, (0 : Int), (1000 : Int)), (m1, iff, 1000000)].find? badN = none := hf3
      have n3' := List.find?_eq_none.mp hf3
      obtain ⟨ig, rfl⟩ := in_int (v := g1) (lo := 0) (hi := 1000) (by simpa using n3' (g1, 0, 1000) (by simp))
      obtain ⟨im, rfl⟩ := in_int (v := m1) (lo := iff) (hi := 1000000) (by simpa using n3' (m1, iff, 1000000) (by simp))
      have s0b := s0a.trans sb
      have hA8 := s0b _ _ hA
      walk_at "rd"
      refine rd_fldSet hA8 T.cl_Channel T.n_Channel_name (of_decide_eq_true (by kernel_rfl)) ?_
      walk_at "rd"
      refine rd_fldSet upd_same T.cl_Channel T.n_Channel_one (of_decide_eq_true (by kernel_rfl)) ?_
      walk_at "rd"
      refine rd_fldSet upd_same T.cl_Channel T.n_Channel_other (of_decide_eq_true (by kernel_rfl)) ?_
      walk_at "rd"
      refine rd_fldSet upd_same T.cl_Channel T.n_Channel_hours (of_decide_eq_true (by kernel_rfl)) ?_
      walk_at "rd"
      refine rd_fldSet upd_same T.cl_Channel T.n_Channel_depth (of_decide_eq_true (by kernel_rfl)) ?_
      walk_at "rd"
      refine rd_fldSet upd_same T.cl_Channel T.n_Channel_first (of_decide_eq_true (by kernel_rfl)) ?_
      walk_at "rd"
      refine rd_fldSet upd_same T.cl_Channel T.n_Channel_growth (of_decide_eq_true (by kernel_rfl)) ?_
      walk_at "rd"
      refine rd_fldSet upd_same T.cl_Channel T.n_Channel_most (of_decide_eq_true (by kernel_rfl)) ?_
      walk_at "rd"
      refine q0 (chan_4 hf he hf2 hf3) ⟨z0, z1, z2, ih, id, iff, ig, im⟩ _ rfl ((Same.keepB s0b).put.put.put.put.put.put.put.put) ?_
      rw [upd_same]
      exact congrArg (fun fs => some (HO.ins T.a_Channel dx fs)) (ch_put ⟨z0, z1, z2, ih, id, iff, ig, im⟩)
def chNames (c : Ch) : Prop := nameS c.name = true ∧ nameS c.one = true ∧ nameS c.other = true ∧ c.one ≠ c.other
theorem make_same {H H' : Hp} {x dx : Addr} {o1 o2 : HO} (hx : H x = none) (hdx : H dx = none) (k : KeepB x (upd (upd H dx o1) x o2) H') : Same H H' := make_keep hx hdx k
theorem chan_ok {c : Ch} (h : chOk c) (n : chNames c) : chanRef (.str c.name) (.str c.one) (.str c.other) (.int c.hours) (.int c.depth) (.int c.first) (.int c.growth) (.int c.most) = none := by
  obtain ⟨n1, n2, n3, n4⟩ := n
  unfold chOk at h
  have w : ∀ {i lo hi : Int}, lo ≤ i → i ≤ hi → badN (.int i, lo, hi) = false := fun h1 h2 => by
    simp only [badN, withinV, decide_eq_true h1, decide_eq_true h2]
    rfl
  refine chan_4 ?_ (fun e => n4 (V.str.inj e)) ?_ ?_
  · simp only [List.find?_cons, List.find?_nil, nameV, n1, n2, n3, Bool.not_true]
  · simp only [List.find?_cons, List.find?_nil, w (show 1 ≤ c.hours by omega) (show c.hours ≤ 1000 by omega), w (show 0 ≤ c.depth by omega) (show c.depth ≤ 1000 by omega), w (show 0 ≤ c.first by omega) (show c.first ≤ 1000000 by omega)]
  · simp only [List.find?_cons, List.find?_nil, intOf, w (show 0 ≤ c.growth by omega) (show c.growth ≤ 1000 by omega), w (show c.first ≤ c.most by omega) (show c.most ≤ 1000000 by omega)]
theorem chV_inj {c d : Ch} (h : chV c = chV d) : d = c := by
  cases c
  cases d
  simp only [chV, List.cons.injEq, V.str.injEq, V.int.injEq, and_true] at h
  obtain ⟨rfl, rfl, rfl, rfl, rfl, rfl, rfl, rfl⟩ := h
  rfl
theorem rd_mkChan {Q : VK} {E : XK} {H : Hp} (T : Tx K mg) (c : Ch) (hok : chOk c) (hn : chNames c) (q : ∀ x H', Nn H x → Same H H' → ChanAt T H' x c → Q (.ref x) H') : MakeG T.a_Channel (sp_Channel___init__ T) Q E (chV c) H := by
  intro x dx hx hdx hne
  refine ⟨x, dx, _, _, _, _, _, _, _, _, rfl, upd_same, fun y hy => ?_, fun _ u H' hu k' h' => ?_, fun u hu => ?_, fun u hu => ?_, fun u hu => ?_⟩
  · have l : ∀ {z : Str}, nameS z = true → z.length ≤ 2000 := fun h => by
      unfold nameS at h
      have := of_decide_eq_true (Bool.and_eq_true_iff.mp h).1
      omega
    simp only [List.mem_cons, List.not_mem_nil, or_false] at hy
    rcases hy with rfl | rfl | rfl | rfl | rfl | rfl | rfl | rfl <;> first | exact l hn.1 | exact l hn.2.1 | exact l hn.2.2.1 | trivial
  · have e := chV_inj hu
    rw [e] at h'
    exact ⟨rfl, q x H' ⟨hx⟩ (make_same hx hdx k') ⟨dx, h'⟩⟩
  · rw [chan_ok hok hn] at hu
    cases hu
  · rw [chan_ok hok hn] at hu
    cases hu
  · rw [chan_ok hok hn] at hu
    cases hu
theorem cab_ok {d : Int} (h0 : 0 ≤ d) (h1 : d ≤ 1000) : chOk ⟨Str.ofString "c", Str.ofString "a", Str.ofString "b", 1, d, 0, 0, 0⟩ := by
  unfold chOk
  simp only []
  omega
theorem cab_n {d : Int} : chNames ⟨Str.ofString "c", Str.ofString "a", Str.ofString "b", 1, d, 0, 0, 0⟩ := ⟨show nameS (Str.ofString "c") = true by decide +kernel, show nameS (Str.ofString "a") = true by decide +kernel, show nameS (Str.ofString "b") = true by decide +kernel, show Str.ofString "a" ≠ Str.ofString "b" by decide +kernel⟩

def sp_Ice___init__ (T : Tx K mg) : Sp := fun vs H Q E => ∃ a dx ch c since, vs = [.ref a, .ref ch, .int since] ∧ H a = some (.ins T.a_Ice dx []) ∧ ChanAt T H ch c ∧ chOk c ∧ 0 ≤ since ∧ since ≤ 1000000 ∧
  ∀ S H', KeepB a H H' → IceAt T H' a c since [] S → (∀ x ∈ S, H x = none) → Q .non H'
theorem ok_Ice___init__ (T : Tx K mg) : FnOk P w K mg base (L2.CX P w) 3 T.a_Ice___init__ T.d_Ice___init__ ["self", "channel", "begin"] (sp_Ice___init__ T) := by
  refine T.F_Ice___init__.okX sc_Ice___init__ (fun vs H Q E h => ?_) (fun cdv A outer s H vs Q E hr h => ?_)
  · obtain ⟨a, dx, ch, c, since, rfl, _⟩ := h
    rfl
  · refine ⟨_, (pss_cons (ps_if (pt_not (pt_val (pe_callB (isiK (K := K) rfl) (by rfl) T.m_isinstance (by decide +kernel) (pa_cons (pv 1) (pa_cons (pe_glob (v := .ref T.a_Channel) rfl T.g_Channel rfl) pa_nil)))))
        (pss_one (ps_raiseX rfl (takes_of rfl rfl rfl rfl) T.ox_NoChannel T.ix_NoChannel T.tx_NoChannel (ok_NoChannel___init__ T) (hr.mono (by decide)) T.b_NoChannel___init__ rfl T.g_NoChannel (pa_cons (pv 1) pa_nil)))
        pss_nil)
        (pss_cons (ps_if (pt_not (pt_val (pe_call (ok_is_within T) (hr.mono (by decide)) (by rfl) T.g_is_within T.F_is_within.kp T.b_is_within .nil pass0 (pa_cons (pv 2) (pa_cons pe_int (pa_cons (C8.pe_gc rfl T.c_MOST_HOUR) pa_nil))))))
        (pss_one (ps_raiseX rfl (takes_of rfl rfl rfl rfl) T.ox_NoNumber T.ix_NoNumber T.tx_NoNumber (ok_NoNumber___init__ T) (hr.mono (by decide)) T.b_NoNumber___init__ rfl T.g_NoNumber (pa_cons (pv 2) pa_nil)))
        pss_nil)
        (pss_cons (ps_fldK (K := K) rfl (pv 0) (pv 1) rfl)
        (pss_cons (ps_fldK (K := K) rfl (pv 0) (pv 2) rfl)
        (pss_one (ps_fldK (K := K) rfl (pv 0) pe_dnewK rfl)))))), ?_⟩
    obtain ⟨a, dx, ch, c, since, rfl, hA, ⟨dy, hC⟩, hok, s0, s1, q⟩ := h
    walk_at "rd"
    refine rd_isiC hC T.cl_Channel T.ic_Channel T.hn_class T.ht_class T.im_Channel T.ki_Channel_Channel ?_ <;> walk_at "rd"
    refine ⟨_, 0, 1000000, rfl, trivial, ?_⟩
    have ew : withinV (.int since) 0 1000000 = true := by
      show (decide (0 ≤ since) && decide (since ≤ 1000000)) = true
      rw [decide_eq_true s0, decide_eq_true s1]
      rfl
    rw [ew]
    walk_at "rd"
    refine rd_fldSet hA T.cl_Ice T.n_Ice_way (of_decide_eq_true (by kernel_rfl)) ?_
    walk_at "rd"
    refine rd_fldSet upd_same T.cl_Ice T.n_Ice_since (of_decide_eq_true (by kernel_rfl)) ?_
    walk_at "rd"
    refine rd_dnewB fun d H1 n_d s_H1 e_d => ?_ <;> walk_at "rd"
    refine rd_fldSet (s_H1 _ _ upd_same) T.cl_Ice T.n_Ice_cuts (of_decide_eq_true (by kernel_rfl)) ?_
    walk_at "rd"
    have nda : d ≠ a := ne_of e_d (s_H1 _ _ upd_same) nofun
    have nca : ch ≠ a := fun e => by
      rw [e, hA] at hC
      injection hC with hC
      injection hC with h1 h2 h3
      cases h3
    have k1 : KeepB a H H1 := ((KeepB.refl a H).put.put).trans (Same.keepB s_H1)
    refine q (fpC d []) _ k1.put ⟨ch, d, [], ⟨⟨dx, ?_⟩, dy, ?_⟩, ⟨?_, nofun, nofun, List.nodup_nil, List.nodup_nil⟩, .refl _, rfl, hok, s0, s1, ⟨nofun, nofun, nofun, nofun⟩⟩ fun x hx => ?_
    · rw [upd_same]
      exact congrArg (fun fs => some (HO.ins T.a_Ice dx fs)) ic_put
    · rw [upd_ne nca]
      exact k1 _ _ hC nca
    · rw [upd_ne nda]
      exact e_d
    · rw [List.mem_singleton.mp hx]
      have z := n_d.e
      rw [upd_ne nda, upd_ne nda] at z
      exact z
def sp_Ice_need_hour (T : Tx K mg) : Sp := fun vs H Q E => ∃ a v c ch since d, vs = [.ref a, v] ∧ IceI T H a c ch since d ∧ ThingAt K H v ∧ (withinV v since 1000000000 = true → Q .non H) ∧
  (withinV v since 1000000000 = false → ∀ d H', Same H H' → H' d = some (.xd [("found", v)]) → E (.ref T.a_NoHour) (some d) H')
theorem ok_Ice_need_hour (T : Tx K mg) : FnOk P w K mg base (L2.CX P w) 3 T.a_Ice_need_hour T.d_Ice_need_hour ["self", "hour"] (sp_Ice_need_hour T) := by
  refine T.F_Ice_need_hour.okX sc_Ice_need_hour (fun vs H Q E h => ?_) (fun cdv A outer s H vs Q E hr h => ?_)
  · obtain ⟨a, v, c, ch, since, d, rfl, _⟩ := h
    rfl
  · refine ⟨_, (pss_one (ps_if (pt_not (pt_val (pe_call (ok_is_within T) (hr.mono (by decide)) (by rfl) T.g_is_within T.F_is_within.kp T.b_is_within .nil pass0 (pa_cons (pv 1) (pa_cons (pe_fldK (K := K) rfl (pv 0)) (pa_cons (C8.pe_gc rfl T.c_LAST_HOUR) pa_nil))))))
        (pss_one (ps_raiseX rfl (takes_of rfl rfl rfl rfl) T.ox_NoHour T.ix_NoHour T.tx_NoHour (ok_NoHour___init__ T) (hr.mono (by decide)) T.b_NoHour___init__ rfl T.g_NoHour (pa_cons (pv 1) pa_nil)))
        pss_nil)), ?_⟩
    obtain ⟨a, v, c, ch, since, d, rfl, ⟨⟨dx, hA⟩, dy, hC⟩, hT, q0, q1⟩ := h
    walk_at "rd"
    refine ⟨v, since, 1000000000, rfl, hT, ?_⟩
    walk_at "rd"
    cases hv : withinV v since 1000000000 with
    | true =>
      walk_at "rd"
      exact q0 hv
    | false =>
      walk_at "rd"
      refine rd_raise1 fun e he => ?_
      exact q1 hv e _ (same_new he) upd_same
def sp_Ice_need_breaking (T : Tx K mg) : Sp := fun vs H Q E => ∃ a v u c ch since d, vs = [.ref a, v, u] ∧ IceI T H a c ch since d ∧ ThingAt K H v ∧ ThingAt K H u ∧ (withinV v since 100000000 = true → withinV u 1 1000000 = true → Q .non H) ∧
  (withinV v since 100000000 = false → ∀ d H', Same H H' → H' d = some (.xd [("found", v)]) → E (.ref T.a_NoHour) (some d) H') ∧
  (withinV v since 100000000 = true → withinV u 1 1000000 = false → ∀ d H', Same H H' → H' d = some (.xd [("found", u)]) → E (.ref T.a_NoNumber) (some d) H')
theorem ok_Ice_need_breaking (T : Tx K mg) : FnOk P w K mg base (L2.CX P w) 3 T.a_Ice_need_breaking T.d_Ice_need_breaking ["self", "hour", "cut"] (sp_Ice_need_breaking T) := by
  refine T.F_Ice_need_breaking.okX sc_Ice_need_breaking (fun vs H Q E h => ?_) (fun cdv A outer s H vs Q E hr h => ?_)
  · obtain ⟨a, v, u, c, ch, since, d, rfl, _⟩ := h
    rfl
  · refine ⟨_, (pss_cons (ps_if (pt_not (pt_val (pe_call (ok_is_within T) (hr.mono (by decide)) (by rfl) T.g_is_within T.F_is_within.kp T.b_is_within .nil pass0 (pa_cons (pv 1) (pa_cons (pe_fldK (K := K) rfl (pv 0)) (pa_cons (C8.pe_gc rfl T.c_LAST_BREAKING) pa_nil))))))
        (pss_one (ps_raiseX rfl (takes_of rfl rfl rfl rfl) T.ox_NoHour T.ix_NoHour T.tx_NoHour (ok_NoHour___init__ T) (hr.mono (by decide)) T.b_NoHour___init__ rfl T.g_NoHour (pa_cons (pv 1) pa_nil)))
        pss_nil)
        (pss_one (ps_if (pt_not (pt_val (pe_call (ok_is_within T) (hr.mono (by decide)) (by rfl) T.g_is_within T.F_is_within.kp T.b_is_within .nil pass0 (pa_cons (pv 2) (pa_cons pe_int (pa_cons (C8.pe_gc rfl T.c_MOST_CUT) pa_nil))))))
        (pss_one (ps_raiseX rfl (takes_of rfl rfl rfl rfl) T.ox_NoNumber T.ix_NoNumber T.tx_NoNumber (ok_NoNumber___init__ T) (hr.mono (by decide)) T.b_NoNumber___init__ rfl T.g_NoNumber (pa_cons (pv 2) pa_nil)))
        pss_nil))), ?_⟩
    obtain ⟨a, v, u, c, ch, since, d, rfl, ⟨⟨dx, hA⟩, dy, hC⟩, hT, hT2, q0, q1, q2⟩ := h
    walk_at "rd"
    refine ⟨v, since, 100000000, rfl, hT, ?_⟩
    walk_at "rd"
    cases hv : withinV v since 100000000 with
    | true =>
      walk_at "rd"
      refine ⟨u, 1, 1000000, rfl, hT2, ?_⟩
      walk_at "rd"
      cases hu : withinV u 1 1000000 with
      | true =>
        walk_at "rd"
        exact q0 hv hu
      | false =>
        walk_at "rd"
        refine rd_raise1 fun e he => ?_
        exact q2 hv hu e _ (same_new he) upd_same
    | false =>
      walk_at "rd"
      refine rd_raise1 fun e he => ?_
      exact q1 hv e _ (same_new he) upd_same
def sp_Ice_breakings (T : Tx K mg) : Sp := fun vs H Q E => ∃ a c since bs S, vs = [.ref a] ∧ IceAt T H a c since bs S ∧ bs.length < 64 ∧ ∀ p ps H', Nn H p → Same H H' → H' p = some (.lst ps) → RowsAt H' ps (brkV bs) → Q (.ref p) H'
theorem ok_Ice_breakings (T : Tx K mg) : FnOk P w K mg base CX0 1 T.a_Ice_breakings T.d_Ice_breakings ["self"] (sp_Ice_breakings T) := by
  refine T.F_Ice_breakings.ok sc_Ice_breakings (fun vs H Q E h => ?_) (fun cdv A outer s H vs Q E hr h => ?_)
  · obtain ⟨a, c, since, bs, S, rfl, _⟩ := h
    rfl
  · refine ⟨_, (pss_cons (ps_set (i := 1) sc_Ice_breakings.nd rfl (Or.inl rfl) (pe_lst pa_nil))
        (pss_cons (ps_for PassesOwn.never rfl (pi_listK (K := K) rfl (pe_callB (sortDI rfl) (by rfl) T.m_sorted (by decide +kernel) (pa_cons (pe_fldK (K := K) rfl (pv 0)) pa_nil))) (pg_name (i := 2) sc_Ice_breakings.nd rfl (Or.inr rfl))
        (pss_one (ps_expr (pe_bm PySem.F.plainAttrs_list PySem.F.slot_list_extend PySem.F.type_list_extend mt_extend (pv 1) (pa_cons (pe_lc (own := [("cut", 3)]) (g := gName 3) (tt := tYes) rfl sc_Ice_breakings.nd (pi_listK (K := K) rfl (pe_callB (sortIK (K := K) rfl) (by rfl) T.m_sorted (by decide +kernel) (pa_cons (pe_dget (hu_of hr) (pe_fldK (K := K) rfl (pv 0)) (pv 2) (fun _ _ => rfl)) pa_nil))) (blkOk_by (own := [("cut", 3)]) (N := N_Ice_breakings) (sc := defScope s_Ice_breakings) (by decide +kernel)) (fun _ _ _ _ _ => (pg_name (i := 3) sc_Ice_breakings.nd rfl (Or.inl rfl))) (fun _ _ _ _ _ => pts_nil) (fun _ _ _ _ _ => (pe_frm (pe_tup (pa_cons (pv 2) (pa_cons (pv 3) pa_nil)))))) pa_nil)))))
        (pss_one (ps_ret (pv 1))))), ?_⟩
    obtain ⟨a, c, since, bs, S, rfl, ⟨ch, d, L, ⟨⟨dx, hA⟩, dy, hC⟩, hL, hp, rfl, hok, s0, s1, hbs⟩, hlen, q⟩ := h
    have hd := hL.hd
    have hle : L.length < 64 := Nat.lt_of_le_of_lt (flat_len hL.ne) (by rw [← hp.length_eq]; exact hlen)
    walk_at "rd"
    refine rd_lstB fun l H1 n_l s_H1 e_l => ?_ <;> walk_at "rd"
    refine rd_srtDI (kvs := cutK L) (ks := L.map (·.1)) (by walk_at "hp") (cutK_keys L) (by rw [List.length_map]; exact hle) fun ys p H2 hy1 hy2 hp2 s_H2 e_p => ?_
    have hyl : ys.length < 64 := by rw [hy1.length_eq, List.length_map]; exact hle
    have hym : ∀ h ∈ ys, ∃ t ∈ L, t.1 = h := fun h m => by simpa using hy1.mem_iff.mp m
    have hbr : brkV bs = (ys.flatMap fun h => (srtI (cutsL L h)).map fun c => (h, c)).map fun b => [.int b.1, .int b.2] := by
      unfold brkV
      rw [brkOf_of_perm hp, brk_flat hL.nk, srtI_uniq hy1 hy2]
    refine rd_ilB ?_ <;> walk_at "rd"
    have hL2 : CutsAt H2 d L := hL.keep (s_H1.trans s_H2)
    have hlt : ∀ h, (cutsL L h).length < 64 := fun h => Nat.lt_of_le_of_lt (cutsL_len h) (by rw [← hp.length_eq]; exact hlen)
    have npl : p ≠ l := fun e => by rw [e] at hp2; rw [hp2] at e_l; cases e_l
    refine forgo (walk_list (xs := ys.map V.int)) (fun i σ' H' => KeepB l H2 H' ∧ (∃ acc, H' l = some (.lst acc) ∧ acc.length ≤ 64 * i ∧ RowsAt H' acc (((ys.take i).flatMap fun h => (srtI (cutsL L h)).map fun c => (h, c)).map fun b => [.int b.1, .int b.2])) ∧ ∃ x2 x3, σ' = [some (.ref a), some (.ref l), x2, x3]) ?_ (fun i σ' H' _ p => (p.1).seqL (sqL_of e_p) npl) ?_ ?_
    · exact ⟨KeepB.refl _ _, ⟨[], by walk_at "hp", Nat.zero_le _, .nil⟩, _, _, rfl⟩
    · rintro i x σ' Ha Hb hi ⟨ka, ⟨acc, hla, hal, hacc⟩, x2, x3, rfl⟩ ⟨e0, hx⟩
      subst e0
      rw [List.length_map] at hi
      rw [List.getElem?_map] at hx
      obtain ⟨h, hh, rfl⟩ := Option.map_eq_some_iff.mp hx
      obtain ⟨t, ht, rfl⟩ := hym h (List.mem_of_getElem? hh)
      have hLt := hL2.hl t ht
      have ndl : d ≠ l := (ne_of hL2.hd (s_H2 _ _ e_l) nofun)
      have ntl : t.2.1 ≠ l := fun e => by
        have z := hL.hl t ht
        rw [e, n_l.e] at z
        cases z
      walk_at "rd"
      refine rd_tyL (sqL_of hla) ?_
      walk_at "rd"
      refine rd_dgtI (kvs := cutK L) (ka _ _ hL2.hd ndl) (valV_cutS hL.nk ht) ?_
      walk_at "rd"
      refine rd_srtI (ns := t.2.2) (sqL_of (ka _ _ hLt ntl)) fun zs p2 Hc hz1 hz2 hp3 s_Hc e_p2 => ?_
      obtain rfl := srtI_uniq hz1 hz2
      refine rd_ilB ?_ <;> walk_at "rd"
      have hcl : cutsL L t.1 = t.2.2 := cutsL_of hL.nk ht
      have h64 := hlt t.1
      rw [hcl] at h64
      have h64s : (srtI t.2.2).length < 64 := by rw [(srtI_perm _).length_eq]; exact h64
      refine lc_tups (xs := (srtI t.2.2).map V.int) (fun v => [.int t.1, v]) (by walk_at "sl") (by rw [List.length_map]; omega) (fun _ => rfl) (fun v hv Hx Qc s_Hx q' => ?_) fun D ps Hd n_D s_Hd e_D hr => ?_
      · obtain ⟨c2, hc2, rfl⟩ := List.mem_map.mp hv
        walk_at "rd"
        exact rd_tupT (by simp) q'
      · walk_at "rd"
        have sT : Same Hb Hd := s_Hc.trans s_Hd
        have hla2 : Hd l = some (.lst acc) := sT _ _ hla
        have hpl := hr.len
        rw [List.map_map, List.length_map] at hpl
        refine rd_extend hla2 e_D (by omega) ?_
        walk_at "rd"
        have et : ys.take (i + 1) = ys.take i ++ [t.1] := by rw [List.take_add_one, hh]; rfl
        refine ⟨(ka.trans (Same.keepB sT)).put, ⟨acc ++ ps, upd_same, by rw [List.length_append]; omega, ?_⟩, _, _, rfl⟩
        rw [et, List.flatMap_append, List.map_append, List.flatMap_cons, List.flatMap_nil, List.append_nil, hcl]
        have hr2 : RowsAt Hd ps (((srtI t.2.2).map fun c => (t.1, c)).map fun b => [.int b.1, .int b.2]) := by
          rw [List.map_map] at hr ⊢
          exact hr
        refine ((hacc.keep sT).app hr2).same fun b xs e => ?_
        rw [upd_ne (ne_of e hla2 nofun)]
        exact e
    · rintro σ' Ha ⟨ka, ⟨acc, hla, hal, hacc⟩, x2, x3, rfl⟩
      walk_at "rd"
      rw [List.length_map, List.take_length] at hacc
      rw [hbr] at q
      have sA : Same H Ha := fun b o e => ka b o (s_H2 _ _ (s_H1 _ _ e)) (ne_of_none e n_l.e)
      exact q l acc Ha n_l sA hla hacc
def sp_Ice_break_at (T : Tx K mg) : Sp := fun vs H Q E => ∃ a hv cv c since bs S, vs = [.ref a, hv, cv] ∧ IceAt T H a c since bs S ∧ bs.length < 64 ∧ ThingAt K H hv ∧ ThingAt K H cv ∧
  (∀ h k, hv = .int h → cv = .int k → since ≤ h → h ≤ 100000000 → 1 ≤ k → k ≤ 1000000 → ∀ S' H', KeepS S H H' → IceAt T H' a c since ((h, k) :: bs) S' → (∀ x ∈ S', x ∈ S ∨ H x = none) → Q .non H') ∧
  (withinV hv since 100000000 = false → ∀ d H', Same H H' → H' d = some (.xd [("found", hv)]) → E (.ref T.a_NoHour) (some d) H') ∧
  (withinV hv since 100000000 = true → withinV cv 1 1000000 = false → ∀ d H', Same H H' → H' d = some (.xd [("found", cv)]) → E (.ref T.a_NoNumber) (some d) H')
theorem ok_Ice_break_at (T : Tx K mg) : FnOk P w K mg base (L2.CX P w) 4 T.a_Ice_break_at T.d_Ice_break_at ["self", "hour", "cut"] (sp_Ice_break_at T) := by
  refine T.F_Ice_break_at.okX sc_Ice_break_at (fun vs H Q E h => ?_) (fun cdv A outer s H vs Q E hr h => ?_)
  · obtain ⟨a, hv, cv, c, since, bs, S, rfl, _⟩ := h
    rfl
  · refine ⟨_, (pss_cons (ps_expr (pe_methS (pv 0) T.cl_Ice T.me_Ice_need_breaking (ok_Ice_need_breaking T) (hr.mono (by decide)) T.b_Ice_need_breaking (fun σ => passAt (takes_of rfl rfl rfl rfl) σ) (pa_cons (pv 1) (pa_cons (pv 2) pa_nil))))
        (pss_cons (ps_if (pt_cmpR op_ge (pe_callB (lenK (K := K) rfl) (by rfl) T.m_len (by decide +kernel) (pa_cons (pe_meth0 (pv 0) T.cl_Ice T.me_Ice_breakings (ok_Ice_breakings T) (hr.mono (by decide)) T.b_Ice_breakings .nil pass0) pa_nil)) (C8.pe_gc rfl T.c_MOST_BREAKINGS) (nomark _))
        (pss_one (ps_raiseX rfl (takes_of rfl rfl rfl rfl) T.ox_TooMany T.ix_TooMany T.tx_TooMany (ok_TooMany___init__ T) (hr.mono (by decide)) T.b_TooMany___init__ rfl T.g_TooMany (pa_cons (pe_op op_add (C8.pe_gc rfl T.c_MOST_BREAKINGS) pe_int) pa_nil)))
        pss_nil)
        (pss_one (ps_dput (hu_of hr) (pe_fldK (K := K) rfl (pv 0)) (pv 1) (pe_op op_cat (pe_dget2 (hu_of hr) (pe_fldK (K := K) rfl (pv 0)) (pv 1) (pe_lst pa_nil) ⟨by rfl, by rfl, by rfl, by rfl⟩) (pe_lst (pa_cons (pv 2) pa_nil))) rfl)))), ?_⟩
    obtain ⟨a, hv, cv, c, since, bs, S, rfl, hI, hlen, hT1, hT2, q, q1, q2⟩ := h
    obtain ⟨ch, d, L, ⟨⟨dx, hA⟩, dy, hC⟩, hL, hp, rfl, hok, s0, s1, hbs⟩ := id hI
    walk_at "rd"
    refine ⟨a, hv, cv, c, ch, since, d, rfl, ⟨⟨dx, hA⟩, dy, hC⟩, hT1, hT2, fun hw hw2 => ?_, q1, q2⟩
    obtain ⟨h, rfl, h0, h1⟩ := within_int hw
    obtain ⟨k, rfl, k0, k1⟩ := within_int hw2
    walk_at "rd"
    refine ⟨a, c, since, bs, _, rfl, hI, hlen, fun p ps H1 n_p s_H1 e_p hr => ?_⟩
    have hpl := hr.len
    unfold brkV at hpl
    rw [List.length_map, (brkOf_perm bs).length_eq] at hpl
    walk_at "rd"
    refine rd_iteD (fun hc => absurd hc (by omega)) fun _ => ?_
    have hA1 := s_H1 _ _ hA
    have hL1 := hL.keep s_H1
    have hd1 := hL1.hd
    walk_at "rd"
    refine rd_lstB fun e0 H2 n_e0 s_H2 e_e0 => ?_ <;> walk_at "rd"
    have hL2 := hL1.keep s_H2
    have hd2 := hL2.hd
    have hA2 := s_H2 _ _ hA1
    obtain ⟨x0, ex, hx0⟩ : ∃ x0, (valV (cutK L) (Sum.inl h)).getD (.ref e0) = .ref x0 ∧ H2 x0 = some (.lst ((cutsL L h).map V.int)) := by
      rcases find_cut (L := L) (h := h) with ⟨t, ht, rfl⟩ | n
      · rw [valV_cutS hL.nk ht, cutsL_of hL.nk ht]
        exact ⟨_, rfl, hL2.hl t ht⟩
      · rw [valV_cutN n, cutsL_none n]
        exact ⟨_, rfl, e_e0⟩
    rw [ex]
    refine rd_lstB fun l1 H3 n_l1 s_H3 e_l1 => ?_ <;> walk_at "rd"
    have hcl := cutsL_len (L := L) h
    rw [← hp.length_eq] at hcl
    refine rd_catB (fun l H4 n_l s_H4 e_l => ?_) (s_H3 _ _ hx0) e_l1 (by rw [List.length_map]; simp; omega)
    have hA4 := s_H4 _ _ (s_H3 _ _ hA2)
    have hL4 := (hL2.keep s_H3).keep s_H4
    have hd4 := hL4.hd
    walk_at "rd"
    refine rd_dptI (kvs := cutK L) hd4 ?_ ?_
    · unfold cutK
      rw [List.length_map]
      have := flat_len hL.ne
      rw [← hp.length_eq] at this
      omega
    rw [putK_cut (c := k) hL.nk]
    walk_at "rd"
    have s04 : Same H H4 := ((s_H1.trans s_H2).trans s_H3).trans s_H4
    have n_lH : H l = none := none_of ((s_H1.trans s_H2).trans s_H3) n_l.e
    have nld : l ≠ d := (ne_of_none hL.hd n_lH).symm
    have KS : KeepS (fpC d L) H (upd H4 d (.dK (cutK (putCut L h l k)))) := (KeepS.of s04).put hL.hd rfl List.mem_cons_self
    have C' : CutsAt (upd H4 d (.dK (cutK (putCut L h l k)))) d (putCut L h l k) := by
      refine hL.put n_lH (fun t ht => ?_) upd_same ?_
      · rw [upd_ne (d_ne hL ht), hL.hl t ht]
        exact s04 _ _ (hL.hl t ht)
      · rw [upd_ne nld, List.map_append]
        exact e_l
    refine q h k rfl rfl h0 h1 k0 k1 (fpC d (putCut L h l k)) _ KS ⟨ch, d, _, (IceI.keepS ⟨⟨dx, hA⟩, dy, hC⟩ KS), C', ((List.Perm.cons _ hp).trans flat_put.symm), rfl, hok, s0, s1, hbs.cons h0 h1 k0 k1⟩ fun x hx => ?_
    rcases fp_put hx with m | m
    · exact .inl m
    · rw [m]
      exact .inr n_lH
theorem rd_break {T : Tx K mg} {a : Addr} {c : Ch} {since : Int} {bs : List (Int × Int)} {S : List Addr} {h k : Int} {Q : VK} {E : XK} {H : Hp} (hI : IceAt T H a c since bs S) (hl : bs.length < 64) (h0 : since ≤ h) (h1 : h ≤ 100000000) (k0 : 1 ≤ k) (k1 : k ≤ 1000000)
    (q : ∀ S' H', KeepS S H H' → IceAt T H' a c since ((h, k) :: bs) S' → (∀ x ∈ S', x ∈ S ∨ H x = none) → Q .non H') : sp_Ice_break_at T [.ref a, .int h, .int k] H Q E := by
  refine ⟨a, _, _, c, since, bs, S, rfl, hI, hl, trivial, trivial, fun h' k' e1 e2 _ _ _ _ => ?_, fun e => ?_, fun _ e => ?_⟩
  · cases e1
    cases e2
    exact q
  · rw [within_ok h0 h1] at e
    cases e
  · rw [within_ok k0 k1] at e
    cases e
def sp_Ice_mend_at (T : Tx K mg) : Sp := fun vs H Q E => ∃ a hv cv c since bs S, vs = [.ref a, hv, cv] ∧ IceAt T H a c since bs S ∧ bs.length < 64 ∧ ThingAt K H hv ∧ ThingAt K H cv ∧
  (∀ h k, hv = .int h → cv = .int k → (h, k) ∈ bs → ∀ S' H', KeepS S H H' → IceAt T H' a c since (bs.erase (h, k)) S' → (∀ x ∈ S', x ∈ S) → Q .non H') ∧
  (∀ h k, hv = .int h → cv = .int k → since ≤ h → h ≤ 100000000 → 1 ≤ k → k ≤ 1000000 → (h, k) ∉ bs → ∀ t d H', Same H H' → H' t = some (.tup [.int h, .int k]) → H' d = some (.xd [("found", .ref t)]) → E (.ref T.a_NoEntry) (some d) H') ∧
  (withinV hv since 100000000 = false → ∀ d H', Same H H' → H' d = some (.xd [("found", hv)]) → E (.ref T.a_NoHour) (some d) H') ∧
  (withinV hv since 100000000 = true → withinV cv 1 1000000 = false → ∀ d H', Same H H' → H' d = some (.xd [("found", cv)]) → E (.ref T.a_NoNumber) (some d) H')
theorem rd_nin {x : V} {p : Addr} {xs : List V} {Q : VK} {H : Hp} (h : SqL K H p xs) (f1 : flatV x = true) (f2 : xs.all flatV = true) (q : Q (.bl (!inV x xs)) H) : rIn K true x (.ref p) H Q := ⟨p, xs, rfl, .inl h, f1, f2, q⟩
theorem ok_Ice_mend_at (T : Tx K mg) : FnOk P w K mg base (L2.CX P w) 4 T.a_Ice_mend_at T.d_Ice_mend_at ["self", "hour", "cut"] (sp_Ice_mend_at T) := by
  refine T.F_Ice_mend_at.okX sc_Ice_mend_at (fun vs H Q E h => ?_) (fun cdv A outer s H vs Q E hr h => ?_)
  · obtain ⟨a, hv, cv, c, since, bs, S, rfl, _⟩ := h
    rfl
  · refine ⟨_, (pss_cons (ps_expr (pe_methS (pv 0) T.cl_Ice T.me_Ice_need_breaking (ok_Ice_need_breaking T) (hr.mono (by decide)) T.b_Ice_need_breaking (fun σ => passAt (takes_of rfl rfl rfl rfl) σ) (pa_cons (pv 1) (pa_cons (pv 2) pa_nil))))
        (pss_cons (ps_if (pt_cmpR (notInSeqK (K := K) rfl) (pv 2) (pe_dget2 (hu_of hr) (pe_fldK (K := K) rfl (pv 0)) (pv 1) (pe_lst pa_nil) ⟨by rfl, by rfl, by rfl, by rfl⟩) rfl)
        (pss_one (ps_raiseX rfl (takes_of rfl rfl rfl rfl) T.ox_NoEntry T.ix_NoEntry T.tx_NoEntry (ok_NoEntry___init__ T) (hr.mono (by decide)) T.b_NoEntry___init__ rfl T.g_NoEntry (pa_cons (pe_tup (pa_cons (pv 1) (pa_cons (pv 2) pa_nil))) pa_nil)))
        pss_nil)
        (pss_cons (ps_expr (pe_bm PySem.F.plainAttrs_list PySem.F.slot_list_remove PySem.F.type_list_remove mt_remove (pe_dget (hu_of hr) (pe_fldK (K := K) rfl (pv 0)) (pv 1) (fun _ _ => rfl)) (pa_cons (pv 2) pa_nil)))
        (pss_one (ps_if (pt_cmpR (eqW (K := K) rfl hr.units) (pe_dget (hu_of hr) (pe_fldK (K := K) rfl (pv 0)) (pv 1) (fun _ _ => rfl)) (pe_lst pa_nil) (nomark _))
        (pss_one (ps_expr (pe_dpop1 (pe_fldK (K := K) rfl (pv 0)) (pv 1) ⟨by rfl, by rfl, by rfl, by rfl⟩)))
        pss_nil))))), ?_⟩
    obtain ⟨a, hv, cv, c, since, bs, S, rfl, hI, hlen, hT1, hT2, q, q3, q1, q2⟩ := h
    obtain ⟨ch, d, L, ⟨⟨dx, hA⟩, dy, hC⟩, hL, hp, rfl, hok, s0, s1, hbs⟩ := id hI
    walk_at "rd"
    refine ⟨a, hv, cv, c, ch, since, d, rfl, ⟨⟨dx, hA⟩, dy, hC⟩, hT1, hT2, fun hw hw2 => ?_, q1, q2⟩
    obtain ⟨h, rfl, h0, h1⟩ := within_int hw
    obtain ⟨k, rfl, k0, k1⟩ := within_int hw2
    have hd := hL.hd
    walk_at "rd"
    refine rd_lstB fun e0 H2 n_e0 s_H2 e_e0 => ?_ <;> walk_at "rd"
    have hL2 := hL.keep s_H2
    have hd2 := hL2.hd
    have hA2 := s_H2 _ _ hA
    walk_at "rd"
    obtain ⟨x0, ex, hx0⟩ : ∃ x0, (valV (cutK L) (Sum.inl h)).getD (.ref e0) = .ref x0 ∧ H2 x0 = some (.lst ((cutsL L h).map V.int)) := by
      rcases find_cut (L := L) (h := h) with ⟨t, ht, rfl⟩ | n
      · rw [valV_cutS hL.nk ht, cutsL_of hL.nk ht]
        exact ⟨_, rfl, hL2.hl t ht⟩
      · rw [valV_cutN n, cutsL_none n]
        exact ⟨_, rfl, e_e0⟩
    rw [ex]
    refine rd_nin (sqL_of hx0) rfl all_flatI ?_
    rw [inV_int]
    walk_at "rd"
    refine rd_iteD (fun hm => ?_) (fun hm => ?_)
    · obtain ⟨t, ht, rfl⟩ : ∃ t ∈ L, t.1 = h := by
        rcases find_cut (L := L) (h := h) with e | n
        · exact e
        · rw [cutsL_none n] at hm
          cases hm
      have hlt := hL2.hl t ht
      have ntd := d_ne hL2 ht
      walk_at "rd"
      refine rd_dgtI (kvs := cutK L) hd2 (valV_cutS hL.nk ht) ?_
      refine rd_tyL (sqL_of hlt) ?_
      walk_at "rd"
      rw [cutsL_of hL.nk ht] at hm
      refine rd_remove hlt hm ?_
      have hA3 : (upd H2 t.2.1 (.lst ((t.2.2.erase k).map V.int))) a = some (.ins T.a_Ice dx (icF ch since d)) := by rw [upd_ne (ne_of hA2 hlt nofun)]; exact hA2
      have hd3 : (upd H2 t.2.1 (.lst ((t.2.2.erase k).map V.int))) d = some (.dK (cutK L)) := by rw [upd_ne ntd.symm]; exact hd2
      have ht3 : (upd H2 t.2.1 (.lst ((t.2.2.erase k).map V.int))) t.2.1 = some (.lst ((t.2.2.erase k).map V.int)) := upd_same
      have KS3 : KeepS (fpC d L) H (upd H2 t.2.1 (.lst ((t.2.2.erase k).map V.int))) := (KeepS.of s_H2).put (hL.hl t ht) rfl (List.mem_cons_of_mem _ (List.mem_map_of_mem ht))
      have o3 : ∀ u ∈ L, u.1 ≠ t.1 → (upd H2 t.2.1 (.lst ((t.2.2.erase k).map V.int))) u.2.1 = H u.2.1 := fun u hu ne => by
        rw [upd_ne (others hL ht hu ne), hL.hl u hu]
        exact s_H2 _ _ (hL.hl u hu)
      generalize upd H2 t.2.1 (.lst ((t.2.2.erase k).map V.int)) = H3 at hA3 hd3 ht3 KS3 o3
      walk_at "rd"
      refine rd_dgtI (kvs := cutK L) hd3 (valV_cutS hL.nk ht) ?_
      walk_at "rd"
      refine rd_lstB fun e1 H4 n_e1 s_H4 e_e1 => ?_ <;> walk_at "rd"
      have hmc : k ∈ cutsL L t.1 := by rw [cutsL_of hL.nk ht]; exact hm
      have hpm : (cutsL L t.1).Perm (k :: t.2.2.erase k) := by
        rw [cutsL_of hL.nk ht]
        exact List.perm_cons_erase hm
      have hmb : (t.1, k) ∈ bs := hp.mem_iff.mpr ((mem_cutsL hL.nk).mp hmc)
      have KS4 : KeepS (fpC d L) H H4 := KS3.trans (KeepS.of s_H4)
      have hbs' : BsOk since (bs.erase (t.1, k)) := hbs.sub fun b m => List.mem_of_mem_erase m
      by_cases he : t.2.2.erase k = []
      · refine rd_eqW (n := 1) (eqS_lst (sqL_of (s_H4 _ _ ht3)) (sqL_of e_e1) ?_) ?_
        · rw [he]
          exact AlkAll.nil
        walk_at "rd"
        have hA4 := s_H4 _ _ hA3
        have hd4 := s_H4 _ _ hd3
        walk_at "rd"
        refine rd_dppI (kvs := cutK L) hd4 (valV_cutS hL.nk ht) ?_
        walk_at "rd"
        rw [← cutK_set2 hL.nk ⟨t, ht, rfl⟩, ← he]
        have KS5 : KeepS (fpC d L) H (upd H4 d (.dK (cutK (setCut L t.1 (t.2.2.erase k))))) := KS4.put hL.hd rfl List.mem_cons_self
        refine q t.1 k rfl rfl hmb (fpC d (setCut L t.1 (t.2.2.erase k))) _ KS5 ⟨ch, d, _, IceI.keepS ⟨⟨dx, hA⟩, dy, hC⟩ KS5, ?_, bs_set hp ⟨t, ht, rfl⟩ hpm, rfl, hok, s0, s1, hbs'⟩ fun x hx => fp_set hx
        refine hL.set ht (fun u hu ne => ?_) upd_same fun e => absurd he e
        rw [upd_ne (d_ne hL hu), hL.hl u hu]
        exact s_H4 _ _ ((o3 u hu ne).trans (hL.hl u hu))
      · refine rd_eqWF (n := 1) (eqS_len (sqL_of (s_H4 _ _ ht3)) (sqL_of e_e1) (ne_of_none ht3 n_e1.e) ?_) ?_
        · rw [List.length_map]
          exact fun z => he (List.eq_nil_of_length_eq_zero z)
        walk_at "rd"
        refine q t.1 k rfl rfl hmb (fpC d (setCut L t.1 (t.2.2.erase k))) _ KS4 ⟨ch, d, _, IceI.keepS ⟨⟨dx, hA⟩, dy, hC⟩ KS4, ?_, bs_set hp ⟨t, ht, rfl⟩ hpm, rfl, hok, s0, s1, hbs'⟩ fun x hx => fp_set hx
        refine hL.set ht (fun u hu ne => ?_) ?_ fun e => s_H4 _ _ ht3
        · rw [hL.hl u hu]
          exact s_H4 _ _ ((o3 u hu ne).trans (hL.hl u hu))
        · rw [cutK_set1 he]
          exact s_H4 _ _ hd3
    · walk_at "rd"
      refine rd_tupB fun t H3 n_t s_H3 e_t => ?_ <;> walk_at "rd"
      refine rd_raise1 fun e he => ?_
      exact q3 h k rfl rfl h0 h1 k0 k1 (fun m => hm ((mem_cutsL hL.nk).mpr (hp.mem_iff.mp m))) t e _ ((s_H2.trans s_H3).trans (same_new he)) (same_new he _ _ e_t) upd_same
theorem rd_mend {T : Tx K mg} {a : Addr} {c : Ch} {since : Int} {bs : List (Int × Int)} {S : List Addr} {h k : Int} {Q : VK} {E : XK} {H : Hp} (hI : IceAt T H a c since bs S) (hl : bs.length < 64) (m : (h, k) ∈ bs)
    (q : ∀ S' H', KeepS S H H' → IceAt T H' a c since (bs.erase (h, k)) S' → (∀ x ∈ S', x ∈ S) → Q .non H') : sp_Ice_mend_at T [.ref a, .int h, .int k] H Q E := by
  obtain ⟨_, _, _, _, _, _, _, _, _, _, o⟩ := id hI
  refine ⟨a, _, _, c, since, bs, S, rfl, hI, hl, trivial, trivial, fun h' k' e1 e2 _ => ?_, fun h' k' e1 e2 _ _ _ _ n => ?_, fun e => ?_, fun _ e => ?_⟩
  · cases e1
    cases e2
    exact q
  · cases e1
    cases e2
    exact absurd m n
  · rw [within_ok (o.lo _ m) (o.hi _ m)] at e
    cases e
  · rw [within_ok (o.c0 _ m) (o.c1 _ m)] at e
    cases e
def sp_Ice_grown (T : Tx K mg) : Sp := fun vs H Q E => ∃ a c ch since d l g, vs = [.ref a, .int l, .int g] ∧ IceI T H a c ch since d ∧ chOk c ∧ Q (.int (grow (wyOf c since) l g)) H
theorem ok_Ice_grown (T : Tx K mg) : FnOk P w K mg base CX0 1 T.a_Ice_grown T.d_Ice_grown ["self", "level", "gap"] (sp_Ice_grown T) := by
  refine T.F_Ice_grown.ok sc_Ice_grown (fun vs H Q E h => ?_) (fun cdv A outer s H vs Q E hr h => ?_)
  · obtain ⟨a, c, ch, since, d, l, g, rfl, _⟩ := h
    rfl
  · refine ⟨_, (pss_one (ps_ret (pe_callB (min2 rfl) (by rfl) T.m_min (by decide +kernel) (pa_cons (pe_fldK (K := K) rfl (pe_fldK (K := K) rfl (pv 0))) (pa_cons (pe_op op_add (pv 1) (pe_op op_mul (pe_fldK (K := K) rfl (pe_fldK (K := K) rfl (pv 0))) (pv 2))) pa_nil))))), ?_⟩
    obtain ⟨a, c, ch, since, d, l, g, rfl, ⟨⟨dx, hA⟩, dy, hC⟩, hok, q⟩ := h
    unfold chOk at hok
    walk_at "rd"
    refine rd_I (.inl ⟨by omega, by omega⟩) ?_
    walk_at "rd"
    refine rd_min2 fun m hm => ?_ <;> walk_at "rd"
    rw [show m = grow (wyOf c since) l g by show m = min c.most (l + c.growth * g); omega]
    exact q
def sp_Ice_rows (T : Tx K mg) : Sp := fun vs H Q E => ∃ a c since bs S, vs = [.ref a] ∧ IceAt T H a c since bs S ∧ bs.length < 64 ∧ ∀ p ps H', Nn H p → Same H H' → H' p = some (.lst ps) → RowsAt H' ps (rowsV (wyOf c since) bs) → Q (.ref p) H'
theorem ok_Ice_rows (T : Tx K mg) : FnOk P w K mg base CX0 2 T.a_Ice_rows T.d_Ice_rows ["self"] (sp_Ice_rows T) := by
  refine T.F_Ice_rows.ok sc_Ice_rows (fun vs H Q E h => ?_) (fun cdv A outer s H vs Q E hr h => ?_)
  · obtain ⟨a, c, since, bs, S, rfl, _⟩ := h
    rfl
  · refine ⟨_, (pss_cons (ps_set (i := 1) sc_Ice_rows.nd rfl (Or.inl rfl) (pe_lst pa_nil))
        (pss_cons (ps_set (i := 2) sc_Ice_rows.nd rfl (Or.inl rfl) (pe_fldK (K := K) rfl (pv 0)))
        (pss_cons (ps_set (i := 3) sc_Ice_rows.nd rfl (Or.inl rfl) (pe_fldK (K := K) rfl (pe_fldK (K := K) rfl (pv 0))))
        (pss_cons (ps_for PassesOwn.never rfl (pi_listK (K := K) rfl (pe_callB (sortDI rfl) (by rfl) T.m_sorted (by decide +kernel) (pa_cons (pe_fldK (K := K) rfl (pv 0)) pa_nil))) (pg_name (i := 4) sc_Ice_rows.nd rfl (Or.inl rfl))
        (pss_cons (ps_set (i := 5) sc_Ice_rows.nd rfl (Or.inl rfl) (pe_meth (pv 0) T.cl_Ice T.me_Ice_grown (ok_Ice_grown T) (hr.mono (by decide)) T.b_Ice_grown .nil pass0 (pa_cons (pv 3) (pa_cons (pe_op op_sub (pv 4) (pv 2)) pa_nil))))
        (pss_cons (ps_set (i := 3) sc_Ice_rows.nd rfl (Or.inl rfl) (pe_callB (max2 rfl) (by rfl) T.m_max (by decide +kernel) (pa_cons pe_int (pa_cons (pe_op op_sub (pv 5) (pe_callB (sumK (K := K) rfl rfl) (by rfl) T.m_sum (by decide +kernel) (pa_cons (pe_dget (hu_of hr) (pe_fldK (K := K) rfl (pv 0)) (pv 4) (fun _ _ => rfl)) pa_nil))) pa_nil))))
        (pss_cons (ps_set (i := 2) sc_Ice_rows.nd rfl (Or.inl rfl) (pv 4))
        (pss_one (ps_expr (pe_bm PySem.F.plainAttrs_list PySem.F.slot_list_append PySem.F.type_list_append mt_append (pv 1) (pa_cons (pe_tup (pa_cons (pv 4) (pa_cons (pv 5) (pa_cons (pv 3) pa_nil)))) pa_nil))))))))
        (pss_one (ps_ret (pv 1))))))), ?_⟩
    obtain ⟨a, c, since, bs, S, rfl, ⟨ch, d, L, ⟨⟨dx, hA⟩, dy, hC⟩, hL, hp, rfl, hok, s0, s1, hbs⟩, hlen, q⟩ := h
    have hd := hL.hd
    have ok := wyOk (s := since) hok
    have hle : L.length < 64 := Nat.lt_of_le_of_lt (flat_len hL.ne) (by rw [← hp.length_eq]; exact hlen)
    walk_at "rd"
    refine rd_lstB fun l H1 n_l s_H1 e_l => ?_ <;> walk_at "rd"
    walk_at "rd"
    refine rd_srtDI (kvs := cutK L) (ks := L.map (·.1)) (by walk_at "hp") (cutK_keys L) (by rw [List.length_map]; exact hle) fun ys p H2 hy1 hy2 hp2 s_H2 e_p => ?_
    have hym : ∀ h ∈ ys, ∃ t ∈ L, t.1 = h := fun h m => by simpa using hy1.mem_iff.mp m
    have hyl : ys.length < 64 := by rw [hy1.length_eq, List.length_map]; exact hle
    have hys : ys = hoursOf bs := by rw [hoursOf_perm hp, hours_flat hL.nk hL.ne, srtI_uniq hy1 hy2]
    refine rd_ilB ?_ <;> walk_at "rd"
    have hL2 : CutsAt H2 d L := hL.keep (s_H1.trans s_H2)
    have npl : p ≠ l := fun e => by rw [e] at hp2; rw [hp2] at e_l; cases e_l
    refine forgo (walk_list (xs := ys.map V.int)) (fun i σ' H' => KeepB l H2 H' ∧ (∃ acc, H' l = some (.lst acc) ∧ acc.length = i ∧ RowsAt H' acc ((ys.take i).map fun h => [.int h, .int (aH (wyOf c since) bs h), .int (bH (wyOf c since) bs h)])) ∧ ∃ at_ lv x4 x5, StepAt (wyOf c since) bs i at_ lv ∧ σ' = [some (.ref a), some (.ref l), some (.int at_), some (.int lv), x4, x5]) ?_ (fun i σ' H' _ p => (p.1).seqL (sqL_of e_p) npl) ?_ ?_
    · exact ⟨KeepB.refl _ _, ⟨[], by walk_at "hp", rfl, .nil⟩, _, _, _, _, .inl ⟨rfl, rfl, rfl⟩, rfl⟩
    · rintro i x σ' Ha Hb hi ⟨ka, ⟨acc, hla, hal, hacc⟩, at_, lv, x4, x5, st, rfl⟩ ⟨e0, hx⟩
      subst e0
      rw [List.length_map] at hi
      rw [List.getElem?_map] at hx
      obtain ⟨h, hh, rfl⟩ := Option.map_eq_some_iff.mp hx
      obtain ⟨t, ht, rfl⟩ := hym h (List.mem_of_getElem? hh)
      have hLt := hL2.hl t ht
      have ndl : d ≠ l := (ne_of hL2.hd (s_H2 _ _ e_l) nofun)
      have ntl : t.2.1 ≠ l := fun e => by
        have z := hL.hl t ht
        rw [e, n_l.e] at z
        cases z
      have hAb : Hb a = some (.ins T.a_Ice dx (icF ch since d)) := ka _ _ (s_H2 _ _ (s_H1 _ _ hA)) (ne_of (s_H2 _ _ (s_H1 _ _ hA)) (s_H2 _ _ e_l) nofun)
      have hCb : Hb ch = some (.ins T.a_Channel dy (chF c)) := ka _ _ (s_H2 _ _ (s_H1 _ _ hC)) (ne_of (s_H2 _ _ (s_H1 _ _ hC)) (s_H2 _ _ e_l) nofun)
      have hdb := ka _ _ hL2.hd ndl
      have hlb := ka _ _ hLt ntl
      walk_at "rd"
      refine ⟨a, c, ch, since, d, _, _, rfl, ⟨⟨dx, hAb⟩, dy, hCb⟩, hok, ?_⟩
      rw [grow_step ok hbs.lo (hys ▸ hh) st]
      walk_at "rd"
      refine rd_dgtI (kvs := cutK L) hdb (valV_cutS hL.nk ht) ?_
      walk_at "rd"
      refine rd_sum (ns := t.2.2) (sqL_of hlb) ?_
      walk_at "rd"
      refine rd_max2 fun m hm => ?_ <;> walk_at "rd"
      have hb : since ≤ t.1 := by
        obtain ⟨b, hb, e⟩ := mem_hoursOf.mp (hys ▸ List.mem_of_getElem? hh)
        rw [← e]
        exact hbs.lo b hb
      have es : cutSum bs t.1 = t.2.2.sum := by rw [cutSum_perm hp, cutSum_flat hL.nk, cutsL_of hL.nk ht]
      have em : m = bH (wyOf c since) bs t.1 := by
        rw [bH_eq (w := wyOf c since) hb, es]
        omega
      subst em
      walk_at "rd"
      refine rd_tyL (sqL_of hla) ?_
      walk_at "rd"
      refine rd_tupB fun t2 Hc n_t2 s_Hc e_t2 => ?_ <;> walk_at "rd"
      refine rd_append (s_Hc _ _ hla) (by omega) ?_
      walk_at "rd"
      have et : ys.take (i + 1) = ys.take i ++ [t.1] := by rw [List.take_add_one, hh]; rfl
      refine ⟨(ka.trans (Same.keepB s_Hc)).put, ⟨acc ++ [.ref t2], upd_same, by rw [List.length_append, hal]; rfl, ?_⟩, _, _, _, _, .inr ⟨i, rfl, hys ▸ hh, rfl⟩, rfl⟩
      rw [et, List.map_append]
      refine ((hacc.keep s_Hc).snoc e_t2).same fun b xs e => ?_
      rw [upd_ne (ne_of e (s_Hc _ _ hla) nofun)]
      exact e
    · rintro σ' Ha ⟨ka, ⟨acc, hla, hal, hacc⟩, at_, lv, x4, x5, st, rfl⟩
      walk_at "rd"
      rw [List.length_map, List.take_length, hys] at hacc
      have sA : Same H Ha := fun b o e => ka b o (s_H2 _ _ (s_H1 _ _ e)) (ne_of_none e n_l.e)
      exact q l acc Ha n_l sA hla hacc
theorem rowsV_get {w : Wy} {bs : List (Int × Int)} {i : Nat} {r : List V} (h : (rowsV w bs)[i]? = some r) : ∃ k, (hoursOf bs)[i]? = some k ∧ r = [.int k, .int (aH w bs k), .int (bH w bs k)] := by
  unfold rowsV at h
  rw [List.getElem?_map] at h
  obtain ⟨k, hk, rfl⟩ := Option.map_eq_some_iff.mp h
  exact ⟨k, hk, rfl⟩
theorem since_cut {L : CutT} {bs : List (Int × Int)} {h : Int} (n : (L.map (·.1)).Nodup) (ne : ∀ t ∈ L, t.2.2 ≠ []) (p : bs.Perm (flat L)) : (valV (cutK L) (Sum.inl h)).isSome = decide (h ∈ hoursOf bs) := by
  rw [hoursOf_perm p, hours_flat n ne, valV_cut, Option.isSome_map]
  rw [eq_comm, List.isSome_find?]
  rw [show decide (h ∈ srtI (L.map (·.1))) = decide (h ∈ L.map (·.1)) from decide_eq_decide.mpr (srtI_perm _).mem_iff]
  rw [Bool.eq_iff_iff]
  simp
def sp_Ice_bases (T : Tx K mg) : Sp := fun vs H Q E => ∃ a c since bs S, vs = [.ref a] ∧ IceAt T H a c since bs S ∧ bs.length < 64 ∧ ∀ p ps H', Nn H p → Same H H' → H' p = some (.lst ps) → RowsAt H' ps (baseV (wyOf c since) bs) → Q (.ref p) H'
theorem ok_Ice_bases (T : Tx K mg) : FnOk P w K mg base CX0 3 T.a_Ice_bases T.d_Ice_bases ["self"] (sp_Ice_bases T) := by
  refine T.F_Ice_bases.ok sc_Ice_bases (fun vs H Q E h => ?_) (fun cdv A outer s H vs Q E hr h => ?_)
  · obtain ⟨a, c, since, bs, S, rfl, _⟩ := h
    rfl
  · refine ⟨_, (pss_cons (ps_setLc (i := 1) (own := [("hour", 2), ("ahead", 3), ("behind", 4)]) (g := (gTup K 3 (gCons (gName 2) (gCons (gName 3) (gCons (gName 4) gNil))))) (tt := tYes) rfl sc_Ice_bases.nd rfl rfl (sw_true rfl rfl rfl (by decide +kernel)) (pi_listK (K := K) rfl (pe_meth0 (pv 0) T.cl_Ice T.me_Ice_rows (ok_Ice_rows T) (hr.mono (by decide)) T.b_Ice_rows .nil pass0)) (blkOk_by (own := [("hour", 2), ("ahead", 3), ("behind", 4)]) (N := N_Ice_bases) (sc := defScope s_Ice_bases) (by decide +kernel)) (fun _ _ _ _ _ => (pg_tup rfl (pgs_cons (pg_name (i := 2) sc_Ice_bases.nd rfl (Or.inl rfl)) (pgs_cons (pg_name (i := 3) sc_Ice_bases.nd rfl (Or.inl rfl)) (pgs_cons (pg_name (i := 4) sc_Ice_bases.nd rfl (Or.inl rfl)) pgs_nil))))) (fun _ _ _ _ _ => pts_nil) (fun _ _ _ _ _ => (pe_frm (pe_tup (pa_cons (pv 2) (pa_cons (pv 4) pa_nil))))))
        (pss_cons (ps_if (pt_cmp (pc_din (hu_of hr) (pe_fldK (K := K) rfl (pv 0)) (pe_fldK (K := K) rfl (pv 0))))
        (pss_one (ps_ret (pv 1)))
        pss_nil)
        (pss_one (ps_ret (pe_op op_cat (pe_lst (pa_cons (pe_tup (pa_cons (pe_fldK (K := K) rfl (pv 0)) (pa_cons (pe_fldK (K := K) rfl (pe_fldK (K := K) rfl (pv 0))) pa_nil))) pa_nil)) (pv 1)))))), ?_⟩
    obtain ⟨a, c, since, bs, S, rfl, hI, hlen, q⟩ := h
    obtain ⟨ch, d, L, ⟨⟨dx, hA⟩, dy, hC⟩, hL, hp, rfl, hok, s0, s1, hbs⟩ := id hI
    have ok := wyOk (s := since) hok
    walk_at "rd"
    refine ⟨a, c, since, bs, _, rfl, hI, hlen, fun p ps H1 n_p s_H1 e_p hr => ?_⟩
    have hlr : ps.length = (hoursOf bs).length := by
      have := hr.len
      unfold rowsV at this
      rw [List.length_map] at this
      exact this
    have hl64 := hours_len0 (bs := bs)
    refine rd_ilB ?_ <;> walk_at "rd"
    refine lc_rows (walk_list (xs := ps)) (by omega) (fun i x => ps[i]? = some x) (fun i H x H' _ _ y => y) (fun Hx s => s.seq (sqL_of e_p)) (fun i x => [some (.ref a), none, some (.int ((hoursOf bs)[i]?.getD 0)), some (.int (aH (wyOf c since) bs ((hoursOf bs)[i]?.getD 0))), some (.int (bH (wyOf c since) bs ((hoursOf bs)[i]?.getD 0)))]) (fun _ => true) (fun i => [.int ((hoursOf bs)[i]?.getD 0), .int (bH (wyOf c since) bs ((hoursOf bs)[i]?.getD 0))]) ?_ ?_
    · rintro i x Hx hi s_Hx yx
      obtain ⟨t, r, rfl, hri, ht⟩ := hr.get yx
      obtain ⟨k, hk, rfl⟩ := rowsV_get hri
      rw [hk]
      refine ⟨rfl, fun P p => ?_, fun P p => p, fun _ Qc q' => ?_⟩
      · refine rd_gtup (sqT_of (s_Hx _ _ ht)) rfl ?_
        walk_at "rd"
        exact p
      · walk_at "rd"
        exact rd_tupT (by simp) q'
    · intro D qs H2 n_D s_H2 e_D hr2
      have er : ((List.range ps.length).filter fun _ => true).map (fun i => [V.int ((hoursOf bs)[i]?.getD 0), .int (bH (wyOf c since) bs ((hoursOf bs)[i]?.getD 0))]) = (hoursOf bs).map fun h => [V.int h, .int (bH (wyOf c since) bs h)] := by
        rw [filter_true, hlr]
        exact range_map fun i x e => by rw [e]; rfl
      rw [er] at hr2
      have s02 := s_H1.trans s_H2
      have hA2 := s02 _ _ hA
      have hC2 := s02 _ _ hC
      have hd2 := s02 _ _ hL.hd
      walk_at "rd"
      rw [since_cut hL.nk hL.ne hp]
      have hlq := hr2.len
      rw [List.length_map] at hlq
      refine rd_iteD (fun hin => ?_) (fun hin => ?_) <;> walk_at "rd"
      · walk_at "rd"
        refine q D qs H2 ⟨none_of s_H1 n_D.e⟩ s02 e_D ?_
        unfold baseV baseH
        rw [if_pos (show (wyOf c since).since ∈ hoursOf bs from hin)]
        exact hr2
      · walk_at "rd"
        refine rd_tupB fun t H3 n_t s_H3 e_t => ?_ <;> walk_at "rd"
        refine rd_lstB fun l H4 n_l s_H4 e_l => ?_ <;> walk_at "rd"
        refine rd_catB fun p5 H5 n_p5 s_H5 e_p5 => ?_ <;> walk_at "rd"
        refine q p5 _ H5 ⟨none_of ((s02.trans s_H3).trans s_H4) n_p5.e⟩ (((s02.trans s_H3).trans s_H4).trans s_H5) e_p5 ?_
        unfold baseV baseH
        rw [if_neg (show (wyOf c since).since ∉ hoursOf bs from hin), List.map_cons]
        refine .cons ?_ (hr2.keep ((s_H3.trans s_H4).trans s_H5))
        rw [(s_H4.trans s_H5) _ _ e_t, bH_begin ok hin]
        rfl
def sp_Ice_thick (T : Tx K mg) : Sp := fun vs H Q E => ∃ a v c since bs S, vs = [.ref a, v] ∧ IceAt T H a c since bs S ∧ bs.length < 64 ∧ ThingAt K H v ∧
  (∀ h, v = .int h → since ≤ h → h ≤ 1000000000 → ∀ H', Same H H' → Q (.int (bH (wyOf c since) bs h)) H') ∧
  (withinV v since 1000000000 = false → ∀ d H', Same H H' → H' d = some (.xd [("found", v)]) → E (.ref T.a_NoHour) (some d) H')
theorem ok_Ice_thick (T : Tx K mg) : FnOk P w K mg base (L2.CX P w) 4 T.a_Ice_thick T.d_Ice_thick ["self", "hour"] (sp_Ice_thick T) := by
  refine T.F_Ice_thick.okX sc_Ice_thick (fun vs H Q E h => ?_) (fun cdv A outer s H vs Q E hr h => ?_)
  · obtain ⟨a, v, c, since, bs, S, rfl, _⟩ := h
    rfl
  · refine ⟨_, (pss_cons (ps_expr (pe_methS (pv 0) T.cl_Ice T.me_Ice_need_hour (ok_Ice_need_hour T) (hr.mono (by decide)) T.b_Ice_need_hour (fun σ => passAt (takes_of rfl rfl rfl rfl) σ) (pa_cons (pv 1) pa_nil)))
        (pss_cons (ps_asg (pe_ix (ixLK (K := K) rfl) (pe_lc (own := [("base", 4)]) (g := gName 4) rfl sc_Ice_thick.nd (pi_listK (K := K) rfl (pe_meth0 (pv 0) T.cl_Ice T.me_Ice_bases (ok_Ice_bases T) (hr.mono (by decide)) T.b_Ice_bases .nil pass0)) (blkOk_by (own := [("base", 4)]) (N := N_Ice_thick) (sc := defScope s_Ice_thick) (by decide +kernel)) (fun _ _ _ _ _ => (pg_name (i := 4) sc_Ice_thick.nd rfl (Or.inl rfl))) (fun _ _ _ _ _ => (pts_one (pt_cmpR op_le (pe_ix (ixK (K := K) rfl) (pv 4) pe_int (fun _ _ => rfl)) (pv 1) (nomark _)))) (fun _ _ _ _ _ => (pe_frm (pv 4)))) (pe_un un_neg pe_int) (fun _ _ => rfl)) (pg_tup rfl (pgs_cons (pg_name (i := 2) sc_Ice_thick.nd rfl (Or.inl rfl)) (pgs_cons (pg_name (i := 3) sc_Ice_thick.nd rfl (Or.inl rfl)) pgs_nil))))
        (pss_one (ps_ret (pe_meth (pv 0) T.cl_Ice T.me_Ice_grown (ok_Ice_grown T) (hr.mono (by decide)) T.b_Ice_grown .nil pass0 (pa_cons (pv 3) (pa_cons (pe_op op_sub (pv 1) (pv 2)) pa_nil))))))), ?_⟩
    obtain ⟨a, v, c, since, bs, S, rfl, hI, hlen, hT, q, q1⟩ := h
    obtain ⟨ch, d, L, ⟨⟨dx, hA⟩, dy, hC⟩, hL, hp, rfl, hok, s0, s1, hbs⟩ := id hI
    have ok := wyOk (s := since) hok
    walk_at "rd"
    refine ⟨a, v, c, ch, since, d, rfl, ⟨⟨dx, hA⟩, dy, hC⟩, hT, fun hw => ?_, q1⟩
    obtain ⟨h, rfl, h0, h1⟩ := within_int hw
    walk_at "rd"
    refine ⟨a, c, since, bs, _, rfl, hI, hlen, fun p ps H1 n_p s_H1 e_p hr => ?_⟩
    refine rd_ilB ?_ <;> walk_at "rd"
    refine lcgo_filt (walk_list (xs := ps)) rfl (base_small hr hlen) (onTup H1 (onFst fun k => decide (k ≤ h))) id (fun i H x H' _ _ y => y) (fun _ => rfl) (fun acc D hD => (same_new hD).seq (sqL_of e_p)) (fun x hx acc D P hD hP => ?_) (fun x hx _ Q' q' => ?_) fun D hD => ?_
    · obtain ⟨t, r, rfl, hri, ht⟩ := hr.mem hx
      obtain ⟨k, rfl⟩ := baseV_mem hri
      have et : onTup H1 (onFst fun k => decide (k ≤ h)) (.ref t) = decide (k ≤ h) := onTup_eq ht
      rw [et] at hP
      have ht2 := same_new (o := .lst acc) hD t _ ht
      walk_at "rd"
      exact hP
    · walk_at "rd"
      exact q'
    obtain ⟨pre, z, ez, hz0, hz1, eg⟩ := base_last ok hbs.lo hbs.nn h0
    have hrf := hr.filter (H1 := H1) (onFst fun k => decide (k ≤ h)) fun _ _ e => e
    have ef : (baseV (wyOf c since) bs).filter (onFst fun k => decide (k ≤ h)) = (pre.map fun k => [V.int k, .int (bH (wyOf c since) bs k)]) ++ [[V.int z, .int (bH (wyOf c since) bs z)]] := by
      unfold baseV
      rw [List.filter_map]
      show ((baseH (wyOf c since).since bs).filter fun k => decide (k ≤ h)).map _ = _
      rw [ez, List.map_append]
      rfl
    rw [ef] at hrf
    obtain ⟨qs, t, eq, hq2, ht⟩ := hrf.last
    rw [List.map_id, eq]
    have s2 : Same H (upd H1 D (.lst (qs ++ [.ref t]))) := s_H1.trans (same_new hD)
    have ht2 := same_new (o := .lst (qs ++ [.ref t])) hD t _ ht
    have hD2 : (upd H1 D (.lst (qs ++ [.ref t]))) D = some (.lst (qs ++ [.ref t])) := upd_same
    generalize upd H1 D (.lst (qs ++ [.ref t])) = H2 at s2 ht2 hD2
    walk_at "rd"
    refine rd_ixL1 (xs := qs ++ [.ref t]) (sqL_of hD2) (atI_last _ _) ?_
    refine rd_gtup (sqT_of ht2) rfl ?_
    walk_at "rd"
    refine ⟨a, c, ch, since, d, _, _, rfl, ⟨⟨dx, s2 _ _ hA⟩, dy, s2 _ _ hC⟩, hok, ?_⟩
    rw [eg]
    walk_at "rd"
    exact q h rfl h0 h1 _ s2
theorem rd_thick {T : Tx K mg} {a : Addr} {c : Ch} {since : Int} {bs : List (Int × Int)} {S : List Addr} {h : Int} {Q : VK} {E : XK} {H : Hp} (hI : IceAt T H a c since bs S) (hl : bs.length < 64) (h0 : since ≤ h) (h1 : h ≤ 1000000000)
    (q : ∀ H', Same H H' → Q (.int (bH (wyOf c since) bs h)) H') : sp_Ice_thick T [.ref a, .int h] H Q E := by
  refine ⟨a, _, c, since, bs, S, rfl, hI, hl, trivial, fun h' e1 _ _ => ?_, fun e => ?_⟩
  · cases e1
    exact q
  · rw [within_ok h0 h1] at e
    cases e
def sp_Ice_ahead (T : Tx K mg) : Sp := fun vs H Q E => ∃ a v c since bs S, vs = [.ref a, v] ∧ IceAt T H a c since bs S ∧ bs.length < 64 ∧ ThingAt K H v ∧
  (∀ h, v = .int h → since ≤ h → h ≤ 1000000000 → ∀ H', Same H H' → Q (.int (aH (wyOf c since) bs h)) H') ∧
  (withinV v since 1000000000 = false → ∀ d H', Same H H' → H' d = some (.xd [("found", v)]) → E (.ref T.a_NoHour) (some d) H')
theorem ok_Ice_ahead (T : Tx K mg) : FnOk P w K mg base (L2.CX P w) 4 T.a_Ice_ahead T.d_Ice_ahead ["self", "hour"] (sp_Ice_ahead T) := by
  refine T.F_Ice_ahead.okX sc_Ice_ahead (fun vs H Q E h => ?_) (fun cdv A outer s H vs Q E hr h => ?_)
  · obtain ⟨a, v, c, since, bs, S, rfl, _⟩ := h
    rfl
  · refine ⟨_, (pss_cons (ps_expr (pe_methS (pv 0) T.cl_Ice T.me_Ice_need_hour (ok_Ice_need_hour T) (hr.mono (by decide)) T.b_Ice_need_hour (fun σ => passAt (takes_of rfl rfl rfl rfl) σ) (pa_cons (pv 1) pa_nil)))
        (pss_cons (ps_if (pt_cmpR op_eq (pv 1) (pe_fldK (K := K) rfl (pv 0)) (nomark _))
        (pss_one (ps_ret (pe_fldK (K := K) rfl (pe_fldK (K := K) rfl (pv 0)))))
        pss_nil)
        (pss_cons (ps_asg (pe_ix (ixLK (K := K) rfl) (pe_lc (own := [("base", 4)]) (g := gName 4) rfl sc_Ice_ahead.nd (pi_listK (K := K) rfl (pe_meth0 (pv 0) T.cl_Ice T.me_Ice_bases (ok_Ice_bases T) (hr.mono (by decide)) T.b_Ice_bases .nil pass0)) (blkOk_by (own := [("base", 4)]) (N := N_Ice_ahead) (sc := defScope s_Ice_ahead) (by decide +kernel)) (fun _ _ _ _ _ => (pg_name (i := 4) sc_Ice_ahead.nd rfl (Or.inl rfl))) (fun _ _ _ _ _ => (pts_one (pt_cmpR op_lt (pe_ix (ixK (K := K) rfl) (pv 4) pe_int (fun _ _ => rfl)) (pv 1) (nomark _)))) (fun _ _ _ _ _ => (pe_frm (pv 4)))) (pe_un un_neg pe_int) (fun _ _ => rfl)) (pg_tup rfl (pgs_cons (pg_name (i := 2) sc_Ice_ahead.nd rfl (Or.inl rfl)) (pgs_cons (pg_name (i := 3) sc_Ice_ahead.nd rfl (Or.inl rfl)) pgs_nil))))
        (pss_one (ps_ret (pe_meth (pv 0) T.cl_Ice T.me_Ice_grown (ok_Ice_grown T) (hr.mono (by decide)) T.b_Ice_grown .nil pass0 (pa_cons (pv 3) (pa_cons (pe_op op_sub (pv 1) (pv 2)) pa_nil)))))))), ?_⟩
    obtain ⟨a, v, c, since, bs, S, rfl, hI, hlen, hT, q, q1⟩ := h
    obtain ⟨ch, d, L, ⟨⟨dx, hA⟩, dy, hC⟩, hL, hp, rfl, hok, s0, s1, hbs⟩ := id hI
    have ok := wyOk (s := since) hok
    walk_at "rd"
    refine ⟨a, v, c, ch, since, d, rfl, ⟨⟨dx, hA⟩, dy, hC⟩, hT, fun hw => ?_, q1⟩
    obtain ⟨h, rfl, h0, h1⟩ := within_int hw
    walk_at "rd"
    refine rd_iteD (fun hs => ?_) (fun hs => ?_) <;> walk_at "rd"
    · have hs : h = since := V.int.inj hs
      walk_at "rd"
      have q := q h rfl h0 h1 H (Same.refl H)
      rw [hs, show aH (wyOf c since) bs since = c.first from aH_first (w := wyOf c since)] at q
      exact q
    have hs : h ≠ since := fun e => hs (congrArg V.int e)
    walk_at "rd"
    refine ⟨a, c, since, bs, _, rfl, hI, hlen, fun p ps H1 n_p s_H1 e_p hr => ?_⟩
    refine rd_ilB ?_ <;> walk_at "rd"
    refine lcgo_filt (walk_list (xs := ps)) rfl (base_small hr hlen) (onTup H1 (onFst fun k => decide (k < h))) id (fun i H x H' _ _ y => y) (fun _ => rfl) (fun acc D hD => (same_new hD).seq (sqL_of e_p)) (fun x hx acc D P hD hP => ?_) (fun x hx _ Q' q' => ?_) fun D hD => ?_
    · obtain ⟨t, r, rfl, hri, ht⟩ := hr.mem hx
      obtain ⟨k, rfl⟩ := baseV_mem hri
      have et : onTup H1 (onFst fun k => decide (k < h)) (.ref t) = decide (k < h) := onTup_eq ht
      rw [et] at hP
      have ht2 := same_new (o := .lst acc) hD t _ ht
      walk_at "rd"
      exact hP
    · walk_at "rd"
      exact q'
    obtain ⟨pre, z, ez, hz0, hz1, eg⟩ := base_ahead ok hbs.lo (show (wyOf c since).since < h by show since < h; omega)
    have hrf := hr.filter (H1 := H1) (onFst fun k => decide (k < h)) fun _ _ e => e
    have ef : (baseV (wyOf c since) bs).filter (onFst fun k => decide (k < h)) = (pre.map fun k => [V.int k, .int (bH (wyOf c since) bs k)]) ++ [[V.int z, .int (bH (wyOf c since) bs z)]] := by
      unfold baseV
      rw [List.filter_map]
      show ((baseH (wyOf c since).since bs).filter fun k => decide (k < h)).map _ = _
      rw [ez, List.map_append]
      rfl
    rw [ef] at hrf
    obtain ⟨qs, t, eq, hq2, ht⟩ := hrf.last
    rw [List.map_id, eq]
    have s2 : Same H (upd H1 D (.lst (qs ++ [.ref t]))) := s_H1.trans (same_new hD)
    have ht2 := same_new (o := .lst (qs ++ [.ref t])) hD t _ ht
    have hD2 : (upd H1 D (.lst (qs ++ [.ref t]))) D = some (.lst (qs ++ [.ref t])) := upd_same
    generalize upd H1 D (.lst (qs ++ [.ref t])) = H2 at s2 ht2 hD2
    walk_at "rd"
    refine rd_ixL1 (xs := qs ++ [.ref t]) (sqL_of hD2) (atI_last _ _) ?_
    refine rd_gtup (sqT_of ht2) rfl ?_
    walk_at "rd"
    refine ⟨a, c, ch, since, d, _, _, rfl, ⟨⟨dx, s2 _ _ hA⟩, dy, s2 _ _ hC⟩, hok, ?_⟩
    rw [eg]
    walk_at "rd"
    exact q h rfl h0 h1 _ s2
theorem rd_ahead {T : Tx K mg} {a : Addr} {c : Ch} {since : Int} {bs : List (Int × Int)} {S : List Addr} {h : Int} {Q : VK} {E : XK} {H : Hp} (hI : IceAt T H a c since bs S) (hl : bs.length < 64) (h0 : since ≤ h) (h1 : h ≤ 1000000000)
    (q : ∀ H', Same H H' → Q (.int (aH (wyOf c since) bs h)) H') : sp_Ice_ahead T [.ref a, .int h] H Q E := by
  refine ⟨a, _, c, since, bs, S, rfl, hI, hl, trivial, fun h' e1 _ _ => ?_, fun e => ?_⟩
  · cases e1
    exact q
  · have e2 : withinV (.int h) since 1000000000 = true := by
      show (decide (since ≤ h) && decide (h ≤ 1000000000)) = true
      rw [decide_eq_true h0, decide_eq_true h1]
      rfl
    rw [e2] at e
    cases e

def sp_law_cell (K : PySem.W.Frag) : Sp := fun vs H Q _ => ∃ (l : Addr) (ns : List Int) (k : Nat), vs = [.ref l, .int (k : Int)] ∧ SqL K H l (ns.map V.int) ∧ ∀ z : Int, (z ∈ ns ∨ (0 ≤ z ∧ z ≤ 15485863 * (k : Int) + 1000)) → Q (.int z) H
theorem ok_law_cell (T : Tx K mg) : FnOk P w K mg base CX0 1 T.a_law_cell T.d_law_cell ["_law_script", "_law_k"] (sp_law_cell K) := by
  refine T.F_law_cell.ok sc_law_cell (fun vs H Q E h => ?_) (fun cdv A outer s H vs Q E hr h => ?_)
  · obtain ⟨l, ns, k, rfl, _⟩ := h
    rfl
  · refine ⟨_, (pss_cons (ps_if (pt_cmpR op_lt (pv 1) (pe_callB (lenK (K := K) rfl) (by rfl) T.m_len (by decide +kernel) (pa_cons (pv 0) pa_nil)) (nomark _))
        (pss_one (ps_ret (pe_ix (ixK (K := K) rfl) (pv 0) (pv 1) (fun _ _ => rfl))))
        pss_nil)
        (pss_one (ps_ret (pe_op op_add (pe_op op_mul pe_int (pv 1)) pe_int)))), ?_⟩
    obtain ⟨l, ns, k, rfl, hS, q⟩ := h
    walk_at "rd"
    refine rd_iteD (fun hc => ?_) (fun hc => ?_)
    · rw [List.length_map] at hc
      have hk : k < ns.length := by omega
      walk_at "rd"
      refine rd_ixL hS (atI_nat (j := k) (v := .int ns[k]) ?_) ?_
      · rw [List.getElem?_map, List.getElem?_eq_getElem hk]
        rfl
      · exact q _ (.inl (List.getElem_mem hk))
    · walk_at "rd"
      walk_at "rd"
      exact q _ (.inr ⟨by omega, by omega⟩)
theorem rd_law_cell {Q : VK} {E : XK} {H : Hp} {l : Addr} {ns : List Int} {j : Int} (q : ∀ z : Int, Q (.int z) H) (hS : SqL K H l (ns.map V.int) := by walk_at "sl") (hj : 0 ≤ j := by omega) : sp_law_cell K [.ref l, .int j] H Q E := ⟨l, ns, j.toNat, by rw [Int.toNat_of_nonneg hj], hS, fun z _ => q z⟩
def sp_law_box (K : PySem.W.Frag) : Sp := fun vs H Q _ => ∃ z : Int, vs = [.int z] ∧ ∀ (p : Addr) (H' : Hp), H p = none → Same H H' → BoxAt H' p 0 → Q (.ref p) H'
theorem ok_law_box (T : Tx K mg) : FnOk P w K mg base CX0 1 T.a_law_box T.d_law_box ["_law_cell_here"] (sp_law_box K) := by
  refine T.F_law_box.ok sc_law_box (fun vs H Q E h => ?_) (fun cdv A outer s H vs Q E hr h => ?_)
  · obtain ⟨z, rfl, _⟩ := h
    rfl
  · refine ⟨_, (pss_one (ps_ret (pe_lst (pa_cons (pe_callB (max2 rfl) (by rfl) T.m_max (by decide +kernel) (pa_cons pe_int (pa_cons (pe_op op_sub (pv 0) (pe_op op_pow pe_int pe_int)) pa_nil))) (pa_cons (pe_op op_mod (pv 0) pe_int) (pa_cons pe_int pa_nil)))))), ?_⟩
    obtain ⟨z, rfl, q⟩ := h
    walk_at "rd"
    refine rd_max2 fun m hm => ?_
    walk_at "rd"
    refine rd_I (by decide) ?_
    walk_at "rd"
    refine rd_lstA (by simp) fun p H1 hp s1 e1 => ?_
    refine q p _ hp s1 ⟨_, _, _, e1, ?_, ?_, ?_, Int.le_refl _, Int.le_refl _⟩
    · omega
    · exact Int.emod_nonneg _ (by decide)
    · exact Int.emod_lt_of_pos _ (by decide)
theorem rd_law_box {Q : VK} {E : XK} {H : Hp} {z : Int} (q : ∀ (p : Addr) (H' : Hp), Nn H p → Same H H' → BoxAt H' p 0 → Q (.ref p) H') : sp_law_box K [.int z] H Q E := ⟨z, rfl, fun p H' n => q p H' ⟨n⟩⟩

theorem box_one (b c : Int) (h1 : 0 ≤ b) (h2 : b < 2147483629) (h3 : 0 ≤ c) (h4 : c ≤ 1000001) : (b + 7919 * c + 101).natAbs < 2 ^ 64 := by omega
theorem box_two (o c : Int) (h1 : 0 ≤ o) (h2 : o < 2147483647) (h3 : 0 ≤ c) (h4 : c ≤ 1000001) : (o / 8 + 104729 * c * c + 3).natAbs < 2 ^ 64 := by
  have h5 : 104729 * c * c ≤ 104729 * 1000001 * 1000001 := Int.mul_le_mul (by omega) h4 h3 (by decide)
  have h6 : 0 ≤ 104729 * c * c := Int.mul_nonneg (by omega) h3
  have h7 : (104729 : Int) * 1000001 * 1000001 = 104729209458104729 := by decide
  omega
theorem pow5 (x : Int) : CPow x 5 ↔ x.natAbs < 2 ^ 64 := ⟨fun h => h.2.2, fun h => ⟨by decide, by decide, h⟩⟩
theorem pow3 (x : Int) : CPow x 3 ↔ x.natAbs < 2 ^ 64 := ⟨fun h => h.2.2, fun h => ⟨by decide, by decide, h⟩⟩
def sp_law_take (K : PySem.W.Frag) : Sp := fun vs H Q _ => ∃ (p : Addr) (m : Int) (n : Nat), vs = [.ref p, .int m] ∧ BoxAt H p n ∧ 0 < m ∧ m < 2 ^ 200 ∧ n ≤ 1000000 ∧ ∀ (r : Int) (H' : Hp), 0 ≤ r → r < m → BoxAt H' p (n + 1) → KeepB p H H' → Q (.int r) H'
theorem rd_take {K : PySem.W.Frag} {H : Hp} {Q : VK} {E : XK} {p : Addr} {m : Int} {n : Nat} (hB : BoxAt H p n) (hm : 0 < m) (hm2 : m < 2 ^ 200) (hn : n ≤ 1000000) (q : ∀ (r : Int) (H' : Hp), 0 ≤ r → r < m → BoxAt H' p (n + 1) → KeepB p H H' → Q (.int r) H') :
    sp_law_take K [.ref p, .int m] H Q E := ⟨p, m, n, rfl, hB, hm, hm2, hn, q⟩
theorem rd_takeB {K : PySem.W.Frag} {Q : VK} {E : XK} {H : Hp} {p : Addr} {m : Int} {n : Nat} (q : ∀ (r : Int) (H' : Hp), 0 ≤ r → r < m → BoxAt H' p (n + 1) → KeepB p H H' → Q (.int r) H') (hB : BoxAt H p n := by walk_at "bx") (hm : 0 < m := by walk_at "ar") (hm2 : m ≤ 10000000000000000000000000000000000000000 := by walk_at "ar") (hn : n ≤ 1000000 := by omega) :
    sp_law_take K [.ref p, .int m] H Q E := rd_take hB hm (Int.lt_of_le_of_lt hm2 (by decide)) hn q
theorem ok_law_take (T : Tx K mg) : FnOk P w K mg base CX0 1 T.a_law_take T.d_law_take ["_law_box_here", "_law_many"] (sp_law_take K) := by
  refine T.F_law_take.ok sc_law_take (fun vs H Q E h => ?_) (fun cdv A outer s H vs Q E hr h => ?_)
  · obtain ⟨p, m, n, rfl, _⟩ := h
    rfl
  · refine ⟨_, (pss_cons (ps_if (pt_cmpR op_gt (pe_ix (ixK (K := K) rfl) (pv 0) pe_int (fun _ _ => rfl)) pe_int (nomark _))
        (pss_cons (ps_set (i := 2) sc_law_take.nd rfl (Or.inl rfl) (pe_op op_mod (pe_ix (ixK (K := K) rfl) (pv 0) pe_int (fun _ _ => rfl)) (pv 1)))
        (pss_cons (ps_asg (pe_op op_fdivW (pe_ix (ixK (K := K) rfl) (pv 0) pe_int (fun _ _ => rfl)) (pv 1)) (pg_sub (pv 0) pe_int set_list))
        (pss_one (ps_ret (pv 2)))))
        pss_nil)
        (pss_cons (ps_asg (pe_op op_add (pe_ix (ixK (K := K) rfl) (pv 0) pe_int (fun _ _ => rfl)) pe_int) (pg_sub (pv 0) pe_int set_list))
        (pss_cons (ps_set (i := 3) sc_law_take.nd rfl (Or.inl rfl) (pe_op op_mod (pe_op op_pow (pe_op op_add (pe_op op_add (pe_ix (ixK (K := K) rfl) (pv 0) pe_int (fun _ _ => rfl)) (pe_op op_mul pe_int (pe_ix (ixK (K := K) rfl) (pv 0) pe_int (fun _ _ => rfl)))) pe_int) pe_int) pe_int))
        (pss_cons (ps_set (i := 3) sc_law_take.nd rfl (Or.inl rfl) (pe_op op_mod (pe_op op_pow (pe_op op_add (pv 3) (pe_op op_mul pe_int (pe_ix (ixK (K := K) rfl) (pv 0) pe_int (fun _ _ => rfl)))) pe_int) pe_int))
        (pss_one (ps_ret (pe_op op_mod (pe_op op_fdivW (pv 3) pe_int) (pv 1)))))))), ?_⟩
    obtain ⟨p, m, n, rfl, ⟨a, b, c, hp, ha, hb, hb2, hc, hc2⟩, hm, hm2, hn, q⟩ := h
    walk_at "rd"
    refine rd_iteD (fun h0 => ?_) (fun h0 => ?_)
    · walk_at "rd"
      refine rd_I hm ?_
      walk_at "rd"
      refine rd_I ⟨hm, log2_small hm hm2⟩ ?_
      walk_at "rd"
      refine rd_setL hp (j := 0) rfl ?_
      walk_at "rd"
      refine q _ _ (Int.emod_nonneg _ (by omega)) (Int.emod_lt_of_pos _ hm) ⟨_, _, _, upd_same, Int.ediv_nonneg ha (by omega), hb, hb2, hc, by omega⟩ keepB_upd
    · walk_at "rd"
      refine rd_setL hp (j := 2) rfl ?_
      have hp2 : (upd H p (.lst ([V.int a, .int b, .int c].set 2 (.int (c + 1))))) p = some (.lst [V.int a, .int b, .int (c + 1)]) := upd_same
      have hk : KeepB p H (upd H p (.lst ([V.int a, .int b, .int c].set 2 (.int (c + 1))))) := keepB_upd
      generalize (upd H p (.lst ([V.int a, .int b, .int c].set 2 (.int (c + 1))))) = H2 at hp2 hk
      walk_at "rd"
      refine rd_I ((pow5 _).mpr (by omega)) ?_
      walk_at "rd"
      refine rd_modA (by decide) fun one h1 h2 => ?_
      walk_at "rd"
      refine rd_I ((pow3 _).mpr (by omega)) ?_
      walk_at "rd"
      refine rd_modA (by decide) fun other h3 h4 => ?_
      walk_at "rd"
      refine rd_modA hm fun r h5 h6 => ?_
      walk_at "rd"
      exact q r H2 h5 h6 ⟨_, _, _, hp2, ha, hb, hb2, by omega, by omega⟩ hk
def sp_law_numbers (K : PySem.W.Frag) : Sp := fun vs H Q _ => ∃ (p : Addr) (k : Nat), vs = [.ref p] ∧ BoxAt H p k ∧ k ≤ 900000 ∧
  ∀ n f g m s S H', NumOk f g m s → NumAt H' n f g m s [] S → (∀ x ∈ S, H x = none) → BoxAt H' p (k + 10) → KeepB p H H' → Q (.ref n) H'
theorem mem3 {x y z w : Int} {v : V} (h : v ∈ [V.int x, .int y, .int z]) : v = .int x ∨ v = .int y ∨ v = .int z := by simpa using h
theorem ok_law_numbers (T : Tx K mg) : FnOk P w K mg base CX0 2 T.a_law_numbers T.d_law_numbers ["_law_box_here"] (sp_law_numbers K) := by
  refine T.F_law_numbers.ok sc_law_numbers (fun vs H Q E h => ?_) (fun cdv A outer s H vs Q E hr h => ?_)
  · obtain ⟨p, k, rfl, _⟩ := h
    rfl
  · refine ⟨_, (pss_cons (ps_set (i := 1) sc_law_numbers.nd rfl (Or.inl rfl) (pe_ix (ixLK (K := K) rfl) (pe_lst (pa_cons (pe_call (ok_law_take T) (hr.mono (by decide)) (by rfl) T.g_law_take T.F_law_take.kp T.b_law_take .nil pass0 (pa_cons (pv 0) (pa_cons pe_int pa_nil))) (pa_cons (pe_op op_add pe_int (pe_call (ok_law_take T) (hr.mono (by decide)) (by rfl) T.g_law_take T.F_law_take.kp T.b_law_take .nil pass0 (pa_cons (pv 0) (pa_cons pe_int pa_nil)))) (pa_cons (pe_op op_pow pe_int pe_int) pa_nil)))) (pe_call (ok_law_take T) (hr.mono (by decide)) (by rfl) T.g_law_take T.F_law_take.kp T.b_law_take .nil pass0 (pa_cons (pv 0) (pa_cons pe_int pa_nil))) (fun _ _ => rfl)))
        (pss_cons (ps_set (i := 2) sc_law_numbers.nd rfl (Or.inl rfl) (pe_ix (ixLK (K := K) rfl) (pe_lst (pa_cons pe_int (pa_cons (pv 1) (pa_cons (pe_call (ok_law_take T) (hr.mono (by decide)) (by rfl) T.g_law_take T.F_law_take.kp T.b_law_take .nil pass0 (pa_cons (pv 0) (pa_cons (pe_op op_add (pv 1) pe_int) pa_nil))) pa_nil)))) (pe_call (ok_law_take T) (hr.mono (by decide)) (by rfl) T.g_law_take T.F_law_take.kp T.b_law_take .nil pass0 (pa_cons (pv 0) (pa_cons pe_int pa_nil))) (fun _ _ => rfl)))
        (pss_cons (ps_set (i := 3) sc_law_numbers.nd rfl (Or.inl rfl) (pe_ix (ixLK (K := K) rfl) (pe_lst (pa_cons pe_int (pa_cons pe_int (pa_cons pe_int (pa_cons pe_int (pa_cons pe_int (pa_cons pe_int (pa_cons (pe_call (ok_law_take T) (hr.mono (by decide)) (by rfl) T.g_law_take T.F_law_take.kp T.b_law_take .nil pass0 (pa_cons (pv 0) (pa_cons pe_int pa_nil))) (pa_cons pe_int pa_nil))))))))) (pe_call (ok_law_take T) (hr.mono (by decide)) (by rfl) T.g_law_take T.F_law_take.kp T.b_law_take .nil pass0 (pa_cons (pv 0) (pa_cons pe_int pa_nil))) (fun _ _ => rfl)))
        (pss_cons (ps_set (i := 4) sc_law_numbers.nd rfl (Or.inl rfl) (pe_ix (ixLK (K := K) rfl) (pe_lst (pa_cons pe_int (pa_cons (pe_op op_pow pe_int pe_int) (pa_cons (pe_call (ok_law_take T) (hr.mono (by decide)) (by rfl) T.g_law_take T.F_law_take.kp T.b_law_take .nil pass0 (pa_cons (pv 0) (pa_cons pe_int pa_nil))) (pa_cons pe_int pa_nil))))) (pe_call (ok_law_take T) (hr.mono (by decide)) (by rfl) T.g_law_take T.F_law_take.kp T.b_law_take .nil pass0 (pa_cons (pv 0) (pa_cons pe_int pa_nil))) (fun _ _ => rfl)))
        (pss_one (ps_ret (pe_disp (pps_cons pe_str (pv 2) (pps_cons pe_str (pv 3) (pps_cons pe_str (pv 1) (pps_cons pe_str (pv 4) (pps_cons pe_str pe_dnewK pps_nil))))) (by rfl) (by rfl) (fun z => by cases z) (by decide)))))))), ?_⟩
    obtain ⟨p, k, rfl, hB, hk, q⟩ := h
    walk_at "rd"
    refine rd_takeB fun r1 H1 r1_0 r1_1 b_H1 k_H1 => ?_ <;> walk_at "rd"
    refine rd_takeB fun r2 H2 r2_0 r2_1 b_H2 k_H2 => ?_ <;> walk_at "rd"
    walk_at "rd"
    refine rd_lstB fun l1 H3 n_l1 s_H3 e_l1 => ?_ <;> walk_at "rd"
    refine rd_takeB fun r3 H4 r3_0 r3_1 b_H4 k_H4 => ?_ <;> walk_at "rd"
    refine rd_ixAny1 (xs := [_, _, _]) (by walk_at "sl") (by omega) (by simpa using r3_1) fun v hv => ?_
    obtain ⟨m, rfl, m0, m1⟩ : ∃ m : Int, v = .int m ∧ 0 ≤ m ∧ m ≤ 1000000 := by
      simp only [List.mem_cons, List.not_mem_nil, or_false] at hv
      rcases hv with rfl | rfl | rfl <;> exact ⟨_, rfl, by first | omega | decide, by first | omega | decide⟩
    walk_at "rd"
    refine rd_takeB fun r4 H5 r4_0 r4_1 b_H5 k_H5 => ?_ <;> walk_at "rd"
    refine rd_lstB fun l2 H6 n_l2 s_H6 e_l2 => ?_ <;> walk_at "rd"
    refine rd_takeB fun r5 H7 r5_0 r5_1 b_H7 k_H7 => ?_ <;> walk_at "rd"
    refine rd_ixAny1 (xs := [_, _, _]) (by walk_at "sl") (by omega) (by simpa using r5_1) fun v hv => ?_
    obtain ⟨f, rfl, f0, f1⟩ : ∃ f : Int, v = .int f ∧ 0 ≤ f ∧ f ≤ m := by
      simp only [List.mem_cons, List.not_mem_nil, or_false] at hv
      rcases hv with rfl | rfl | rfl <;> exact ⟨_, rfl, by first | omega | decide, by first | omega | decide⟩
    walk_at "rd"
    refine rd_takeB fun r6 H8 r6_0 r6_1 b_H8 k_H8 => ?_ <;> walk_at "rd"
    refine rd_lstB fun l3 H9 n_l3 s_H9 e_l3 => ?_ <;> walk_at "rd"
    refine rd_takeB fun r7 H10 r7_0 r7_1 b_H10 k_H10 => ?_ <;> walk_at "rd"
    refine rd_ixAny1 (xs := [_, _, _, _, _, _, _, _]) (by walk_at "sl") (by omega) (by simpa using r7_1) fun v hv => ?_
    obtain ⟨g, rfl, g0, g1⟩ : ∃ g : Int, v = .int g ∧ 0 ≤ g ∧ g ≤ 1000 := by
      simp only [List.mem_cons, List.not_mem_nil, or_false] at hv
      rcases hv with rfl | rfl | rfl | rfl | rfl | rfl | rfl | rfl <;> exact ⟨_, rfl, by first | omega | decide, by first | omega | decide⟩
    walk_at "rd"
    refine rd_takeB fun r8 H11 r8_0 r8_1 b_H11 k_H11 => ?_ <;> walk_at "rd"
    refine rd_lstB fun l4 H12 n_l4 s_H12 e_l4 => ?_ <;> walk_at "rd"
    refine rd_takeB fun r9 H13 r9_0 r9_1 b_H13 k_H13 => ?_ <;> walk_at "rd"
    refine rd_ixAny1 (xs := [_, _, _, _]) (by walk_at "sl") (by omega) (by simpa using r9_1) fun v hv => ?_
    obtain ⟨s, rfl, s0, s1⟩ : ∃ s : Int, v = .int s ∧ 0 ≤ s ∧ s ≤ 1000000 := by
      simp only [List.mem_cons, List.not_mem_nil, or_false] at hv
      rcases hv with rfl | rfl | rfl | rfl <;> exact ⟨_, rfl, by first | omega | decide, by first | omega | decide⟩
    walk_at "rd"
    refine rd_disp fun n n_n => ?_
    walk_at "rd"
    refine rd_dnewB fun d H14 n_d s_H14 e_d => ?_ <;> walk_at "rd"
    have s14 : Same H13 H14 := (same_new n_n).trans s_H14
    have nnd : n ≠ d := ne_of_none upd_same n_d.e
    have n_dH : H13 d = none := none_of (same_new n_n) n_d.e
    refine rd_dispK (numK f g m s d) (s_H14 _ _ upd_same) (by rfl) (show 5 ≤ 15 by decide) (by kernel_rfl) ?_
    have k13 : KeepB p H H13 := by walk_at "kb"
    have fresh : ∀ x, H13 x = none → H x = none := fun x hx => by
      cases e : H x with
      | none => rfl
      | some o =>
        have np : x ≠ p := fun z => by
          obtain ⟨_, _, _, e2, _⟩ := b_H13
          rw [z, e2] at hx
          cases hx
        rw [k13 x o e np] at hx
        cases hx
    refine q n f g m s (n :: fpC d []) _ ⟨f0, f1, m1, g0, g1, s0, s1⟩ ⟨d, [], upd_same, ⟨?_, nofun, nofun, List.nodup_nil, List.nodup_nil⟩, .refl _, rfl⟩ (fun x hx => ?_) ?_ ?_
    · rw [upd_ne nnd.symm]
      exact e_d
    · rcases List.mem_cons.mp hx with rfl | hx
      · exact fresh _ n_n
      · rw [List.mem_singleton.mp hx]
        exact fresh _ n_dH
    · refine ((b_H13.keep s14).new ?_).mono (by omega)
      exact (b_H13.ne n_n).symm
    · exact fun b o e hne => by
        rw [upd_ne (ne_of_none (k13 b o e hne) n_n)]
        exact s14 _ _ (k13 b o e hne)
theorem way_names {f g m : Int} : chNames (wayCh f g m) := ⟨show nameS (Str.ofString "way") = true by decide +kernel, show nameS (Str.ofString "a") = true by decide +kernel, show nameS (Str.ofString "b") = true by decide +kernel, show Str.ofString "a" ≠ Str.ofString "b" by decide +kernel⟩
def sp_law_ice (T : Tx K mg) : Sp := fun vs H Q E => ∃ n f g m s bs S, vs = [.ref n] ∧ NumAt H n f g m s bs S ∧ NumOk f g m s ∧ ∀ a S' H', Nn H a → Same H H' → IceAt T H' a (wayCh f g m) s [] S' → (∀ x ∈ S', H x = none) → Q (.ref a) H'
theorem ok_law_ice (T : Tx K mg) : FnOk P w K mg base CX0 6 T.a_law_ice T.d_law_ice ["_law_numbers_here"] (sp_law_ice T) := by
  refine T.F_law_ice.ok sc_law_ice (fun vs H Q E h => ?_) (fun cdv A outer s H vs Q E hr h => ?_)
  · obtain ⟨n, f, g, m, s, bs, S, rfl, _⟩ := h
    rfl
  · refine ⟨_, (pss_cons (ps_set (i := 1) sc_law_ice.nd rfl (Or.inl rfl) (pe_make T.mk_Channel (ok_Channel___init__ T) (hr.mono (by decide)) rfl T.g_Channel T.b_Channel___init__ .nil passX0 (pa_cons pe_str (pa_cons pe_str (pa_cons pe_str (pa_cons pe_int (pa_cons pe_int (pa_cons (pe_dget (hu_of hr) (pv 0) pe_str (fun _ _ => rfl)) (pa_cons (pe_dget (hu_of hr) (pv 0) pe_str (fun _ _ => rfl)) (pa_cons (pe_dget (hu_of hr) (pv 0) pe_str (fun _ _ => rfl)) pa_nil))))))))))
        (pss_one (ps_ret (pe_make T.mk_Ice (ok_Ice___init__ T) (hr.mono (by decide)) rfl T.g_Ice T.b_Ice___init__ .nil passX0 (pa_cons (pv 1) (pa_cons (pe_dget (hu_of hr) (pv 0) pe_str (fun _ _ => rfl)) pa_nil)))))), ?_⟩
    obtain ⟨n, f, g, m, s2, bs, S, rfl, ⟨d, L, hn, hL, hp, rfl⟩, ok, q⟩ := h
    walk_at "rd"
    refine rd_mkChan T (wayCh f g m) ok.ch way_names fun ch H1 n_ch s_H1 hc => ?_
    walk_at "rd"
    intro x dx hx hdx hne
    refine ⟨x, dx, ch, wayCh f g m, s2, rfl, upd_same, ?_, ok.ch, ok.s0, ok.s1, fun S' H' k' hI hS => ⟨rfl, ?_⟩⟩
    · obtain ⟨dy, hc⟩ := hc
      exact ⟨dy, (make_keep hx hdx fun b o e _ => e) ch _ hc⟩
    · have s2' : Same H1 H' := make_same hx hdx k'
      refine q x S' H' ⟨none_of s_H1 hx⟩ (s_H1.trans s2') hI fun y hy => ?_
      have z := hS y hy
      by_cases e : y = x
      · rw [e]
        exact none_of s_H1 hx
      · rw [upd_ne e] at z
        by_cases e2 : y = dx
        · rw [e2]
          exact none_of s_H1 hdx
        · rw [upd_ne e2] at z
          exact none_of s_H1 z
def sp_law_cut (K : PySem.W.Frag) : Sp := fun vs H Q _ => ∃ (p n : Addr) (k : Nat) (f g m s : Int) (bs : List (Int × Int)) (S : List Addr), vs = [.ref p, .ref n] ∧ BoxAt H p k ∧ k ≤ 900000 ∧ NumAt H n f g m s bs S ∧ p ∉ S ∧ NumOk f g m s ∧
  ∀ c H', 1 ≤ c → c ≤ 1000000 → BoxAt H' p (k + 4) → KeepB p H H' → Q (.int c) H'
theorem ok_law_cut (T : Tx K mg) : FnOk P w K mg base CX0 2 T.a_law_cut T.d_law_cut ["_law_box_here", "_law_numbers_here"] (sp_law_cut K) := by
  refine T.F_law_cut.ok sc_law_cut (fun vs H Q E h => ?_) (fun cdv A outer s H vs Q E hr h => ?_)
  · obtain ⟨p, n, k, f, g, m, s, bs, S, rfl, _⟩ := h
    rfl
  · refine ⟨_, (pss_one (ps_ret (pe_op op_add pe_int (pe_ix (ixLK (K := K) rfl) (pe_lst (pa_cons (pe_call (ok_law_take T) (hr.mono (by decide)) (by rfl) T.g_law_take T.F_law_take.kp T.b_law_take .nil pass0 (pa_cons (pv 0) (pa_cons pe_int pa_nil))) (pa_cons (pe_call (ok_law_take T) (hr.mono (by decide)) (by rfl) T.g_law_take T.F_law_take.kp T.b_law_take .nil pass0 (pa_cons (pv 0) (pa_cons pe_int pa_nil))) (pa_cons (pe_op op_fdivW (pe_dget (hu_of hr) (pv 1) pe_str (fun _ _ => rfl)) pe_int) (pa_cons (pe_op op_sub (pe_op op_pow pe_int pe_int) pe_int) pa_nil))))) (pe_call (ok_law_take T) (hr.mono (by decide)) (by rfl) T.g_law_take T.F_law_take.kp T.b_law_take .nil pass0 (pa_cons (pv 0) (pa_cons pe_int pa_nil))) (fun _ _ => rfl))))), ?_⟩
    obtain ⟨p, n, k, f, g, m, s2, bs, S, rfl, hB, hk, ⟨d, L, hn, hL, hp, rfl⟩, npS, ok, q⟩ := h
    have npn : n ≠ p := fun e => npS (e ▸ List.mem_cons_self)
    have om := ok.m1
    have om0 := ok.f0
    have om1 := ok.fm
    walk_at "rd"
    refine rd_takeB fun r1 H1 r1_0 r1_1 b_H1 k_H1 => ?_ <;> walk_at "rd"
    refine rd_takeB fun r2 H2 r2_0 r2_1 b_H2 k_H2 => ?_ <;> walk_at "rd"
    walk_at "rd"
    refine rd_lstB fun l1 H3 n_l1 s_H3 e_l1 => ?_ <;> walk_at "rd"
    refine rd_takeB fun r3 H4 r3_0 r3_1 b_H4 k_H4 => ?_ <;> walk_at "rd"
    refine rd_ixAny1 (xs := [_, _, _, _]) (by walk_at "sl") (by omega) (by simpa using r3_1) fun v hv => ?_
    obtain ⟨c, rfl, c0, c1⟩ : ∃ c : Int, v = .int c ∧ 0 ≤ c ∧ c + 1 ≤ 1000000 := by
      have p6 : (10 : Int) ^ Int.toNat 6 = 1000000 := by decide
      simp only [List.mem_cons, List.not_mem_nil, or_false] at hv
      rcases hv with rfl | rfl | rfl | rfl <;> exact ⟨_, rfl, by omega, by omega⟩
    walk_at "rd"
    exact q _ _ (by omega) (by omega) (by walk_at "bx") (by walk_at "kb")
def sp_law_hour (K : PySem.W.Frag) : Sp := fun vs H Q _ => ∃ (p n : Addr) (k : Nat) (f g m s : Int) (bs : List (Int × Int)) (S : List Addr), vs = [.ref p, .ref n] ∧ BoxAt H p k ∧ k ≤ 900000 ∧ NumAt H n f g m s bs S ∧ p ∉ S ∧ NumOk f g m s ∧
  ∀ h H', s ≤ h → h ≤ 100000000 → BoxAt H' p (k + 4) → KeepB p H H' → Q (.int h) H'
theorem ok_law_hour (T : Tx K mg) : FnOk P w K mg base CX0 2 T.a_law_hour T.d_law_hour ["_law_box_here", "_law_numbers_here"] (sp_law_hour K) := by
  refine T.F_law_hour.ok sc_law_hour (fun vs H Q E h => ?_) (fun cdv A outer s H vs Q E hr h => ?_)
  · obtain ⟨p, n, k, f, g, m, s, bs, S, rfl, _⟩ := h
    rfl
  · refine ⟨_, (pss_cons (ps_set (i := 2) sc_law_hour.nd rfl (Or.inl rfl) (pe_dget (hu_of hr) (pv 1) pe_str (fun _ _ => rfl)))
        (pss_cons (ps_set (i := 3) sc_law_hour.nd rfl (Or.inl rfl) (pe_lst (pa_cons (pv 2) (pa_cons (pe_op op_add (pv 2) (pe_call (ok_law_take T) (hr.mono (by decide)) (by rfl) T.g_law_take T.F_law_take.kp T.b_law_take .nil pass0 (pa_cons (pv 0) (pa_cons pe_int pa_nil)))) (pa_cons (pe_op op_add (pv 2) (pe_call (ok_law_take T) (hr.mono (by decide)) (by rfl) T.g_law_take T.F_law_take.kp T.b_law_take .nil pass0 (pa_cons (pv 0) (pa_cons (pe_op op_pow pe_int pe_int) pa_nil)))) (pa_cons (pe_op op_sub (pe_op op_pow pe_int pe_int) (pe_call (ok_law_take T) (hr.mono (by decide)) (by rfl) T.g_law_take T.F_law_take.kp T.b_law_take .nil pass0 (pa_cons (pv 0) (pa_cons pe_int pa_nil)))) pa_nil))))))
        (pss_one (ps_ret (pe_ix (ixLK (K := K) rfl) (pv 3) (pe_call (ok_law_take T) (hr.mono (by decide)) (by rfl) T.g_law_take T.F_law_take.kp T.b_law_take .nil pass0 (pa_cons (pv 0) (pa_cons pe_int pa_nil))) (fun _ _ => rfl)))))), ?_⟩
    obtain ⟨p, n, k, f, g, m, s2, bs, S, rfl, hB, hk, ⟨d, L, hn, hL, hp, rfl⟩, npS, ok, q⟩ := h
    have os0 := ok.s0
    have os1 := ok.s1
    walk_at "rd"
    refine rd_takeB fun r1 H1 r1_0 r1_1 b_H1 k_H1 => ?_ <;> walk_at "rd"
    refine rd_takeB fun r2 H2 r2_0 r2_1 b_H2 k_H2 => ?_ <;> walk_at "rd"
    walk_at "rd"
    refine rd_takeB fun r3 H3 r3_0 r3_1 b_H3 k_H3 => ?_ <;> walk_at "rd"
    refine rd_lstB fun l1 H4 n_l1 s_H4 e_l1 => ?_ <;> walk_at "rd"
    refine rd_takeB fun r4 H5 r4_0 r4_1 b_H5 k_H5 => ?_ <;> walk_at "rd"
    refine rd_ixAny1 (xs := [_, _, _, _]) (by walk_at "sl") (by omega) (by simpa using r4_1) fun v hv => ?_
    have p6 : (10 : Int) ^ Int.toNat 6 = 1000000 := by decide
    have p8 : (10 : Int) ^ Int.toNat 8 = 100000000 := by decide
    obtain ⟨h, rfl, h0, h1⟩ : ∃ h : Int, v = .int h ∧ s2 ≤ h ∧ h ≤ 100000000 := by
      simp only [List.mem_cons, List.not_mem_nil, or_false] at hv
      rcases hv with rfl | rfl | rfl | rfl <;> exact ⟨_, rfl, by omega, by omega⟩
    exact q h H5 h0 h1 (by walk_at "bx") (by walk_at "kb")
def sp_law_all (K : PySem.W.Frag) : Sp := fun vs H Q _ => ∃ (n : Addr) (f g m s : Int) (bs : List (Int × Int)) (S : List Addr), vs = [.ref n] ∧ NumAt H n f g m s bs S ∧ bs.length < 64 ∧
  ∀ q ps H', Nn H q → Same H H' → H' q = some (.lst ps) → RowsAt H' ps (brkV bs) → Q (.ref q) H'
theorem ok_law_all (T : Tx K mg) : FnOk P w K mg base CX0 1 T.a_law_all T.d_law_all ["_law_numbers_here"] (sp_law_all K) := by
  refine T.F_law_all.ok sc_law_all (fun vs H Q E h => ?_) (fun cdv A outer s H vs Q E hr h => ?_)
  · obtain ⟨n, f, g, m, s, bs, S, rfl, _⟩ := h
    rfl
  · refine ⟨_, (pss_cons (ps_set (i := 1) sc_law_all.nd rfl (Or.inl rfl) (pe_lst pa_nil))
        (pss_cons (ps_for PassesOwn.never rfl (pi_listK (K := K) rfl (pe_callB (sortDI rfl) (by rfl) T.m_sorted (by decide +kernel) (pa_cons (pe_dget (hu_of hr) (pv 0) pe_str (fun _ _ => rfl)) pa_nil))) (pg_name (i := 2) sc_law_all.nd rfl (Or.inr rfl))
        (pss_one (ps_expr (pe_bm PySem.F.plainAttrs_list PySem.F.slot_list_extend PySem.F.type_list_extend mt_extend (pv 1) (pa_cons (pe_lc (own := [("_law_cut_here", 3)]) (g := gName 3) (tt := tYes) rfl sc_law_all.nd (pi_listK (K := K) rfl (pe_callB (sortIK (K := K) rfl) (by rfl) T.m_sorted (by decide +kernel) (pa_cons (pe_dget (hu_of hr) (pe_dget (hu_of hr) (pv 0) pe_str (fun _ _ => rfl)) (pv 2) (fun _ _ => rfl)) pa_nil))) (blkOk_by (own := [("_law_cut_here", 3)]) (N := N_law_all) (sc := defScope s_law_all) (by decide +kernel)) (fun _ _ _ _ _ => (pg_name (i := 3) sc_law_all.nd rfl (Or.inl rfl))) (fun _ _ _ _ _ => pts_nil) (fun _ _ _ _ _ => (pe_frm (pe_tup (pa_cons (pv 2) (pa_cons (pv 3) pa_nil)))))) pa_nil)))))
        (pss_one (ps_ret (pv 1))))), ?_⟩
    obtain ⟨n, f, g, m, s2, bs, S, rfl, ⟨d, L, hn, hL, hp, rfl⟩, hlen, q⟩ := h
    have hd := hL.hd
    have hle : L.length < 64 := Nat.lt_of_le_of_lt (flat_len hL.ne) (by rw [← hp.length_eq]; exact hlen)
    walk_at "rd"
    refine rd_lstB fun l H1 n_l s_H1 e_l => ?_ <;> walk_at "rd"
    refine rd_srtDI (kvs := cutK L) (ks := L.map (·.1)) (by walk_at "hp") (cutK_keys L) (by rw [List.length_map]; exact hle) fun ys p H2 hy1 hy2 hp2 s_H2 e_p => ?_
    have hyl : ys.length < 64 := by rw [hy1.length_eq, List.length_map]; exact hle
    have hym : ∀ h ∈ ys, ∃ t ∈ L, t.1 = h := fun h m => by simpa using hy1.mem_iff.mp m
    have hbr : brkV bs = (ys.flatMap fun h => (srtI (cutsL L h)).map fun c => (h, c)).map fun b => [.int b.1, .int b.2] := by
      unfold brkV
      rw [brkOf_of_perm hp, brk_flat hL.nk, srtI_uniq hy1 hy2]
    refine rd_ilB ?_ <;> walk_at "rd"
    have hL2 : CutsAt H2 d L := hL.keep (s_H1.trans s_H2)
    have hlt : ∀ h, (cutsL L h).length < 64 := fun h => Nat.lt_of_le_of_lt (cutsL_len h) (by rw [← hp.length_eq]; exact hlen)
    have npl : p ≠ l := fun e => by rw [e] at hp2; rw [hp2] at e_l; cases e_l
    have nnl : n ≠ l := ne_of_none hn n_l.e
    have hn2 := s_H2 _ _ (s_H1 _ _ hn)
    refine forgo (walk_list (xs := ys.map V.int)) (fun i σ' H' => KeepB l H2 H' ∧ (∃ acc, H' l = some (.lst acc) ∧ acc.length ≤ 64 * i ∧ RowsAt H' acc (((ys.take i).flatMap fun h => (srtI (cutsL L h)).map fun c => (h, c)).map fun b => [.int b.1, .int b.2])) ∧ ∃ x2 x3, σ' = [some (.ref n), some (.ref l), x2, x3]) ?_ (fun i σ' H' _ p => (p.1).seqL (sqL_of e_p) npl) ?_ ?_
    · exact ⟨KeepB.refl _ _, ⟨[], by walk_at "hp", Nat.zero_le _, .nil⟩, _, _, rfl⟩
    · rintro i x σ' Ha Hb hi ⟨ka, ⟨acc, hla, hal, hacc⟩, x2, x3, rfl⟩ ⟨e0, hx⟩
      subst e0
      rw [List.length_map] at hi
      rw [List.getElem?_map] at hx
      obtain ⟨h, hh, rfl⟩ := Option.map_eq_some_iff.mp hx
      obtain ⟨t, ht, rfl⟩ := hym h (List.mem_of_getElem? hh)
      have hLt := hL2.hl t ht
      have ndl : d ≠ l := (ne_of hL2.hd (s_H2 _ _ e_l) nofun)
      have ntl : t.2.1 ≠ l := fun e => by
        have z := hL.hl t ht
        rw [e, n_l.e] at z
        cases z
      have hnb := ka _ _ hn2 nnl
      walk_at "rd"
      refine rd_tyL (sqL_of hla) ?_
      walk_at "rd"
      refine rd_dgtI (kvs := cutK L) (ka _ _ hL2.hd ndl) (valV_cutS hL.nk ht) ?_
      walk_at "rd"
      refine rd_srtI (ns := t.2.2) (sqL_of (ka _ _ hLt ntl)) fun zs p2 Hc hz1 hz2 hp3 s_Hc e_p2 => ?_
      obtain rfl := srtI_uniq hz1 hz2
      refine rd_ilB ?_ <;> walk_at "rd"
      have hcl : cutsL L t.1 = t.2.2 := cutsL_of hL.nk ht
      have h64 := hlt t.1
      rw [hcl] at h64
      have h64s : (srtI t.2.2).length < 64 := by rw [(srtI_perm _).length_eq]; exact h64
      refine lc_tups (xs := (srtI t.2.2).map V.int) (fun v => [.int t.1, v]) (by walk_at "sl") (by rw [List.length_map]; omega) (fun _ => rfl) (fun v hv Hx Qc s_Hx q' => ?_) fun D ps Hd n_D s_Hd e_D hr => ?_
      · obtain ⟨c2, hc2, rfl⟩ := List.mem_map.mp hv
        walk_at "rd"
        exact rd_tupT (by simp) q'
      · walk_at "rd"
        have sT : Same Hb Hd := s_Hc.trans s_Hd
        have hla2 : Hd l = some (.lst acc) := sT _ _ hla
        have hpl := hr.len
        rw [List.map_map, List.length_map] at hpl
        refine rd_extend hla2 e_D (by omega) ?_
        walk_at "rd"
        have et : ys.take (i + 1) = ys.take i ++ [t.1] := by rw [List.take_add_one, hh]; rfl
        refine ⟨(ka.trans (Same.keepB sT)).put, ⟨acc ++ ps, upd_same, by rw [List.length_append]; omega, ?_⟩, _, _, rfl⟩
        rw [et, List.flatMap_append, List.map_append, List.flatMap_cons, List.flatMap_nil, List.append_nil, hcl]
        have hr2 : RowsAt Hd ps (((srtI t.2.2).map fun c => (t.1, c)).map fun b => [.int b.1, .int b.2]) := by
          rw [List.map_map] at hr ⊢
          exact hr
        refine ((hacc.keep sT).app hr2).same fun b xs e => ?_
        rw [upd_ne (ne_of e hla2 nofun)]
        exact e
    · rintro σ' Ha ⟨ka, ⟨acc, hla, hal, hacc⟩, x2, x3, rfl⟩
      walk_at "rd"
      rw [List.length_map, List.take_length] at hacc
      rw [hbr] at q
      have sA : Same H Ha := fun b o e => ka b o (s_H2 _ _ (s_H1 _ _ e)) (ne_of_none e n_l.e)
      exact q l acc Ha n_l sA hla hacc
def sp_law_rows (K : PySem.W.Frag) : Sp := fun vs H Q _ => ∃ (n : Addr) (f g m s : Int) (bs : List (Int × Int)) (S : List Addr), vs = [.ref n] ∧ NumAt H n f g m s bs S ∧ NumOk f g m s ∧ BsOk s bs ∧ bs.length < 64 ∧
  ∀ q ps H', Nn H q → Same H H' → H' q = some (.lst ps) → RowsAt H' ps (rowsV (wyOf (wayCh f g m) s) bs) → Q (.ref q) H'
theorem ok_law_rows (T : Tx K mg) : FnOk P w K mg base CX0 1 T.a_law_rows T.d_law_rows ["_law_numbers_here"] (sp_law_rows K) := by
  refine T.F_law_rows.ok sc_law_rows (fun vs H Q E h => ?_) (fun cdv A outer s H vs Q E hr h => ?_)
  · obtain ⟨n, f, g, m, s, bs, S, rfl, _⟩ := h
    rfl
  · refine ⟨_, (pss_cons (ps_set (i := 1) sc_law_rows.nd rfl (Or.inl rfl) (pe_lst pa_nil))
        (pss_cons (ps_par (i := 2) (j := 3) rfl sc_law_rows.nd rfl rfl (by decide) rfl rfl (pa_cons (pe_dget (hu_of hr) (pv 0) pe_str (fun _ _ => rfl)) (pa_cons (pe_dget (hu_of hr) (pv 0) pe_str (fun _ _ => rfl)) pa_nil)) (by rfl))
        (pss_cons (ps_for PassesOwn.never rfl (pi_listK (K := K) rfl (pe_callB (sortDI rfl) (by rfl) T.m_sorted (by decide +kernel) (pa_cons (pe_dget (hu_of hr) (pv 0) pe_str (fun _ _ => rfl)) pa_nil))) (pg_name (i := 4) sc_law_rows.nd rfl (Or.inl rfl))
        (pss_cons (ps_set (i := 5) sc_law_rows.nd rfl (Or.inl rfl) (pe_callB (min2 rfl) (by rfl) T.m_min (by decide +kernel) (pa_cons (pe_dget (hu_of hr) (pv 0) pe_str (fun _ _ => rfl)) (pa_cons (pe_op op_add (pv 3) (pe_op op_mul (pe_dget (hu_of hr) (pv 0) pe_str (fun _ _ => rfl)) (pe_op op_sub (pv 4) (pv 2)))) pa_nil))))
        (pss_cons (ps_set (i := 3) sc_law_rows.nd rfl (Or.inl rfl) (pe_callB (max2 rfl) (by rfl) T.m_max (by decide +kernel) (pa_cons pe_int (pa_cons (pe_op op_sub (pv 5) (pe_callB (sumK (K := K) rfl rfl) (by rfl) T.m_sum (by decide +kernel) (pa_cons (pe_dget (hu_of hr) (pe_dget (hu_of hr) (pv 0) pe_str (fun _ _ => rfl)) (pv 4) (fun _ _ => rfl)) pa_nil))) pa_nil))))
        (pss_cons (ps_set (i := 2) sc_law_rows.nd rfl (Or.inl rfl) (pv 4))
        (pss_one (ps_expr (pe_bm PySem.F.plainAttrs_list PySem.F.slot_list_append PySem.F.type_list_append mt_append (pv 1) (pa_cons (pe_tup (pa_cons (pv 4) (pa_cons (pv 5) (pa_cons (pv 3) pa_nil)))) pa_nil))))))))
        (pss_one (ps_ret (pv 1)))))), ?_⟩
    obtain ⟨n, f, g, m, s2, bs, S, rfl, ⟨d, L, hn, hL, hp, rfl⟩, ok, hbs, hlen, q⟩ := h
    have hd := hL.hd
    have ow : WyOk (wyOf (wayCh f g m) s2) := wyOk ok.ch
    have hg0 := ok.g0
    have hg1 := ok.g1
    have hle : L.length < 64 := Nat.lt_of_le_of_lt (flat_len hL.ne) (by rw [← hp.length_eq]; exact hlen)
    walk_at "rd"
    refine rd_lstB fun l H1 n_l s_H1 e_l => ?_ <;> walk_at "rd"
    have hn1 := s_H1 _ _ hn
    have hd1 := s_H1 _ _ hd
    walk_at "rd"
    refine rd_srtDI (kvs := cutK L) (ks := L.map (·.1)) hd1 (cutK_keys L) (by rw [List.length_map]; exact hle) fun ys p H2 hy1 hy2 hp2 s_H2 e_p => ?_
    have hym : ∀ h ∈ ys, ∃ t ∈ L, t.1 = h := fun h m => by simpa using hy1.mem_iff.mp m
    have hyl : ys.length < 64 := by rw [hy1.length_eq, List.length_map]; exact hle
    have hys : ys = hoursOf bs := by rw [hoursOf_perm hp, hours_flat hL.nk hL.ne, srtI_uniq hy1 hy2]
    refine rd_ilB ?_ <;> walk_at "rd"
    have hL2 : CutsAt H2 d L := hL.keep (s_H1.trans s_H2)
    have npl : p ≠ l := fun e => by rw [e] at hp2; rw [hp2] at e_l; cases e_l
    have nnl : n ≠ l := ne_of_none hn n_l.e
    have hn2 := s_H2 _ _ hn1
    refine forgo (walk_list (xs := ys.map V.int)) (fun i σ' H' => KeepB l H2 H' ∧ (∃ acc, H' l = some (.lst acc) ∧ acc.length = i ∧ RowsAt H' acc ((ys.take i).map fun h => [.int h, .int (aH (wyOf (wayCh f g m) s2) bs h), .int (bH (wyOf (wayCh f g m) s2) bs h)])) ∧ ∃ at_ lv x4 x5, StepAt (wyOf (wayCh f g m) s2) bs i at_ lv ∧ σ' = [some (.ref n), some (.ref l), some (.int at_), some (.int lv), x4, x5]) ?_ (fun i σ' H' _ p => (p.1).seqL (sqL_of e_p) npl) ?_ ?_
    · exact ⟨KeepB.refl _ _, ⟨[], s_H2 _ _ e_l, rfl, .nil⟩, _, _, _, _, .inl ⟨rfl, rfl, rfl⟩, rfl⟩
    · rintro i x σ' Ha Hb hi ⟨ka, ⟨acc, hla, hal, hacc⟩, at_, lv, x4, x5, st, rfl⟩ ⟨e0, hx⟩
      subst e0
      rw [List.length_map] at hi
      rw [List.getElem?_map] at hx
      obtain ⟨h, hh, rfl⟩ := Option.map_eq_some_iff.mp hx
      obtain ⟨t, ht, rfl⟩ := hym h (List.mem_of_getElem? hh)
      have hLt := hL2.hl t ht
      have ndl : d ≠ l := (ne_of hL2.hd (s_H2 _ _ e_l) nofun)
      have ntl : t.2.1 ≠ l := fun e => by
        have z := hL.hl t ht
        rw [e, n_l.e] at z
        cases z
      have hdb := ka _ _ hL2.hd ndl
      have hlb := ka _ _ hLt ntl
      have hnb := ka _ _ hn2 nnl
      walk_at "rd"
      refine rd_I (.inl ⟨by omega, by omega⟩) ?_
      walk_at "rd"
      refine rd_min2 fun ah hah => ?_ <;> walk_at "rd"
      have eah : ah = aH (wyOf (wayCh f g m) s2) bs t.1 := by
        rw [← grow_step ow hbs.lo (hys ▸ hh) st]
        show ah = min m (lv + g * (t.1 - at_))
        omega
      subst eah
      walk_at "rd"
      refine rd_dgtI (kvs := cutK L) hdb (valV_cutS hL.nk ht) ?_
      walk_at "rd"
      refine rd_sum (ns := t.2.2) (sqL_of hlb) ?_
      walk_at "rd"
      refine rd_max2 fun mm hm => ?_ <;> walk_at "rd"
      have hb : s2 ≤ t.1 := by
        obtain ⟨b, hb, e⟩ := mem_hoursOf.mp (hys ▸ List.mem_of_getElem? hh)
        rw [← e]
        exact hbs.lo b hb
      have es : cutSum bs t.1 = t.2.2.sum := by rw [cutSum_perm hp, cutSum_flat hL.nk, cutsL_of hL.nk ht]
      have em : mm = bH (wyOf (wayCh f g m) s2) bs t.1 := by
        rw [bH_eq (w := wyOf (wayCh f g m) s2) hb, es]
        omega
      subst em
      walk_at "rd"
      refine rd_tyL (sqL_of hla) ?_
      walk_at "rd"
      refine rd_tupB fun t2 Hc n_t2 s_Hc e_t2 => ?_ <;> walk_at "rd"
      refine rd_append (s_Hc _ _ hla) (by omega) ?_
      walk_at "rd"
      have et : ys.take (i + 1) = ys.take i ++ [t.1] := by rw [List.take_add_one, hh]; rfl
      refine ⟨(ka.trans (Same.keepB s_Hc)).put, ⟨acc ++ [.ref t2], upd_same, by rw [List.length_append, hal]; rfl, ?_⟩, _, _, _, _, .inr ⟨i, rfl, hys ▸ hh, rfl⟩, rfl⟩
      rw [et, List.map_append]
      refine ((hacc.keep s_Hc).snoc e_t2).same fun b xs e => ?_
      rw [upd_ne (ne_of e (s_Hc _ _ hla) nofun)]
      exact e
    · rintro σ' Ha ⟨ka, ⟨acc, hla, hal, hacc⟩, at_, lv, x4, x5, st, rfl⟩
      walk_at "rd"
      rw [List.length_map, List.take_length, hys] at hacc
      have sA : Same H Ha := fun b o e => ka b o (s_H2 _ _ (s_H1 _ _ e)) (ne_of_none e n_l.e)
      exact q l acc Ha n_l sA hla hacc
def sp_law_at (K : PySem.W.Frag) : Sp := fun vs H Q _ => ∃ (n : Addr) (f g m s h : Int) (bs : List (Int × Int)) (S : List Addr), vs = [.ref n, .int h] ∧ NumAt H n f g m s bs S ∧ NumOk f g m s ∧ BsOk s bs ∧ bs.length < 64 ∧ s ≤ h ∧ h ≤ 2000000000 ∧
  ∀ q H', Nn H q → Same H H' → H' q = some (.tup [.int (aH (wyOf (wayCh f g m) s) bs h), .int (bH (wyOf (wayCh f g m) s) bs h)]) → Q (.ref q) H'
theorem ok_law_at (T : Tx K mg) : FnOk P w K mg base CX0 2 T.a_law_at T.d_law_at ["_law_numbers_here", "_law_hour_here"] (sp_law_at K) := by
  refine T.F_law_at.ok sc_law_at (fun vs H Q E h => ?_) (fun cdv A outer s H vs Q E hr h => ?_)
  · obtain ⟨n, f, g, m, s, h, bs, S, rfl, _⟩ := h
    rfl
  · refine ⟨_, (pss_cons (ps_par (i := 2) (j := 3) rfl sc_law_at.nd rfl rfl (by decide) rfl rfl (pa_cons (pe_dget (hu_of hr) (pv 0) pe_str (fun _ _ => rfl)) (pa_cons (pe_dget (hu_of hr) (pv 0) pe_str (fun _ _ => rfl)) pa_nil)) (by rfl))
        (pss_cons (ps_for PassesOwn.never rfl (pi_listK (K := K) rfl (pe_call (ok_law_rows T) (hr.mono (by decide)) (by rfl) T.g_law_rows T.F_law_rows.kp T.b_law_rows .nil pass0 (pa_cons (pv 0) pa_nil))) (pg_tup rfl (pgs_cons (pg_name (i := 4) sc_law_at.nd rfl (Or.inl rfl)) (pgs_cons (pg_name (i := 5) sc_law_at.nd rfl (Or.inl rfl)) (pgs_cons (pg_name (i := 6) sc_law_at.nd rfl (Or.inl rfl)) pgs_nil))))
        (pss_cons (ps_if (pt_cmpR op_eq (pv 4) (pv 1) (nomark _))
        (pss_one (ps_ret (pe_tup (pa_cons (pv 5) (pa_cons (pv 6) pa_nil)))))
        pss_nil)
        (pss_one (ps_if (pt_cmpR op_lt (pv 4) (pv 1) (nomark _))
        (pss_one (ps_par (i := 2) (j := 3) rfl sc_law_at.nd rfl rfl (by decide) rfl rfl (pa_cons (pv 4) (pa_cons (pv 6) pa_nil)) (by rfl)))
        pss_nil))))
        (pss_cons (ps_set (i := 7) sc_law_at.nd rfl (Or.inl rfl) (pe_callB (min2 rfl) (by rfl) T.m_min (by decide +kernel) (pa_cons (pe_dget (hu_of hr) (pv 0) pe_str (fun _ _ => rfl)) (pa_cons (pe_op op_add (pv 3) (pe_op op_mul (pe_dget (hu_of hr) (pv 0) pe_str (fun _ _ => rfl)) (pe_op op_sub (pv 1) (pv 2)))) pa_nil))))
        (pss_one (ps_ret (pe_tup (pa_cons (pv 7) (pa_cons (pv 7) pa_nil)))))))), ?_⟩
    obtain ⟨n, f, g, m, s2, h, bs, S, rfl, hN, ok, hbs, hlen, h0, h1, q⟩ := h
    obtain ⟨d, L, hn, hL, hp, rfl⟩ := id hN
    have ow : WyOk (wyOf (wayCh f g m) s2) := wyOk ok.ch
    walk_at "rd"
    refine ⟨n, f, g, m, s2, bs, _, rfl, hN, ok, hbs, hlen, fun l ps H1 n_l s_H1 e_l hr => ?_⟩
    refine rd_ilB ?_ <;> walk_at "rd"
    have hn1 := s_H1 _ _ hn
    have hpl := hr.len
    unfold rowsV at hpl
    rw [List.length_map] at hpl
    refine forgo (walk_list (xs := ps)) (fun i σ' H' => Same H1 H' ∧ ∃ at_ lv x4 x5 x6, AtSt (wyOf (wayCh f g m) s2) bs h i at_ lv ∧ σ' = [some (.ref n), some (.int h), some (.int at_), some (.int lv), x4, x5, x6, none]) ?_ (fun i σ' H' _ p => sqL_of (p.1 _ _ e_l)) ?_ ?_
    · exact ⟨Same.refl _, _, _, _, _, _, AtSt.zero, rfl⟩
    · rintro i x σ' Ha Hb hi ⟨ka, at_, lv, x4, x5, x6, st, rfl⟩ ⟨e0, hx⟩
      subst e0
      obtain ⟨t, r, rfl, er, ht⟩ := hr.get hx
      unfold rowsV at er
      rw [List.getElem?_map] at er
      obtain ⟨k, hk, rfl⟩ := Option.map_eq_some_iff.mp er
      have ht2 := ka _ _ ht
      have hn2 := ka _ _ hn1
      have step := st.step hk
      walk_at "rd"
      refine rd_gtup (sqT_of ht2) rfl ?_
      walk_at "rd"
      refine rd_iteD (fun e => ?_) (fun e => ?_) <;> walk_at "rd"
      · refine rd_tupB fun t3 Hc n_t3 s_Hc e_t3 => ?_ <;> walk_at "rd"
        have e : k = h := by simpa using e
        subst e
        exact q t3 Hc ⟨nn_same n_t3 (s_H1.trans ka)⟩ (s_H1.trans (ka.trans s_Hc)) e_t3
      · have ne : k ≠ h := by simpa using e
        walk_at "rd"
        refine rd_iteD (fun e2 => ?_) (fun e2 => ?_) <;> walk_at "rd"
        · walk_at "rd"
          exact ⟨ka, _, _, _, _, _, (step ne).1 e2, rfl⟩
        · walk_at "rd"
          exact ⟨ka, _, _, _, _, _, (step ne).2 e2, rfl⟩
    · rintro σ' Ha ⟨ka, at_, lv, x4, x5, x6, st, rfl⟩
      have hn2 := ka _ _ hn1
      have fin := st.fin ow hbs.lo h0 (by omega)
      have hg0 := ok.g0
      have hg1 := ok.g1
      walk_at "rd"
      refine rd_I (.inl ⟨by omega, by omega⟩) ?_
      walk_at "rd"
      refine rd_min2 fun ah hah => ?_ <;> walk_at "rd"
      have eah : ah = grow (wyOf (wayCh f g m) s2) lv (h - at_) := by
        show ah = min m (lv + g * (h - at_))
        omega
      walk_at "rd"
      refine rd_tupB fun t2 Hc n_t2 s_Hc e_t2 => ?_ <;> walk_at "rd"
      refine q t2 Hc ⟨nn_same n_t2 (s_H1.trans ka)⟩ (s_H1.trans (ka.trans s_Hc)) ?_
      rw [e_t2, eah]
      rw [fin.1, ← fin.2, fin.1]
def sp_law_mended (T : Tx K mg) : Sp := fun vs H Q E => ∃ (a : Addr) (h k : Int) (c : Ch) (since : Int) (bs : List (Int × Int)) (S : List Addr), vs = [.ref a, .int h, .int k] ∧ IceAt T H a c since bs S ∧ bs.length < 64 ∧ since ≤ h ∧ h ≤ 100000000 ∧ 1 ≤ k ∧ k ≤ 1000000 ∧
  ((h, k) ∈ bs → ∀ q S' H', KeepS S H H' → IceAt T H' a c since (bs.erase (h, k)) S' → (∀ x ∈ S', x ∈ S) → H' q = some (.tup [.str (Str.ofString "told"), .non]) → Q (.ref q) H') ∧
  ((h, k) ∉ bs → ∀ q t H', Same H H' → H' t = some (.tup [.int h, .int k]) → H' q = some (.tup [.str (Str.ofString "none"), .ref t]) → Q (.ref q) H')
theorem ok_law_mended (T : Tx K mg) : FnOk P w K mg base CX0 5 T.a_law_mended T.d_law_mended ["_law_ice_here", "_law_hour_here", "_law_cut_here"] (sp_law_mended T) := by
  refine T.F_law_mended.ok sc_law_mended (fun vs H Q E h => ?_) (fun cdv A outer s H vs Q E hr h => ?_)
  · obtain ⟨a, h, k, c, since, bs, S, rfl, _⟩ := h
    rfl
  · refine ⟨_, (pss_one (ps_tryN rfl rfl sc_law_mended.nd takes0 (fun W pn xe tk po => by exact (pss_one (ps_ret (pe_tup (pa_cons pe_str (pa_cons (pe_methS (pv 0) T.cl_Ice T.me_Ice_mend_at (ok_Ice_mend_at T) (hr.mono (by decide)) T.b_Ice_mend_at (fun σ => passAt tk σ) (pa_cons (pv 1) (pa_cons (pv 2) pa_nil))) pa_nil))))))
        (Hands.named (i := 3) rfl rfl ⟨rfl, by decide, .inl T.g_NoEntry⟩ (fun a oe cls d pn hz hf => by exact (pss_one (ps_ret (pe_tup (pa_cons pe_str (pa_cons (pe_xf T.xf_NoEntry T.n_NoEntry_found hz hf (pv 3)) pa_nil)))))) (Hands.plain ⟨rfl, by decide, .inl T.g_IceError⟩ (fun a oe cls d pn hz hf => by exact (pss_one (ps_ret (pe_tup (pa_cons pe_str (pa_cons pe_non pa_nil)))))) Hands.nil)))), ?_⟩
    obtain ⟨a, h, k, c, since, bs, S, rfl, hI, hlen, h0, h1, k0, k1, q1, q2⟩ := h
    have hs0 : 0 ≤ since := by
      obtain ⟨_, _, _, _, _, _, _, _, z, _⟩ := id hI
      exact z
    walk_at "rd"
    obtain ⟨_, _, _, ⟨⟨_, hA⟩, _⟩, _⟩ := id hI
    walk_at "rd"
    refine ⟨a, .int h, .int k, c, since, bs, S, rfl, hI, hlen, trivial, trivial, fun h' k' e1 e2 m S' H' kS hI' sub => ?_, fun h' k' e1 e2 _ _ _ _ nm t d H' sH ht hd => ?_, fun w => ?_, fun _ w => ?_⟩
    · cases e1
      cases e2
      walk_at "rd"
      refine rd_tupB fun p H2 n_p s_H2 e_p => ?_ <;> walk_at "rd"
      exact q1 m p S' H2 (ks_same kS s_H2) (hI'.keep s_H2) sub e_p
    · cases e1
      cases e2
      refine ⟨true, T.te_NoEntry_NoEntry, fun _ a0 ha0 => ?_, fun e => Bool.noConfusion e⟩
      refine suite_named ?_
      walk_at "rd"
      refine rd_tupB fun p H2 n_p s_H2 e_p => ?_ <;> walk_at "rd"
      exact q2 nm p t H2 (sH.trans s_H2) (s_H2 _ _ ht) e_p
    · exfalso
      rw [within_ok h0 h1] at w
      cases w
    · exfalso
      rw [within_ok k0 k1] at w
      cases w
def sp_law_mend (T : Tx K mg) : Sp := fun vs H Q E => ∃ (p a n : Addr) (k : Nat) (f g m s : Int) (bs : List (Int × Int)) (S : List Addr), vs = [.ref p, .ref a, .ref n] ∧ BoxAt H p k ∧ k ≤ 800000 ∧ Pr T H a n f g m s bs S ∧ p ∉ S ∧ bs.length < 64 ∧
  ∀ bs' S' H', bs'.length ≤ bs.length → Pr T H' a n f g m s bs' S' → (∀ x ∈ S', x ∈ S ∨ H x = none) → BoxAt H' p (k + 20) → KeepS (p :: S) H H' → Q (.bl true) H'
theorem ok_law_mend (T : Tx K mg) : FnOkG P w K mg base 6 T.a_law_mend T.d_law_mend ["_law_box_here", "_law_ice_here", "_law_numbers_here"] (sp_law_mend T) := by
  refine okG T.F_law_mend sc_law_mend (fun vs H Q E h => ?_) (fun cdv A outer s H vs Q E hG hr h => ?_)
  · obtain ⟨p, a, n, k, f, g, m, s, bs, S, rfl, _⟩ := h
    rfl
  · refine ⟨_, (pss_cons (ps_set (i := 3) sc_law_mend.nd rfl (Or.inl rfl) (pe_call (ok_law_all T) (hr.mono (by decide)) (by rfl) T.g_law_all T.F_law_all.kp T.b_law_all .nil pass0 (pa_cons (pv 2) pa_nil)))
        (C8.pss_cut (ps_asg (pe_ifExp (pt_cmpR (neW (K := K) rfl hr.units) (pv 3) (pe_lst pa_nil) (nomark _)) (pe_ix (ixLK (K := K) rfl) (pv 3) (pe_call (ok_law_take T) (hr.mono (by decide)) (by rfl) T.g_law_take T.F_law_take.kp T.b_law_take .nil pass0 (pa_cons (pv 0) (pa_cons (pe_callB (lenK (K := K) rfl) (by rfl) T.m_len (by decide +kernel) (pa_cons (pv 3) pa_nil)) pa_nil))) (fun _ _ => rfl)) (pe_tup (pa_cons (pe_call (ok_law_hour T) (hr.mono (by decide)) (by rfl) T.g_law_hour T.F_law_hour.kp T.b_law_hour .nil pass0 (pa_cons (pv 0) (pa_cons (pv 2) pa_nil))) (pa_cons pe_int pa_nil)))) (pg_tup rfl (pgs_cons (pg_name (i := 4) sc_law_mend.nd rfl (Or.inl rfl)) (pgs_cons (pg_name (i := 5) sc_law_mend.nd rfl (Or.inl rfl)) pgs_nil))))
        (pss_cons (ps_set (i := 6) sc_law_mend.nd rfl (Or.inl rfl) (pe_call (ok_law_take T) (hr.mono (by decide)) (by rfl) T.g_law_take T.F_law_take.kp T.b_law_take .nil pass0 (pa_cons (pv 0) (pa_cons pe_int pa_nil))))
        (C8.pss_cut (ps_if (pt_cmpR op_eq (pv 6) pe_int (nomark _))
        (pss_one (ps_set (i := 5) sc_law_mend.nd rfl (Or.inl rfl) (pe_call (ok_law_cut T) (hr.mono (by decide)) (by rfl) T.g_law_cut T.F_law_cut.kp T.b_law_cut .nil pass0 (pa_cons (pv 0) (pa_cons (pv 2) pa_nil)))))
        pss_nil)
        (C8.pss_cut (ps_if (pt_cmpR op_eq (pv 6) pe_int (nomark _))
        (pss_one (ps_set (i := 4) sc_law_mend.nd rfl (Or.inl rfl) (pe_call (ok_law_hour T) (hr.mono (by decide)) (by rfl) T.g_law_hour T.F_law_hour.kp T.b_law_hour .nil pass0 (pa_cons (pv 0) (pa_cons (pv 2) pa_nil)))))
        pss_nil)
        (pss_cons (ps_set (i := 7) sc_law_mend.nd rfl (Or.inl rfl) (pe_callB (reprE (K := K) rfl hG hr.units) (by rfl) T.m_repr (by decide +kernel) (pa_cons (pe_call (ok_law_at T) (hr.mono (by decide)) (by rfl) T.g_law_at T.F_law_at.kp T.b_law_at .nil pass0 (pa_cons (pv 2) (pa_cons (pv 4) pa_nil))) pa_nil)))
        (C8.pss_cut (ps_if (PW.pt (pw_and (pt_cmpR op_eq (pe_call (ok_law_take T) (hr.mono (by decide)) (by rfl) T.g_law_take T.F_law_take.kp T.b_law_take .nil pass0 (pa_cons (pv 0) (pa_cons pe_int pa_nil))) pe_int (nomark _)) (pw_and1 (pt_cmpR op_ne (pe_callB (reprE (K := K) rfl hG hr.units) (by rfl) T.m_repr (by decide +kernel) (pa_cons (pe_tup (pa_cons (pe_meth (pv 1) T.cl_Ice T.me_Ice_ahead (ok_Ice_ahead T) (hr.mono (by decide)) T.b_Ice_ahead .nil passX0 (pa_cons (pv 4) pa_nil)) (pa_cons (pe_meth (pv 1) T.cl_Ice T.me_Ice_thick (ok_Ice_thick T) (hr.mono (by decide)) T.b_Ice_thick .nil passX0 (pa_cons (pv 4) pa_nil)) pa_nil))) pa_nil)) (pv 7) (nomark _)))))
        (pss_one (ps_ret pe_bl))
        pss_nil)
        (pss_cons (ps_set (i := 8) sc_law_mend.nd rfl (Or.inl rfl) (pe_tup (pa_cons pe_str (pa_cons (pe_tup (pa_cons (pv 4) (pa_cons (pv 5) pa_nil))) pa_nil))))
        (C8.pss_cut (ps_if (pt_cmpR (inSeqK (K := K) rfl) (pv 5) (pe_dget2 (hu_of hr) (pe_dget (hu_of hr) (pv 2) pe_str (fun _ _ => rfl)) (pv 4) (pe_lst pa_nil) ⟨by rfl, by rfl, by rfl, by rfl⟩) rfl)
        (pss_cons (ps_set (i := 8) sc_law_mend.nd rfl (Or.inl rfl) (pe_tup (pa_cons pe_str (pa_cons pe_non pa_nil))))
        (pss_one (ps_expr (pe_bm PySem.F.plainAttrs_list PySem.F.slot_list_remove PySem.F.type_list_remove mt_remove (pe_dget (hu_of hr) (pe_dget (hu_of hr) (pv 2) pe_str (fun _ _ => rfl)) (pv 4) (fun _ _ => rfl)) (pa_cons (pv 5) pa_nil)))))
        pss_nil)
        (C8.pss_cut (ps_if (pt_cmpR (eqO (K := K) rfl hr.units) (pe_dget1 (hu_of hr) (pe_dget (hu_of hr) (pv 2) pe_str (fun _ _ => rfl)) (pv 4) ⟨by rfl, by rfl, by rfl, by rfl⟩) (pe_lst pa_nil) (nomark _))
        (pss_one (ps_expr (pe_dpop1 (pe_dget (hu_of hr) (pv 2) pe_str (fun _ _ => rfl)) (pv 4) ⟨by rfl, by rfl, by rfl, by rfl⟩)))
        pss_nil)
        (pss_one (ps_ret (pe_cmpR op_eq (pe_callB (reprE (K := K) rfl hG hr.units) (by rfl) T.m_repr (by decide +kernel) (pa_cons (pe_call (ok_law_mended T) (hr.mono (by decide)) (by rfl) T.g_law_mended T.F_law_mended.kp T.b_law_mended .nil pass0 (pa_cons (pv 1) (pa_cons (pv 4) (pa_cons (pv 5) pa_nil)))) pa_nil)) (pe_callB (reprE (K := K) rfl hG hr.units) (by rfl) T.m_repr (by decide +kernel) (pa_cons (pv 8) pa_nil)) (nomark _)))))))))))))), ?_⟩
    obtain ⟨p, a, n, k, f, g, m, s2, bs, S, rfl, hB, hk, ⟨Si, Sn, hI, hN, rfl, dis, ok⟩, npS, hlen, q⟩ := h
    obtain ⟨d, L, hn, hL, hp, rfl⟩ := id hN
    have npn : n ≠ p := fun e => npS (e ▸ List.mem_append_right _ List.mem_cons_self)
    have ow : WyOk (wyOf (wayCh f g m) s2) := wyOk ok.ch
    have hbs : BsOk s2 bs := by
      obtain ⟨_, _, _, _, _, _, _, _, _, _, o⟩ := id hI
      exact o
    have hm1 := ok.m1
    have hs0 := ok.s0
    have hs1 := ok.s1
    walk_at "rd"
    refine ⟨n, f, g, m, s2, bs, _, rfl, hN, hlen, fun l ps H1 n_l s_H1 e_l hr => ?_⟩
    have hB1 := hB.keep s_H1
    walk_at "rd"
    have hl := hr.len
    unfold brkV at hl
    rw [List.length_map, (brkOf_perm bs).length_eq] at hl
    refine ⟨fun σ' H' => ∃ h c, s2 ≤ h ∧ h ≤ 100000000 ∧ 1 ≤ c ∧ c ≤ 1000000 ∧ BoxAt H' p (k + 4) ∧ KeepB p H1 H' ∧ σ' = [some (.ref p), some (.ref a), some (.ref n), some (.ref l), some (.int h), some (.int c), none, none, none], ?_, ?_⟩
    · walk_at "rd"
      refine rd_lstB fun e0 H2 n_e0 s_H2 e_e0 => ?_ <;> walk_at "rd"
      by_cases hb : bs = []
      · subst hb
        obtain rfl : ps = [] := List.eq_nil_of_length_eq_zero hl
        refine rd_neW (n := 1) (eqS_lst (sqL_of (s_H2 _ _ e_l)) (sqL_of e_e0) AlkAll.nil) ?_
        walk_at "rd"
        refine ⟨p, n, k, f, g, m, s2, _, _, rfl, hB1.keep s_H2, by omega, (hN.keep s_H1).keep s_H2, fun z => npS (List.mem_append_right _ z), ok, fun h H3 h0 h1 b_H3 k_H3 => ?_⟩
        walk_at "rd"
        refine rd_tupB fun t H4 n_t s_H4 e_t => ?_ <;> walk_at "rd"
        refine rd_gtup (sqT_of e_t) rfl ?_
        walk_at "rd"
        exact ⟨h, 1, h0, h1, by omega, by omega, b_H3.keep s_H4, ((Same.keepB s_H2).trans k_H3).trans (Same.keepB s_H4), rfl⟩
      · have hpos : 0 < bs.length := List.length_pos_iff.mpr hb
        refine rd_neWF (n := 1) (eqS_len (sqL_of (s_H2 _ _ e_l)) (sqL_of e_e0) (ne_of_none e_l n_e0.e) (fun z => by rw [show ([] : List V).length = 0 from rfl] at z; omega)) ?_
        walk_at "rd"
        refine rd_take (hB1.keep s_H2) (by omega) (by omega) (by omega) fun r1 H3 r1_0 r1_1 b_H3 k_H3 => ?_
        obtain ⟨rn, rfl⟩ : ∃ rn : Nat, r1 = (rn : Int) := ⟨r1.toNat, by omega⟩
        have hrn : rn < ps.length := by omega
        obtain ⟨t, r, et, er, ht⟩ := hr.get (List.getElem?_eq_getElem hrn)
        unfold brkV at er
        rw [List.getElem?_map] at er
        obtain ⟨b, hbb, rfl⟩ := Option.map_eq_some_iff.mp er
        have mb : b ∈ bs := (brkOf_perm bs).mem_iff.mp (List.mem_of_getElem? hbb)
        have nlp : l ≠ p := hB.ne n_l.e
        have hl3 : H3 l = some (.lst ps) := k_H3 _ _ (s_H2 _ _ e_l) nlp
        have ht3 : H3 t = some (.tup [.int b.1, .int b.2]) := (ks_kb (hB1.keep s_H2) k_H3).tup _ _ (s_H2 _ _ ht)
        walk_at "rd"
        refine rd_ixL1 (xs := ps) (v := .ref t) (sqL_of hl3) (atI_nat (by rw [List.getElem?_eq_getElem hrn, et])) ?_
        refine rd_gtup (sqT_of ht3) rfl ?_
        walk_at "rd"
        exact ⟨b.1, b.2, hbs.lo b mb, hbs.hi b mb, hbs.c0 b mb, hbs.c1 b mb, b_H3.mono (by omega), (Same.keepB s_H2).trans k_H3, rfl⟩
    · rintro σ' Ha ⟨h, c, h0, h1, c0, c1, bA, kA, rfl⟩
      have KSa := ks_kb hB1 kA
      have nS : ∀ x ∈ Si ++ n :: fpC d L, x ∉ [p] := not_p npS
      have hNa := (hN.keep s_H1).keepS KSa fun x hx => nS x (List.mem_append_right _ hx)
      walk_at "rd"
      refine rd_take bA (by omega) (by omega) (by omega) fun w Hb w_0 w_1 b_Hb k_Hb => ?_
      have hNb := hNa.keepS (ks_kb bA k_Hb) fun x hx => nS x (List.mem_append_right _ hx)
      walk_at "rd"
      refine ⟨fun σ' H' => ∃ c, 1 ≤ c ∧ c ≤ 1000000 ∧ BoxAt H' p (k + 9) ∧ KeepB p H1 H' ∧ σ' = [some (.ref p), some (.ref a), some (.ref n), some (.ref l), some (.int h), some (.int c), some (.int w), none, none], ?_, ?_⟩
      · walk_at "rd"
        refine rd_iteD (fun e1 => ?_) (fun e1 => ?_) <;> walk_at "rd"
        · walk_at "rd"
          refine ⟨p, n, _, f, g, m, s2, bs, _, rfl, b_Hb, by omega, hNb, fun z => npS (List.mem_append_right _ z), ok, fun c' Hc c0 c1 b_Hc k_Hc => ?_⟩
          walk_at "rd"
          exact ⟨c', c0, c1, b_Hc, (kA.trans k_Hb).trans k_Hc, rfl⟩
        · walk_at "rd"
          exact ⟨c, c0, c1, b_Hb.mono (by omega), kA.trans k_Hb, rfl⟩
      · rintro σ' Hc ⟨c, c0, c1, bC, kC, rfl⟩
        have hNc := (hN.keep s_H1).keepS (ks_kb hB1 kC) fun x hx => nS x (List.mem_append_right _ hx)
        walk_at "rd"
        refine ⟨fun σ' H' => ∃ h, s2 ≤ h ∧ h ≤ 100000000 ∧ BoxAt H' p (k + 13) ∧ KeepB p H1 H' ∧ σ' = [some (.ref p), some (.ref a), some (.ref n), some (.ref l), some (.int h), some (.int c), some (.int w), none, none], ?_, ?_⟩
        · walk_at "rd"
          refine rd_iteD (fun e1 => ?_) (fun e1 => ?_) <;> walk_at "rd"
          · walk_at "rd"
            refine ⟨p, n, _, f, g, m, s2, bs, _, rfl, bC, by omega, hNc, fun z => npS (List.mem_append_right _ z), ok, fun h' Hd h0 h1 b_Hd k_Hd => ?_⟩
            walk_at "rd"
            exact ⟨h', h0, h1, b_Hd, kC.trans k_Hd, rfl⟩
          · walk_at "rd"
            exact ⟨h, h0, h1, bC.mono (by omega), kC, rfl⟩
        · rintro σ' Hd ⟨h, h0, h1, bD, kD, rfl⟩
          have KSd := ks_kb hB1 kD
          have hNd := (hN.keep s_H1).keepS KSd fun x hx => nS x (List.mem_append_right _ hx)
          have hId := (hI.keep s_H1).keepS KSd fun x hx => nS x (List.mem_append_left _ hx)
          walk_at "rd"
          refine ⟨n, f, g, m, s2, h, bs, _, rfl, hNd, ok, hbs, hlen, h0, by omega, fun q1 He n_q1 s_He e_q1 => ?_⟩
          have a0 := aH_lo ow (bs := bs) (h := h)
          have a1 : aH (wyOf (wayCh f g m) s2) bs h ≤ m := aH_hi ow
          have b0 := bH_lo (w := wyOf (wayCh f g m) s2) (bs := bs) (h := h)
          have b1 : bH (wyOf (wayCh f g m) s2) bs h ≤ m := bH_hi ow hbs.nn
          have okA : okD (.tuple [.int (aH (wyOf (wayCh f g m) s2) bs h), .int (bH (wyOf (wayCh f g m) s2) bs h)]) := Sm.ok (Sm.tup (n := 0) (w := 2000) (m := 2) (sm_cons (Sm.int (Nat.le_trans (show (aH (wyOf (wayCh f g m) s2) bs h).natAbs ≤ 1000000 by omega) (by decide))) (sm_cons (Sm.int (Nat.le_trans (show (bH (wyOf (wayCh f g m) s2) bs h).natAbs ≤ 1000000 by omega) (by decide))) sm_nil)) (Nat.le_refl _))
          walk_at "rd"
          refine rd_rZ (d := .tuple [.int (aH (wyOf (wayCh f g m) s2) bs h), .int (bH (wyOf (wayCh f g m) s2) bs h)]) (fun z1 y_z1 => ?_) (.dp (dp_tup e_q1 (.cons (.int _) (.cons (.int _) .nil)))) okA
          walk_at "rd"
          have bE := bD.keep s_He
          have hIe := hId.keep s_He
          have kE := kD.trans (Same.keepB s_He)
          refine ⟨fun σ' H' => BoxAt H' p (k + 14) ∧ KeepB p H1 H' ∧ σ' = [some (.ref p), some (.ref a), some (.ref n), some (.ref l), some (.int h), some (.int c), some (.int w), some (.str z1), none], ?_, ?_⟩
          · walk_at "rd"
            refine rd_take bE (by omega) (by omega) (by omega) fun r3 Hf r3_0 r3_1 b_Hf k_Hf => ?_
            have hIf := hIe.keepS (ks_kb bE k_Hf) fun x hx => nS x (List.mem_append_left _ hx)
            obtain ⟨_, _, _, ⟨⟨_, hAf⟩, _⟩, _⟩ := id hIf
            walk_at "rd"
            refine rd_iteD (fun e1 => ?_) (fun e1 => ?_) <;> walk_at "rd"
            · walk_at "rd"
              refine ⟨a, .int h, _, s2, bs, _, rfl, hIf, hlen, trivial, fun h' e _ _ Hg s_Hg => ?_, fun w => ?_⟩
              · cases e
                have hIg := hIf.keep s_Hg
                have hAg := s_Hg _ _ hAf
                walk_at "rd"
                refine ⟨a, .int h, _, s2, bs, _, rfl, hIg, hlen, trivial, fun h' e _ _ Hh s_Hh => ?_, fun w => ?_⟩
                · cases e
                  walk_at "rd"
                  refine rd_tupB fun q2 Hi n_q2 s_Hi e_q2 => ?_ <;> walk_at "rd"
                  refine rd_rZ (d := .tuple [.int (aH (wyOf (wayCh f g m) s2) bs h), .int (bH (wyOf (wayCh f g m) s2) bs h)]) (fun z2 y_z2 => ?_) (.dp (dp_tup e_q2 (.cons (.int _) (.cons (.int _) .nil)))) okA
                  walk_at "rd"
                  first | refine rd_iteN (ite_sameP (y_z2.trans y_z1.symm) ?_) | refine ite_sameP (y_z2.trans y_z1.symm) ?_
                  walk_at "rd"
                  exact ⟨b_Hf.keep ((s_Hg.trans s_Hh).trans s_Hi), (kE.trans k_Hf).trans (Same.keepB ((s_Hg.trans s_Hh).trans s_Hi)), rfl⟩
                · exfalso
                  rw [within_ok h0 (by omega)] at w
                  cases w
              · exfalso
                rw [within_ok h0 (by omega)] at w
                cases w
            · walk_at "rd"
              exact ⟨b_Hf, kE.trans k_Hf, rfl⟩
          · rintro σ' Hf ⟨bF, kF, rfl⟩
            have KSf := ks_kb hB1 kF
            have hIf := (hI.keep s_H1).keepS KSf fun x hx => nS x (List.mem_append_left _ hx)
            have hLf := (hL.keep s_H1).keepS KSf fun x hx => nS x (List.mem_append_right _ (List.mem_cons_of_mem _ hx))
            have hnf := kF _ _ (s_H1 _ _ hn) npn
            walk_at "rd"
            refine rd_tupB fun t1 Hg n_t1 s_Hg e_t1 => ?_ <;> walk_at "rd"
            refine rd_tupB fun t2 Hh n_t2 s_Hh e_t2 => ?_ <;> walk_at "rd"
            have sfh : Same Hf Hh := s_Hg.trans s_Hh
            have bH := bF.keep sfh
            have hLh := hLf.keep sfh
            have hnh := sfh _ _ hnf
            have e_t1h := s_Hh _ _ e_t1
            have KSh : KeepS [p] H Hh := ks_same ((KeepS.of s_H1).trans KSf) sfh
            have KSh' : KeepS (p :: n :: fpC d L) H Hh := KSh.mono fun x hx => by rw [List.mem_singleton.mp hx]; exact List.mem_cons_self
            clear hNa hNb hNc hNd hId hIe hIf KSa KSd KSf hLf hnf e_q1 bA bC bD bE bF b_Hb k_Hb kA kC kD kE kF s_He n_q1 sfh s_Hg s_Hh e_t1
            refine ⟨fun σ' H' => ∃ tx, BoxAt H' p (k + 14) ∧ KeepS (p :: n :: fpC d L) H H' ∧ H' n = some (.dK (numK f g m s2 d)) ∧ H' d = some (.dK (cutK L)) ∧
              ((∃ t ∈ L, t.1 = h ∧ c ∈ t.2.2 ∧ H' t.2.1 = some (.lst ((t.2.2.erase c).map V.int)) ∧ (∀ u ∈ L, u.1 ≠ t.1 → H' u.2.1 = some (.lst (u.2.2.map V.int))) ∧ H' tx = some (.tup [.str (Str.ofString "told"), .non])) ∨
                (CutsAt H' d L ∧ (h, c) ∉ bs ∧ H' tx = some (.tup [.str (Str.ofString "none"), .ref t1]) ∧ H' t1 = some (.tup [.int h, .int c]))) ∧
              σ' = [some (.ref p), some (.ref a), some (.ref n), some (.ref l), some (.int h), some (.int c), some (.int w), some (.str z1), some (.ref tx)], ?_, ?_⟩
            · have hdh := hLh.hd
              walk_at "rd"
              refine rd_lstB fun e0 Hi n_e0 s_Hi e_e0 => ?_ <;> walk_at "rd"
              have hLi := hLh.keep s_Hi
              have hni := s_Hi _ _ hnh
              have hdi := hLi.hd
              walk_at "rd"
              obtain ⟨x0, ex, hx0⟩ : ∃ x0, (valV (cutK L) (Sum.inl h)).getD (.ref e0) = .ref x0 ∧ Hi x0 = some (.lst ((cutsL L h).map V.int)) := by
                rcases find_cut (L := L) (h := h) with ⟨t, ht, rfl⟩ | z
                · rw [valV_cutS hL.nk ht, cutsL_of hL.nk ht]
                  exact ⟨_, rfl, hLi.hl t ht⟩
                · rw [valV_cutN z, cutsL_none z]
                  exact ⟨_, rfl, e_e0⟩
              rw [ex]
              refine rd_inL (sqL_of hx0) rfl all_flatI ?_
              rw [inV_int]
              walk_at "rd"
              refine rd_iteD (fun hm => ?_) (fun hm => ?_)
              · obtain ⟨t, ht, rfl⟩ : ∃ t ∈ L, t.1 = h := by
                  rcases find_cut (L := L) (h := h) with e | z
                  · exact e
                  · rw [cutsL_none z] at hm
                    cases hm
                have hlt := hLi.hl t ht
                have ntd := d_ne hLi ht
                walk_at "rd"
                refine rd_tupB fun t3 Hj n_t3 s_Hj e_t3 => ?_ <;> walk_at "rd"
                have hnj := s_Hj _ _ hni
                have hdj := s_Hj _ _ hdi
                have hltj := s_Hj _ _ hlt
                walk_at "rd"
                refine rd_dgtI (kvs := cutK L) hdj (valV_cutS hL.nk ht) ?_
                refine rd_tyL (sqL_of hltj) ?_
                walk_at "rd"
                rw [cutsL_of hL.nk ht] at hm
                refine rd_remove hltj hm ?_
                walk_at "rd"
                refine ⟨t3, ((bH.keep s_Hi).keep s_Hj).new ?_, (ks_same (ks_same KSh' s_Hi) s_Hj).put (hL.hl t ht) rfl (List.mem_cons_of_mem _ (List.mem_cons_of_mem _ (List.mem_cons_of_mem _ (List.mem_map_of_mem ht)))), ?_, ?_, .inl ⟨t, ht, rfl, hm, upd_same, fun u hu ne => ?_, ?_⟩, rfl⟩
                · exact fun z => npS (z ▸ List.mem_append_right _ (List.mem_cons_of_mem _ (List.mem_cons_of_mem _ (List.mem_map_of_mem ht))))
                · rw [upd_ne (ne_of hnj hltj nofun)]
                  exact hnj
                · rw [upd_ne (ne_of hdj hltj nofun)]
                  exact hdj
                · rw [upd_ne (others hL ht hu ne)]
                  exact s_Hj _ _ (hLi.hl u hu)
                · rw [upd_ne (ne_of e_t3 hltj nofun)]
                  exact e_t3
              · walk_at "rd"
                exact ⟨t2, bH.keep s_Hi, ks_same KSh' s_Hi, hni, hdi, .inr ⟨hLi, fun m => hm ((mem_cutsL hL.nk).mpr (hp.mem_iff.mp m)), s_Hi _ _ e_t2, s_Hi _ _ e_t1h⟩, rfl⟩
            · rintro σ' Hj ⟨tx, bJ, KSj, hnj, hdj, dj, rfl⟩
              refine ⟨fun σ' H' => ∃ tx bs' L', BoxAt H' p (k + 14) ∧ KeepS (p :: n :: fpC d L) H H' ∧ NumAt H' n f g m s2 bs' (n :: fpC d L') ∧ (∀ x ∈ fpC d L', x ∈ fpC d L) ∧
                (((h, c) ∈ bs ∧ bs' = bs.erase (h, c) ∧ H' tx = some (.tup [.str (Str.ofString "told"), .non])) ∨ ((h, c) ∉ bs ∧ bs' = bs ∧ H' tx = some (.tup [.str (Str.ofString "none"), .ref t1]) ∧ H' t1 = some (.tup [.int h, .int c]))) ∧
                σ' = [some (.ref p), some (.ref a), some (.ref n), some (.ref l), some (.int h), some (.int c), some (.int w), some (.str z1), some (.ref tx)], ?_, ?_⟩
              · rcases dj with ⟨t, ht, rfl, hm, hlt, o3, e_tx⟩ | ⟨hLj, nm, e_tx, e_t1j⟩
                · walk_at "rd"
                  refine rd_lstB fun e1 Hk n_e1 s_Hk e_e1 => ?_ <;> walk_at "rd"
                  have hltk := s_Hk _ _ hlt
                  have hnk := s_Hk _ _ hnj
                  have hdk := s_Hk _ _ hdj
                  have hmc : c ∈ cutsL L t.1 := by rw [cutsL_of hL.nk ht]; exact hm
                  have hpm : (cutsL L t.1).Perm (c :: t.2.2.erase c) := by
                    rw [cutsL_of hL.nk ht]
                    exact List.perm_cons_erase hm
                  have hmb : (t.1, c) ∈ bs := hp.mem_iff.mpr ((mem_cutsL hL.nk).mp hmc)
                  have nnd : n ≠ d := fun z => num_ne hn hL (z ▸ List.mem_cons_self)
                  have npd : p ≠ d := fun z => npS (z ▸ List.mem_append_right _ (List.mem_cons_of_mem _ List.mem_cons_self))
                  rw [valV_cutS hL.nk ht, Option.getD_some]
                  by_cases he : t.2.2.erase c = []
                  · refine .inr (rd_eqW (n := 1) (eqS_lst (sqL_of hltk) (sqL_of e_e1) ?_) ?_)
                    · rw [he]
                      exact AlkAll.nil
                    walk_at "rd"
                    refine rd_dppI (kvs := cutK L) hdk (valV_cutS hL.nk ht) ?_
                    walk_at "rd"
                    rw [← cutK_set2 hL.nk ⟨t, ht, rfl⟩, ← he]
                    refine ⟨tx, bs.erase (t.1, c), setCut L t.1 (t.2.2.erase c), (bJ.keep s_Hk).new npd, (ks_same KSj s_Hk).put hL.hd rfl (List.mem_cons_of_mem _ (List.mem_cons_of_mem _ List.mem_cons_self)), ⟨d, _, ?_, hL.set ht (fun u hu ne => ?_) upd_same fun e => absurd he e, bs_set hp ⟨t, ht, rfl⟩ hpm, rfl⟩, fun x hx => fp_set hx, .inl ⟨hmb, rfl, ?_⟩, rfl⟩
                    · rw [upd_ne nnd]
                      exact hnk
                    · rw [upd_ne (d_ne hL hu), hL.hl u hu]
                      exact s_Hk _ _ (o3 u hu ne)
                    · rw [upd_ne (ne_of (s_Hk _ _ e_tx) hdk nofun)]
                      exact s_Hk _ _ e_tx
                  · refine .inr (rd_eqWF (n := 1) (eqS_len (sqL_of hltk) (sqL_of e_e1) (ne_of_none hlt n_e1.e) ?_) ?_)
                    · rw [List.length_map]
                      exact fun z => he (List.eq_nil_of_length_eq_zero z)
                    walk_at "rd"
                    refine ⟨tx, bs.erase (t.1, c), setCut L t.1 (t.2.2.erase c), bJ.keep s_Hk, ks_same KSj s_Hk, ⟨d, _, hnk, hL.set ht (fun u hu ne => ?_) ?_ fun e => hltk, bs_set hp ⟨t, ht, rfl⟩ hpm, rfl⟩, fun x hx => fp_set hx, .inl ⟨hmb, rfl, s_Hk _ _ e_tx⟩, rfl⟩
                    · rw [hL.hl u hu]
                      exact s_Hk _ _ (o3 u hu ne)
                    · rw [cutK_set1 he]
                      exact hdk
                · walk_at "rd"
                  refine rd_lstB fun e1 Hk n_e1 s_Hk e_e1 => ?_ <;> walk_at "rd"
                  have fin : ∃ tx bs' L', BoxAt Hk p (k + 14) ∧ KeepS (p :: n :: fpC d L) H Hk ∧ NumAt Hk n f g m s2 bs' (n :: fpC d L') ∧ (∀ x ∈ fpC d L', x ∈ fpC d L) ∧
                      (((h, c) ∈ bs ∧ bs' = bs.erase (h, c) ∧ Hk tx = some (.tup [.str (Str.ofString "told"), .non])) ∨ ((h, c) ∉ bs ∧ bs' = bs ∧ Hk tx = some (.tup [.str (Str.ofString "none"), .ref t1]) ∧ Hk t1 = some (.tup [.int h, .int c]))) ∧
                      [some (V.ref p), some (V.ref a), some (V.ref n), some (V.ref l), some (V.int h), some (V.int c), some (V.int w), some (V.str z1), some (V.ref tx)] = [some (.ref p), some (.ref a), some (.ref n), some (.ref l), some (.int h), some (.int c), some (.int w), some (.str z1), some (.ref tx)] :=
                    ⟨tx, bs, L, bJ.keep s_Hk, ks_same KSj s_Hk, ⟨d, L, s_Hk _ _ hnj, hLj.keep s_Hk, hp, rfl⟩, fun x hx => hx, .inr ⟨nm, rfl, s_Hk _ _ e_tx, s_Hk _ _ e_t1j⟩, rfl⟩
                  obtain ⟨tx', bs', L', f1, f2, f3, f4, f5, _⟩ := fin
                  rcases find_cut (L := L) (h := h) with ⟨t, ht, rfl⟩ | z
                  · rw [valV_cutS hL.nk ht, Option.getD_some]
                    refine .inr (rd_eqWF (n := 1) (eqS_len (sqL_of (s_Hk _ _ (hLj.hl t ht))) (sqL_of e_e1) (ne_of_none (hLj.hl t ht) n_e1.e) ?_) ?_)
                    · rw [List.length_map]
                      exact fun z => hL.ne t ht (List.eq_nil_of_length_eq_zero z)
                    walk_at "rd"
                    exact ⟨tx, bs, L, bJ.keep s_Hk, ks_same KSj s_Hk, ⟨d, L, s_Hk _ _ hnj, hLj.keep s_Hk, hp, rfl⟩, fun x hx => hx, .inr ⟨nm, rfl, s_Hk _ _ e_tx, s_Hk _ _ e_t1j⟩, rfl⟩
                  · rw [valV_cutN z, Option.getD_none]
                    refine .inl ⟨rfl, _, _, rfl, sqL_of e_e1, ?_⟩
                    walk_at "rd"
                    exact ⟨tx, bs, L, bJ.keep s_Hk, ks_same KSj s_Hk, ⟨d, L, s_Hk _ _ hnj, hLj.keep s_Hk, hp, rfl⟩, fun x hx => hx, .inr ⟨nm, rfl, s_Hk _ _ e_tx, s_Hk _ _ e_t1j⟩, rfl⟩
              · rintro σ' Hk ⟨tx, bs', L', bK, KSk, hNk, sub, dk, rfl⟩
                have hIk : IceAt T Hk a (wayCh f g m) s2 bs Si := hI.keepS KSk fun x hx z => by
                  rcases List.mem_cons.mp z with rfl | z
                  · exact npS (List.mem_append_left _ hx)
                  · exact dis x hx z
                have fin : ∀ bs2 Si' Hm, bs2.length ≤ bs.length → bs2 = bs' → KeepS Si Hk Hm → IceAt T Hm a (wayCh f g m) s2 bs2 Si' → (∀ x ∈ Si', x ∈ Si) → ∀ H', Same Hm H' → Q (.bl true) H' := fun bs2 Si' Hm hle e KSm hIm sub' H' sm => by
                  subst e
                  have out : ∀ x ∈ n :: fpC d L', x ∉ Si := fun x hx hs => dis x hs ((List.mem_cons.mp hx).elim (fun e => e ▸ List.mem_cons_self) fun hx => List.mem_cons_of_mem _ (sub x hx))
                  refine q bs2 (Si' ++ n :: fpC d L') H' hle ⟨Si', _, hIm.keep sm, (hNk.keepS KSm out).keep sm, rfl, fun x hx hs => out x hs (sub' x hx), ok⟩ (fun x hx => .inl ?_) ((bK.ks KSm fun z => npS (List.mem_append_left _ z)).keep sm |>.mono (by omega)) (ks_same ((KSk.mono fun x hx => ?_).trans (KSm.mono fun x hx => List.mem_cons_of_mem _ (List.mem_append_left _ hx))) sm)
                  · rcases List.mem_append.mp hx with z | z
                    · exact List.mem_append_left _ (sub' x z)
                    · exact List.mem_append_right _ ((List.mem_cons.mp z).elim (fun e => e ▸ List.mem_cons_self) fun hx => List.mem_cons_of_mem _ (sub x hx))
                  · rcases List.mem_cons.mp hx with rfl | hx
                    · exact List.mem_cons_self
                    · exact List.mem_cons_of_mem _ (List.mem_append_right _ hx)
                walk_at "rd"
                refine ⟨a, h, c, _, s2, bs, Si, rfl, hIk, hlen, h0, h1, c0, c1, fun mb q1 S' Hm KSm hIm sub' e_q1 => ?_, fun nb q1 t5 Hm sm e_t5 e_q1 => ?_⟩
                · obtain ⟨_, eb, e_tx⟩ : (h, c) ∈ bs ∧ bs' = bs.erase (h, c) ∧ Hk tx = some (.tup [.str (Str.ofString "told"), .non]) := by
                    rcases dk with z | z
                    · exact z
                    · exact absurd mb z.1
                  have e_txm := KSm.tup _ _ e_tx
                  walk_at "rd"
                  refine rd_rZ (d := .tuple [.str (Str.ofString "told"), .none]) (fun z2 y_z2 => ?_) (.dp (dp_tup e_q1 (.cons (.str _) (.cons .non .nil))))
                  walk_at "rd"
                  refine rd_rZ (d := .tuple [.str (Str.ofString "told"), .none]) (fun z3 y_z3 => ?_) (.dp (dp_tup e_txm (.cons (.str _) (.cons .non .nil))))
                  walk_at "rd"
                  rw [decide_eq_true (congrArg V.str (y_z2.trans y_z3.symm))]
                  exact fin _ S' Hm (List.length_erase_le ..) eb.symm KSm hIm sub' _ (Same.refl _)
                · obtain ⟨_, eb, e_tx, e_t1k⟩ : (h, c) ∉ bs ∧ bs' = bs ∧ Hk tx = some (.tup [.str (Str.ofString "none"), .ref t1]) ∧ Hk t1 = some (.tup [.int h, .int c]) := by
                    rcases dk with z | z
                    · exact absurd z.1 nb
                    · exact z
                  have e_txm := sm _ _ e_tx
                  have e_t1m := sm _ _ e_t1k
                  have okT : okD (.tuple [.str (Str.ofString "none"), .tuple [.int h, .int c]]) := Sm.ok (Sm.tup (n := 1) (w := 20000) (m := 2) (sm_cons ((Sm.str (z := Str.ofString "none") (by decide +kernel) (by decide +kernel)).mono (Nat.zero_le _) (by decide)) (sm_cons ((Sm.tup (n := 0) (w := 2000) (m := 2) (sm_cons (Sm.int (Nat.le_trans (show h.natAbs ≤ 1000000000 by omega) (by decide))) (sm_cons (Sm.int (Nat.le_trans (show c.natAbs ≤ 1000000000 by omega) (by decide))) sm_nil)) (Nat.le_refl _)).mono (Nat.le_refl _) (by decide)) sm_nil)) (Nat.le_refl _))
                  walk_at "rd"
                  refine rd_rZ (d := .tuple [.str (Str.ofString "none"), .tuple [.int h, .int c]]) (fun z2 y_z2 => ?_) (.dp (dp_tup e_q1 (.cons (.str _) (.cons (dp_tup e_t5 (.cons (.int _) (.cons (.int _) .nil))) .nil)))) okT
                  walk_at "rd"
                  refine rd_rZ (d := .tuple [.str (Str.ofString "none"), .tuple [.int h, .int c]]) (fun z3 y_z3 => ?_) (.dp (dp_tup e_txm (.cons (.str _) (.cons (dp_tup e_t1m (.cons (.int _) (.cons (.int _) .nil))) .nil)))) okT
                  walk_at "rd"
                  rw [decide_eq_true (congrArg V.str (y_z2.trans y_z3.symm))]
                  exact fin _ Si Hm (Nat.le_refl _) eb.symm ((KeepS.of sm)) (hIk.keep sm) (fun x hx => hx) _ (Same.refl _)
def sp_law_deed (T : Tx K mg) : Sp := fun vs H Q E => ∃ (p a n : Addr) (k : Nat) (f g m s : Int) (bs : List (Int × Int)) (S : List Addr), vs = [.ref p, .ref a, .ref n] ∧ BoxAt H p k ∧ k ≤ 700000 ∧ Pr T H a n f g m s bs S ∧ p ∉ S ∧ bs.length < 63 ∧
  ∀ bs' S' H', bs'.length ≤ bs.length + 1 → Pr T H' a n f g m s bs' S' → (∀ x ∈ S', x ∈ S ∨ H x = none) → BoxAt H' p (k + 40) → KeepS (p :: S) H H' → Q (.bl true) H'
theorem ok_law_deed (T : Tx K mg) : FnOkG P w K mg base 7 T.a_law_deed T.d_law_deed ["_law_box_here", "_law_ice_here", "_law_numbers_here"] (sp_law_deed T) := by
  refine okG T.F_law_deed sc_law_deed (fun vs H Q E h => ?_) (fun cdv A outer s H vs Q E hG hr h => ?_)
  · obtain ⟨p, a, n, k, f, g, m, s, bs, S, rfl, _⟩ := h
    rfl
  · refine ⟨_, (pss_cons (ps_if (pt_cmpR op_lt (pe_call (ok_law_take T) (hr.mono (by decide)) (by rfl) T.g_law_take T.F_law_take.kp T.b_law_take .nil pass0 (pa_cons (pv 0) (pa_cons pe_int pa_nil))) pe_int (nomark _))
        (pss_one (ps_ret (pe_callG hG (ok_law_mend T) (hr.mono (by decide)) (by rfl) T.g_law_mend T.F_law_mend.kp T.b_law_mend (pa_cons (pv 0) (pa_cons (pv 1) (pa_cons (pv 2) pa_nil))))))
        pss_nil)
        (pss_cons (ps_par (i := 3) (j := 4) rfl sc_law_deed.nd rfl rfl (by decide) rfl rfl (pa_cons (pe_call (ok_law_hour T) (hr.mono (by decide)) (by rfl) T.g_law_hour T.F_law_hour.kp T.b_law_hour .nil pass0 (pa_cons (pv 0) (pa_cons (pv 2) pa_nil))) (pa_cons (pe_call (ok_law_cut T) (hr.mono (by decide)) (by rfl) T.g_law_cut T.F_law_cut.kp T.b_law_cut .nil pass0 (pa_cons (pv 0) (pa_cons (pv 2) pa_nil))) pa_nil)) (by rfl))
        (pss_cons (ps_set (i := 5) sc_law_deed.nd rfl (Or.inl rfl) (pe_call (ok_law_all T) (hr.mono (by decide)) (by rfl) T.g_law_all T.F_law_all.kp T.b_law_all .nil pass0 (pa_cons (pv 2) pa_nil)))
        (C8.pss_cut (ps_if (PW.pt (pw_and (pt_cmpR (neW (K := K) rfl hr.units) (pv 5) (pe_lst pa_nil) (nomark _)) (pw_and1 (pt_cmpR op_eq (pe_call (ok_law_take T) (hr.mono (by decide)) (by rfl) T.g_law_take T.F_law_take.kp T.b_law_take .nil pass0 (pa_cons (pv 0) (pa_cons pe_int pa_nil))) pe_int (nomark _)))))
        (pss_one (ps_asg (pe_ix (ixLK (K := K) rfl) (pv 5) (pe_call (ok_law_take T) (hr.mono (by decide)) (by rfl) T.g_law_take T.F_law_take.kp T.b_law_take .nil pass0 (pa_cons (pv 0) (pa_cons (pe_callB (lenK (K := K) rfl) (by rfl) T.m_len (by decide +kernel) (pa_cons (pv 5) pa_nil)) pa_nil))) (fun _ _ => rfl)) (pg_tup rfl (pgs_cons (pg_name (i := 3) sc_law_deed.nd rfl (Or.inl rfl)) (pgs_cons (pg_name (i := 4) sc_law_deed.nd rfl (Or.inl rfl)) pgs_nil)))))
        pss_nil)
        (pss_cons (ps_dput (hu_of hr) (pe_dget (hu_of hr) (pv 2) pe_str (fun _ _ => rfl)) (pv 3) (pe_op op_cat (pe_dget2 (hu_of hr) (pe_dget (hu_of hr) (pv 2) pe_str (fun _ _ => rfl)) (pv 3) (pe_lst pa_nil) ⟨by rfl, by rfl, by rfl, by rfl⟩) (pe_lst (pa_cons (pv 4) pa_nil))) rfl)
        (pss_one (ps_ret (pe_cmpR op_isN (pe_meth (pv 1) T.cl_Ice T.me_Ice_break_at (ok_Ice_break_at T) (hr.mono (by decide)) T.b_Ice_break_at .nil passX0 (pa_cons (pv 3) (pa_cons (pv 4) pa_nil))) pe_non (nomark _))))))))), ?_⟩
    obtain ⟨p, a, n, k, f, g, m, s2, bs, S, rfl, hB, hk, hP, npS, hlen, q⟩ := h
    obtain ⟨Si, Sn, hI, hN, eS, dis, ok⟩ := id hP
    subst eS
    walk_at "rd"
    refine rd_takeB fun w H1 w_0 w_1 b_H1 k_H1 => ?_ <;> walk_at "rd"
    refine rd_iteD (fun e1 => ?_) (fun e1 => ?_) <;> walk_at "rd"
    · have KS1 := ks_kb hB k_H1
      have hP1 := hP.keepS KS1 (not_p npS)
      walk_at "rd"
      refine ⟨p, a, n, _, f, g, m, s2, bs, _, rfl, b_H1, by omega, hP1, npS, by omega, fun bs' S' H' hl hP' sub b' k' => ?_⟩
      refine q bs' S' H' (by omega) hP' (fun x hx => (sub x hx).imp id (kb_none k_H1 b_H1)) (b'.mono (by omega)) ((KS1.mono fun x hx => by rw [List.mem_singleton.mp hx]; exact List.mem_cons_self).trans k')
    obtain ⟨d, L, hn, hL, hp, rfl⟩ := id hN
    have npn : n ≠ p := fun e => npS (e ▸ List.mem_append_right _ List.mem_cons_self)
    have hbs : BsOk s2 bs := by
      obtain ⟨_, _, _, _, _, _, _, _, _, _, o⟩ := id hI
      exact o
    have hs0 := ok.s0
    have hs1 := ok.s1
    have nS : ∀ x ∈ Si ++ n :: fpC d L, x ∉ [p] := not_p npS
    have hN1 := hN.keepS (ks_kb hB k_H1) fun x hx => nS x (List.mem_append_right _ hx)
    walk_at "rd"
    refine ⟨p, n, _, f, g, m, s2, bs, _, rfl, b_H1, by omega, hN1, fun z => npS (List.mem_append_right _ z), ok, fun h0 H2 h00 h01 b_H2 k_H2 => ?_⟩
    have hN2 := hN1.keepS (ks_kb b_H1 k_H2) fun x hx => nS x (List.mem_append_right _ hx)
    walk_at "rd"
    refine ⟨p, n, _, f, g, m, s2, bs, _, rfl, b_H2, by omega, hN2, fun z => npS (List.mem_append_right _ z), ok, fun c0 H3 c00 c01 b_H3 k_H3 => ?_⟩
    have hN3 := hN2.keepS (ks_kb b_H2 k_H3) fun x hx => nS x (List.mem_append_right _ hx)
    walk_at "rd"
    refine ⟨n, f, g, m, s2, bs, _, rfl, hN3, by omega, fun l ps H4 n_l s_H4 e_l hr => ?_⟩
    have b_H4 := b_H3.keep s_H4
    have hl := hr.len
    unfold brkV at hl
    rw [List.length_map, (brkOf_perm bs).length_eq] at hl
    have k_H4 : KeepB p H H4 := ((k_H1.trans k_H2).trans k_H3).trans (Same.keepB s_H4)
    walk_at "rd"
    refine ⟨fun σ' H' => ∃ h c, s2 ≤ h ∧ h ≤ 100000000 ∧ 1 ≤ c ∧ c ≤ 1000000 ∧ BoxAt H' p (k + 20) ∧ KeepB p H H' ∧ σ' = [some (.ref p), some (.ref a), some (.ref n), some (.int h), some (.int c), some (.ref l)], ?_, ?_⟩
    · walk_at "rd"
      refine rd_lstB fun e0 H5 n_e0 s_H5 e_e0 => ?_ <;> walk_at "rd"
      have b_H5 := b_H4.keep s_H5
      have k_H5 := k_H4.trans (Same.keepB s_H5)
      by_cases hb : bs = []
      · subst hb
        obtain rfl : ps = [] := List.eq_nil_of_length_eq_zero hl
        refine rd_neW (n := 1) (eqS_lst (sqL_of (s_H5 _ _ e_l)) (sqL_of e_e0) AlkAll.nil) ?_
        walk_at "rd"
        exact ⟨h0, c0, h00, h01, c00, c01, b_H5.mono (by omega), k_H5, rfl⟩
      · have hpos : 0 < bs.length := List.length_pos_iff.mpr hb
        refine rd_neWF (n := 1) (eqS_len (sqL_of (s_H5 _ _ e_l)) (sqL_of e_e0) (ne_of_none e_l n_e0.e) (fun z => by rw [show ([] : List V).length = 0 from rfl] at z; omega)) ?_
        walk_at "rd"
        refine rd_take b_H5 (by omega) (by omega) (by omega) fun r0 H6 r0_0 r0_1 b_H6 k_H6 => ?_
        walk_at "rd"
        have nlp : l ≠ p := b_H3.ne n_l.e
        have k_H6' := k_H5.trans k_H6
        have hl6 : H6 l = some (.lst ps) := k_H6 _ _ (s_H5 _ _ e_l) nlp
        refine rd_iteD (fun e2 => ?_) (fun e2 => ?_) <;> walk_at "rd"
        · walk_at "rd"
          refine rd_take b_H6 (by omega) (by omega) (by omega) fun r1 H7 r1_0 r1_1 b_H7 k_H7 => ?_
          obtain ⟨rn, rfl⟩ : ∃ rn : Nat, r1 = (rn : Int) := ⟨r1.toNat, by omega⟩
          have hrn : rn < ps.length := by omega
          obtain ⟨t, r, et, er, ht⟩ := hr.get (List.getElem?_eq_getElem hrn)
          unfold brkV at er
          rw [List.getElem?_map] at er
          obtain ⟨b, hbb, rfl⟩ := Option.map_eq_some_iff.mp er
          have mb : b ∈ bs := (brkOf_perm bs).mem_iff.mp (List.mem_of_getElem? hbb)
          have hl7 : H7 l = some (.lst ps) := k_H7 _ _ hl6 nlp
          have ht5 := s_H5 _ _ ht
          have ht7 : H7 t = some (.tup [.int b.1, .int b.2]) := (ks_kb b_H6 k_H7).tup _ _ ((ks_kb b_H5 k_H6).tup _ _ ht5)
          walk_at "rd"
          refine rd_ixL1 (xs := ps) (v := .ref t) (sqL_of hl7) (atI_nat (by rw [List.getElem?_eq_getElem hrn, et])) ?_
          refine rd_gtup (sqT_of ht7) rfl ?_
          walk_at "rd"
          exact ⟨b.1, b.2, hbs.lo b mb, hbs.hi b mb, hbs.c0 b mb, hbs.c1 b mb, b_H7.mono (by omega), k_H6'.trans k_H7, rfl⟩
        · walk_at "rd"
          exact ⟨h0, c0, h00, h01, c00, c01, b_H6.mono (by omega), k_H6', rfl⟩
    rintro σ' H5 ⟨h, c, h0, h1, c0, c1, b_H5, k05, rfl⟩
    clear hN1 hN2 hN3 hr e_l
    have KS5 := ks_kb hB k05
    have hL5 := hL.keepS KS5 fun x hx => nS x (List.mem_append_right _ (List.mem_cons_of_mem _ hx))
    have hn5 : H5 n = some (.dK (numK f g m s2 d)) := k05 _ _ hn npn
    have hd5 := hL5.hd
    walk_at "rd"
    refine rd_lstB fun e0 H6 n_e0 s_H6 e_e0 => ?_ <;> walk_at "rd"
    have hL6 := hL5.keep s_H6
    have hd6 := hL6.hd
    walk_at "rd"
    obtain ⟨x0, ex, hx0⟩ : ∃ x0, (valV (cutK L) (Sum.inl h)).getD (.ref e0) = .ref x0 ∧ H6 x0 = some (.lst ((cutsL L h).map V.int)) := by
      rcases find_cut (L := L) (h := h) with ⟨t, ht, rfl⟩ | z
      · rw [valV_cutS hL.nk ht, cutsL_of hL.nk ht]
        exact ⟨_, rfl, hL6.hl t ht⟩
      · rw [valV_cutN z, cutsL_none z]
        exact ⟨_, rfl, e_e0⟩
    rw [ex]
    refine rd_lstB fun l2 H7 n_l2 s_H7 e_l2 => ?_ <;> walk_at "rd"
    have hcl := cutsL_len (L := L) h
    rw [← hp.length_eq] at hcl
    refine rd_catB (fun l H8 n_l s_H8 e_l => ?_) (s_H7 _ _ hx0) e_l2 (by rw [List.length_map]; simp; omega)
    have s58 : Same H5 H8 := (s_H6.trans s_H7).trans s_H8
    have hn8 := s58 _ _ hn5
    have hL8 := hL5.keep s58
    have hd8 := hL8.hd
    walk_at "rd"
    refine rd_dptI (kvs := cutK L) hd8 ?_ ?_
    · unfold cutK
      rw [List.length_map]
      have := flat_len hL.ne
      rw [← hp.length_eq] at this
      omega
    rw [putK_cut (c := c) hL.nk]
    have n_l5 : H5 l = none := none_of (s_H6.trans s_H7) n_l.e
    have nld : l ≠ d := (ne_of_none hL5.hd n_l5).symm
    have nnd : n ≠ d := fun z => num_ne hn5 hL5 (z ▸ List.mem_cons_self)
    have KS9 : KeepS (p :: (n :: fpC d L)) H (upd H8 d (.dK (cutK (putCut L h l c)))) := (ks_same (KS5.mono fun x hx => by rw [List.mem_singleton.mp hx]; exact List.mem_cons_self) s58).put hL.hd rfl (List.mem_cons_of_mem _ (List.mem_cons_of_mem _ List.mem_cons_self))
    have b9 : BoxAt (upd H8 d (.dK (cutK (putCut L h l c)))) p (k + 40) := ((b_H5.keep s58).new fun z => npS (z ▸ List.mem_append_right _ (List.mem_cons_of_mem _ List.mem_cons_self))).mono (by omega)
    have C9 : CutsAt (upd H8 d (.dK (cutK (putCut L h l c)))) d (putCut L h l c) := by
      refine hL5.put n_l5 (fun t ht => ?_) upd_same ?_
      · rw [upd_ne (d_ne hL5 ht), hL5.hl t ht]
        exact s58 _ _ (hL5.hl t ht)
      · rw [upd_ne nld, List.map_append]
        exact e_l
    have hn9 : (upd H8 d (.dK (cutK (putCut L h l c)))) n = some (.dK (numK f g m s2 d)) := by rw [upd_ne nnd]; exact hn8
    have hI9 : IceAt T (upd H8 d (.dK (cutK (putCut L h l c)))) a (wayCh f g m) s2 bs Si := hI.keepS KS9 fun x hx z => by
      rcases List.mem_cons.mp z with rfl | z
      · exact npS (List.mem_append_left _ hx)
      · exact dis x hx z
    have f9 : ∀ x, (upd H8 d (.dK (cutK (putCut L h l c)))) x = none → H5 x = none := fun x hx => by
      by_cases z : x = d
      · subst z
        rw [upd_same] at hx
        cases hx
      · rw [upd_ne z] at hx
        exact none_of s58 hx
    generalize upd H8 d (.dK (cutK (putCut L h l c))) = H9 at KS9 b9 C9 hn9 hI9 f9
    have f5 : ∀ x, H5 x = none → H x = none := fun x hx => by
      cases e : H x with
      | none => rfl
      | some o =>
        have np : x ≠ p := fun z => by
          obtain ⟨_, _, _, e2, _⟩ := b_H5
          rw [z, e2] at hx
          cases hx
        rw [k05 x o e np] at hx
        cases hx
    have os0 := ok.s0
    have os1 := ok.s1
    obtain ⟨_, _, _, ⟨⟨_, hA9⟩, _⟩, _⟩ := id hI9
    walk_at "rd"
    refine rd_break hI9 (by omega) h0 (by omega) c0 c1 fun Si' H10 KS10 hI10 sub => ?_
    walk_at "rd"
    have fp' : ∀ x ∈ n :: fpC d (putCut L h l c), x ∈ n :: fpC d L ∨ x = l := fun x hx => by
      rcases List.mem_cons.mp hx with rfl | hx
      · exact .inl List.mem_cons_self
      · rcases fp_put hx with z | z
        · exact .inl (List.mem_cons_of_mem _ z)
        · exact .inr z
    have there9 : ∀ x ∈ n :: fpC d (putCut L h l c), ∃ o, H9 x = some o := fun x hx => by
      rcases List.mem_cons.mp hx with rfl | hx
      · exact ⟨_, hn9⟩
      · obtain ⟨o, e, _⟩ := fp_there C9 hx
        exact ⟨o, e⟩
    have out : ∀ x ∈ n :: fpC d (putCut L h l c), x ∉ Si := fun x hx m => by
      rcases fp' x hx with z | z
      · exact dis x m z
      · obtain ⟨o, e, _⟩ := hI.there m
        rw [z, f5 _ n_l5] at e
        cases e
    have out' : ∀ x ∈ n :: fpC d (putCut L h l c), x ∉ Si' := fun x hx => by
      obtain ⟨o, e⟩ := there9 x hx
      exact out_new sub e (out x hx)
    have hN10 : NumAt H10 n f g m s2 ((h, c) :: bs) (n :: fpC d (putCut L h l c)) := ⟨d, putCut L h l c, KS10 _ _ hn9 (.inr (out n List.mem_cons_self)), C9.keepS KS10 fun x hx => out x (List.mem_cons_of_mem _ hx), (List.Perm.cons _ hp).trans flat_put.symm, rfl⟩
    have q := q ((h, c) :: bs) (Si' ++ n :: fpC d (putCut L h l c)) H10 (Nat.le_refl _) ⟨Si', _, hI10, hN10, rfl, fun x hx z => out' x z hx, ok⟩ (fun x hx => ?_) ?_ ?_
    · simpa using q
    · rcases List.mem_append.mp hx with z | z
      · rcases sub x z with z | z
        · exact .inl (List.mem_append_left _ z)
        · exact .inr (f5 x (f9 x z))
      · rcases fp' x z with z | z
        · exact .inl (List.mem_append_right _ z)
        · exact .inr (z ▸ f5 _ n_l5)
    · obtain ⟨x, y, w, e, r⟩ := b9
      exact ⟨x, y, w, KS10 _ _ e (.inr fun z => npS (List.mem_append_left _ z)), r⟩
    · refine (KS9.mono fun x hx => ?_).trans (fun b o e z => ?_)
      · rcases List.mem_cons.mp hx with rfl | hx
        · exact List.mem_cons_self
        · exact List.mem_cons_of_mem _ (List.mem_append_right _ hx)
      · exact KS10 b o e (z.imp id fun z m => z (List.mem_cons_of_mem _ (List.mem_append_left _ m)))
def sp_law_stands (T : Tx K mg) : Sp := fun vs H Q E => ∃ (a n : Addr) (f g m s : Int) (bs : List (Int × Int)) (S : List Addr), vs = [.ref a, .ref n] ∧ Pr T H a n f g m s bs S ∧ bs.length < 64 ∧
  ∀ H', Same H H' → Q (.bl true) H'
theorem ok_law_stands (T : Tx K mg) : FnOkG P w K mg base 3 T.a_law_stands T.d_law_stands ["_law_ice_here", "_law_numbers_here"] (sp_law_stands T) := by
  refine okG T.F_law_stands sc_law_stands (fun vs H Q E h => ?_) (fun cdv A outer s H vs Q E hG hr h => ?_)
  · obtain ⟨a, n, f, g, m, s, bs, S, rfl, _⟩ := h
    rfl
  · refine ⟨_, (pss_cons (ps_for PassesOwn.never rfl (pi_range1 (by rfl) T.m_range (pa_cons pe_int pa_nil)) (pg_name (i := 2) sc_law_stands.nd rfl (Or.inl rfl))
        (pss_cons (ps_par (i := 3) (j := 4) rfl sc_law_stands.nd rfl rfl (by decide) rfl rfl (pa_cons (pe_meth0 (pv 0) T.cl_Ice T.me_Ice_breakings (ok_Ice_breakings T) (hr.mono (by decide)) T.b_Ice_breakings .nil pass0) (pa_cons (pe_meth0 (pv 0) T.cl_Ice T.me_Ice_rows (ok_Ice_rows T) (hr.mono (by decide)) T.b_Ice_rows .nil pass0) pa_nil)) (by rfl))
        (pss_cons (ps_if (PW.pt (pw_or (pt_cmpR op_ne (pe_callB (reprE (K := K) rfl hG hr.units) (by rfl) T.m_repr (by decide +kernel) (pa_cons (pv 3) pa_nil)) (pe_callB (reprE (K := K) rfl hG hr.units) (by rfl) T.m_repr (by decide +kernel) (pa_cons (pe_call (ok_law_all T) (hr.mono (by decide)) (by rfl) T.g_law_all T.F_law_all.kp T.b_law_all .nil pass0 (pa_cons (pv 1) pa_nil)) pa_nil)) (nomark _)) (pw_or1 (pt_cmpR op_ne (pe_callB (reprE (K := K) rfl hG hr.units) (by rfl) T.m_repr (by decide +kernel) (pa_cons (pv 4) pa_nil)) (pe_callB (reprE (K := K) rfl hG hr.units) (by rfl) T.m_repr (by decide +kernel) (pa_cons (pe_call (ok_law_rows T) (hr.mono (by decide)) (by rfl) T.g_law_rows T.F_law_rows.kp T.b_law_rows .nil pass0 (pa_cons (pv 1) pa_nil)) pa_nil)) (nomark _)))))
        (pss_one (ps_ret pe_bl))
        pss_nil)
        (pss_cons (ps_expr (pe_bm PySem.F.plainAttrs_list PySem.F.slot_list_append PySem.F.type_list_append mt_append (pv 3) (pa_cons (pe_tup (pa_cons pe_int (pa_cons pe_int pa_nil))) pa_nil)))
        (pss_one (ps_expr (pe_bm0 PySem.F.plainAttrs_list PySem.F.slot_list_clear PySem.F.type_list_clear mt_clear (pv 4))))))))
        (pss_one (ps_ret pe_bl))), ?_⟩
    obtain ⟨a, n, f, g, m, s2, bs, S, rfl, hP, hlen, q⟩ := h
    obtain ⟨Si, Sn, hI, hN, _, _, ok⟩ := id hP
    have ow : WyOk (wyOf (wayCh f g m) s2) := wyOk ok.ch
    have hbs : BsOk s2 bs := by
      obtain ⟨_, _, _, _, _, _, _, _, _, _, o⟩ := id hI
      exact o
    have hm1 := ok.m1
    have hs0 := ok.s0
    have okB : okD (dRows (brkV bs)) := Sm.ok (sm_brkV hbs hs0 hlen)
    have okR : okD (dRows (rowsV (wyOf (wayCh f g m) s2) bs)) := Sm.ok (sm_rowsV ow hm1 hbs hs0 hlen)
    walk_at "rd"
    refine rd_r1 (by omega) (by omega) ?_
    refine forgo walk_range (fun i σ' H' => Same H H' ∧ ∃ x2 x3 x4, σ' = [some (.ref a), some (.ref n), x2, x3, x4]) ⟨Same.refl _, none, none, none, rfl⟩ (fun _ _ _ _ _ => trivial) ?_ ?_
    · rintro i x σ' Ha Hb hi ⟨ka, x2, x3, x4, rfl⟩ ⟨e0, rfl⟩
      subst e0
      have hIb := hI.keep ka
      obtain ⟨_, _, _, ⟨⟨_, hAb⟩, _⟩, _⟩ := id hIb
      walk_at "rd"
      refine ⟨a, _, _, bs, _, rfl, hIb, hlen, fun q1 ps1 Hc n_q1 s_Hc e_q1 hr1 => ?_⟩
      have hIc := hIb.keep s_Hc
      obtain ⟨_, _, _, ⟨⟨_, hAc⟩, _⟩, _⟩ := id hIc
      walk_at "rd"
      refine ⟨a, _, _, bs, _, rfl, hIc, hlen, fun q2 ps2 Hd n_q2 s_Hd e_q2 hr2 => ?_⟩
      have hNd := (hN.keep ka).keep (s_Hc.trans s_Hd)
      have e_q1d := s_Hd _ _ e_q1
      walk_at "rd"
      refine rd_rZ (d := dRows (brkV bs)) (fun z1 y_z1 => ?_) (.dp (dp_rows e_q1d (hr1.keep s_Hd) brkV_int)) okB
      walk_at "rd"
      refine ⟨n, f, g, m, s2, bs, _, rfl, hNd, hlen, fun q3 ps3 He n_q3 s_He e_q3 hr3 => ?_⟩
      walk_at "rd"
      refine rd_rZ (d := dRows (brkV bs)) (fun z2 y_z2 => ?_) (.dp (dp_rows e_q3 hr3 brkV_int)) okB
      walk_at "rd"
      first | refine rd_iteN (ite_sameP (y_z1.trans y_z2.symm) ?_) | refine ite_sameP (y_z1.trans y_z2.symm) ?_
      walk_at "rd"
      have e_q2e := s_He _ _ e_q2
      refine rd_rZ (d := dRows (rowsV (wyOf (wayCh f g m) s2) bs)) (fun z3 y_z3 => ?_) (.dp (dp_rows e_q2e (hr2.keep s_He) rowsV_int)) okR
      walk_at "rd"
      refine ⟨n, f, g, m, s2, bs, _, rfl, hNd.keep s_He, ok, hbs, hlen, fun q4 ps4 Hf n_q4 s_Hf e_q4 hr4 => ?_⟩
      walk_at "rd"
      refine rd_rZ (d := dRows (rowsV (wyOf (wayCh f g m) s2) bs)) (fun z4 y_z4 => ?_) (.dp (dp_rows e_q4 hr4 rowsV_int)) okR
      walk_at "rd"
      first | refine rd_iteN (ite_sameP (y_z3.trans y_z4.symm) ?_) | refine ite_sameP (y_z3.trans y_z4.symm) ?_
      walk_at "rd"
      have e_q1f := s_Hf _ _ (s_He _ _ e_q1d)
      have e_q2f := s_Hf _ _ e_q2e
      refine rd_tyL (sqL_of e_q1f) ?_
      walk_at "rd"
      refine rd_tupB fun t5 Hg n_t5 s_Hg e_t5 => ?_ <;> walk_at "rd"
      have hl1 := hr1.len
      unfold brkV at hl1
      rw [List.length_map, (brkOf_perm bs).length_eq] at hl1
      refine rd_append (s_Hg _ _ e_q1f) (by omega) ?_
      have sBd : Same Hb Hd := s_Hc.trans s_Hd
      have sBg : Same Hb Hg := sBd.trans (s_He.trans (s_Hf.trans s_Hg))
      have ne12 : q2 ≠ q1 := fun e => by
        have z := n_q2.e
        rw [e, e_q1] at z
        cases z
      have e_q2g : (upd Hg q1 (.lst (ps1 ++ [.ref t5]))) q2 = some (.lst ps2) := by
        rw [upd_ne ne12]
        exact s_Hg _ _ e_q2f
      have sE : Same Hb (upd Hg q1 (.lst (ps1 ++ [.ref t5]))) := fun b o e => by
        rw [upd_ne (ne_of_none e n_q1.e)]
        exact sBg _ _ e
      generalize upd Hg q1 (.lst (ps1 ++ [.ref t5])) = Hh at sE e_q2g
      walk_at "rd"
      refine rd_tyL (sqL_of e_q2g) ?_
      refine rd_clear e_q2g ?_
      have sF : Same Hb (upd Hh q2 (.lst [])) := fun b o e => by
        rw [upd_ne (ne_of_none (s_Hc _ _ e) n_q2.e)]
        exact sE _ _ e
      walk_at "rd"
      exact ⟨ka.trans sF, _, _, _, rfl⟩
    · rintro σ' Hb ⟨kb, x2, x3, x4, rfl⟩
      walk_at "rd"
      exact q Hb kb
def sp_law (K : PySem.W.Frag) : Sp := fun vs H Q _ => ∃ (a : Addr) (ns : List Int), vs = [.ref a] ∧ SqL K H a (ns.map V.int) ∧ ns.length ≤ 63 ∧ ∀ H', Q (.bl true) H'
theorem ok_law (T : Tx K mg) : FnOkG P w K mg base 8 T.a_law T.d_law ["_law_script"] (sp_law K) := by
  refine okG T.F_law sc_law (fun vs H Q E h => ?_) (fun cdv A outer s H vs Q E hG hr h => ?_)
  · obtain ⟨a, ns, rfl, _⟩ := h
    rfl
  · refine ⟨_, (pss_cons (ps_set (i := 1) sc_law.nd rfl (Or.inl rfl) (pe_call (ok_law_box T) (hr.mono (by decide)) (by rfl) T.g_law_box T.F_law_box.kp T.b_law_box .nil pass0 (pa_cons (pe_call (ok_law_cell T) (hr.mono (by decide)) (by rfl) T.g_law_cell T.F_law_cell.kp T.b_law_cell .nil pass0 (pa_cons (pv 0) (pa_cons pe_int pa_nil))) pa_nil)))
        (pss_cons (ps_set (i := 2) sc_law.nd rfl (Or.inl rfl) (pe_lst (pa_cons (pe_call (ok_law_numbers T) (hr.mono (by decide)) (by rfl) T.g_law_numbers T.F_law_numbers.kp T.b_law_numbers .nil pass0 (pa_cons (pv 1) pa_nil)) (pa_cons (pe_call (ok_law_numbers T) (hr.mono (by decide)) (by rfl) T.g_law_numbers T.F_law_numbers.kp T.b_law_numbers .nil pass0 (pa_cons (pv 1) pa_nil)) pa_nil))))
        (pss_cons (ps_setLc (i := 3) (own := [("_law_numbers_here", 6)]) (g := gName 6) (tt := tYes) rfl sc_law.nd rfl rfl (sw_true rfl rfl rfl (by decide +kernel)) (pi_listK (K := K) rfl (pv 2)) (blkOk_by (own := [("_law_numbers_here", 6)]) (N := N_law) (sc := defScope s_law) (by decide +kernel)) (fun _ _ _ _ _ => (pg_name (i := 6) sc_law.nd rfl (Or.inl rfl))) (fun _ _ _ _ _ => pts_nil) (fun _ _ _ _ _ => (pe_frm (pe_call (ok_law_ice T) (hr.mono (by decide)) (by rfl) T.g_law_ice T.F_law_ice.kp T.b_law_ice .nil pass0 (pa_cons (pv 6) pa_nil)))))
        (pss_cons (ps_for PassesOwn.never rfl (pi_range2 (by rfl) T.m_range (pa_cons pe_int (pa_cons (pe_callB (max2 rfl) (by rfl) T.m_max (by decide +kernel) (pa_cons pe_int (pa_cons (pe_callB (min2 rfl) (by rfl) T.m_min (by decide +kernel) (pa_cons (pe_callB (lenK (K := K) rfl) (by rfl) T.m_len (by decide +kernel) (pa_cons (pv 0) pa_nil)) (pa_cons pe_int pa_nil))) pa_nil))) pa_nil))) (pg_name (i := 4) sc_law.nd rfl (Or.inl rfl))
        (pss_cons (ps_set (i := 1) sc_law.nd rfl (Or.inl rfl) (pe_call (ok_law_box T) (hr.mono (by decide)) (by rfl) T.g_law_box T.F_law_box.kp T.b_law_box .nil pass0 (pa_cons (pe_call (ok_law_cell T) (hr.mono (by decide)) (by rfl) T.g_law_cell T.F_law_cell.kp T.b_law_cell .nil pass0 (pa_cons (pv 0) (pa_cons (pv 4) pa_nil))) pa_nil)))
        (pss_cons (ps_set (i := 5) sc_law.nd rfl (Or.inl rfl) (pe_call (ok_law_take T) (hr.mono (by decide)) (by rfl) T.g_law_take T.F_law_take.kp T.b_law_take .nil pass0 (pa_cons (pv 1) (pa_cons pe_int pa_nil))))
        (C8.pss_cut (ps_if (pt_not (pt_val (pe_callG hG (ok_law_deed T) (hr.mono (by decide)) (by rfl) T.g_law_deed T.F_law_deed.kp T.b_law_deed (pa_cons (pv 1) (pa_cons (pe_ix (ixLK (K := K) rfl) (pv 3) (pv 5) (fun _ _ => rfl)) (pa_cons (pe_ix (ixLK (K := K) rfl) (pv 2) (pv 5) (fun _ _ => rfl)) pa_nil))))))
        (pss_one (ps_ret pe_bl))
        pss_nil)
        (pss_one (ps_if (PW.pt (pw_or (pt_not (pt_val (pe_callG hG (ok_law_stands T) (hr.mono (by decide)) (by rfl) T.g_law_stands T.F_law_stands.kp T.b_law_stands (pa_cons (pe_ix (ixLK (K := K) rfl) (pv 3) pe_int (fun _ _ => rfl)) (pa_cons (pe_ix (ixLK (K := K) rfl) (pv 2) pe_int (fun _ _ => rfl)) pa_nil))))) (pw_or1 (pt_not (pt_val (pe_callG hG (ok_law_stands T) (hr.mono (by decide)) (by rfl) T.g_law_stands T.F_law_stands.kp T.b_law_stands (pa_cons (pe_ix (ixLK (K := K) rfl) (pv 3) pe_int (fun _ _ => rfl)) (pa_cons (pe_ix (ixLK (K := K) rfl) (pv 2) pe_int (fun _ _ => rfl)) pa_nil))))))))
        (pss_one (ps_ret pe_bl))
        pss_nil))))))
        (pss_one (ps_ret pe_bl)))))), ?_⟩
    obtain ⟨a, ns, rfl, hS, hlen, q⟩ := h
    rename Hp => Hb
    walk_at "rd"
    refine rd_law_cell fun z => ?_ <;> walk_at "rd"
    refine rd_law_box fun p Hc n_p s_Hc b_Hc => ?_ <;> walk_at "rd"
    refine ⟨p, 0, rfl, b_Hc, by omega, fun n0 f0 g0 m0 s0 S0 Hd ok0 hN0 fr0 b_Hd k_Hd => ?_⟩
    walk_at "rd"
    refine ⟨p, _, rfl, b_Hd, by omega, fun n1 f1 g1 m1 s1 S1 He ok1 hN1 fr1 b_He k_He => ?_⟩
    walk_at "rd"
    refine rd_lstB fun r Hf n_r s_Hf e_r => ?_ <;> walk_at "rd"
    obtain ⟨d0, L0, hn0, _⟩ := id hN0
    obtain ⟨d1, L1, hn1, _⟩ := id hN1
    have th0 : ∀ x ∈ S0, ∃ o, Hd x = some o ∧ imm o = false := fun x hx => hN0.there hx
    have np0 : p ∉ S0 := by
      obtain ⟨_, _, _, e, _⟩ := b_Hc
      exact out_none fr0 e
    have np1 : p ∉ S1 := by
      obtain ⟨_, _, _, e, _⟩ := b_Hd
      exact out_none fr1 e
    have dis01 : ∀ x ∈ S0, x ∉ S1 := apart th0 fr1
    have hN0e : NumAt He n0 f0 g0 m0 s0 [] S0 := hN0.keepS (ks_kb b_Hd k_He) (not_p np0)
    have hN0f := hN0e.keep s_Hf
    have hN1f := hN1.keep s_Hf
    have npr : r ≠ p := b_He.ne n_r.e
    have nr0 : r ∉ S0 := out_there (fun x hx => hN0e.there hx) n_r.e
    have nr1 : r ∉ S1 := out_there (fun x hx => hN1.there hx) n_r.e
    have b_Hf := b_He.keep s_Hf
    refine rd_ilB ?_ <;> walk_at "rd"
    refine lcgoG (walk_list (xs := [.ref n0, .ref n1])) (show 2 ≤ 100000 by decide) (fun i x => [V.ref n0, .ref n1][i]? = some x) (fun i H x H' _ _ y => y) (fun i acc Hx => Same Hf Hx ∧ ((i = 0 ∧ acc = []) ∨ (i = 1 ∧ ∃ a0 Si0, acc = [.ref a0] ∧ IceAt T Hx a0 (wayCh f0 g0 m0) s0 [] Si0 ∧ ∀ z ∈ Si0, Hf z = none) ∨
      (i = 2 ∧ ∃ a0 Si0 a1 Si1, acc = [.ref a0, .ref a1] ∧ IceAt T Hx a0 (wayCh f0 g0 m0) s0 [] Si0 ∧ (∀ z ∈ Si0, Hf z = none) ∧ IceAt T Hx a1 (wayCh f1 g1 m1) s1 [] Si1 ∧ (∀ z ∈ Si1, Hf z = none) ∧ ∀ z ∈ Si0, z ∉ Si1))) ⟨Same.refl _, .inl ⟨rfl, rfl⟩⟩ (fun i acc Hx D _ p hD => (p.1.trans (same_new hD)).seq (sqL_of e_r)) ?_ ?_
    · rintro i x acc Hx D hi hla ⟨sx, st⟩ hD yx
      refine ⟨(wipe _ _).set _ (some x), true, rfl, fun P p => p, fun P p => p, nofun, fun _ Qc q' => ?_⟩
      rcases st with ⟨rfl, rfl⟩ | ⟨rfl, a0, Si0, rfl, hI0, fI0⟩ | ⟨rfl, _⟩
      · cases yx
        walk_at "rd"
        refine ⟨n0, f0, g0, m0, s0, [], S0, rfl, hN0f.keep sx, ok0, fun a0 Si0 Hy n_a0 s_Hy hI0 fI0 => ?_⟩
        exact q' _ _ ⟨sx.trans s_Hy, .inr (.inl ⟨rfl, a0, Si0, rfl, hI0, fun z hz => none_of sx (fI0 z hz)⟩)⟩
      · cases yx
        walk_at "rd"
        refine ⟨n1, f1, g1, m1, s1, [], S1, rfl, hN1f.keep sx, ok1, fun a1 Si1 Hy n_a1 s_Hy hI1 fI1 => ?_⟩
        exact q' _ _ ⟨sx.trans s_Hy, .inr (.inr ⟨rfl, a0, Si0, a1, Si1, rfl, hI0.keep s_Hy, fI0, hI1, fun z hz => none_of sx (fI1 z hz), apart (fun x hx => hI0.there hx) fI1⟩)⟩
      · exact absurd hi (show ¬ 2 < 2 by decide)
    rintro acc Hx li hla ⟨sx, st⟩ hD
    obtain ⟨a0, Si0, a1, Si1, rfl, hI0, fI0, hI1, fI1, disI⟩ : ∃ a0 Si0 a1 Si1, acc = [.ref a0, .ref a1] ∧ IceAt T Hx a0 (wayCh f0 g0 m0) s0 [] Si0 ∧ (∀ z ∈ Si0, Hf z = none) ∧ IceAt T Hx a1 (wayCh f1 g1 m1) s1 [] Si1 ∧ (∀ z ∈ Si1, Hf z = none) ∧ ∀ z ∈ Si0, z ∉ Si1 := by
      rcases st with ⟨e, _⟩ | ⟨e, _⟩ | ⟨_, h⟩
      · cases e
      · cases e
      · exact h
    have sL : Same Hx (upd Hx li (.lst [.ref a0, .ref a1])) := same_new hD
    have e_li : (upd Hx li (.lst [.ref a0, .ref a1])) li = some (.lst [.ref a0, .ref a1]) := upd_same
    have n_li : Hf li = none := none_of sx hD
    have ST : St2 T (upd Hx li (.lst [.ref a0, .ref a1])) p r li ⟨a0, n0, f0, g0, m0, s0, [], Si0 ++ S0⟩ ⟨a1, n1, f1, g1, m1, s1, [], Si1 ++ S1⟩ := by
      have s2 := sx.trans sL
      have tf0 : ∀ x ∈ S0, ∃ o, Hf x = some o ∧ imm o = false := fun x hx => hN0f.there hx
      have tf1 : ∀ x ∈ S1, ∃ o, Hf x = some o ∧ imm o = false := fun x hx => hN1f.there hx
      have tI0 : ∀ x ∈ Si0, ∃ o, Hx x = some o ∧ imm o = false := fun x hx => hI0.there hx
      have tI1 : ∀ x ∈ Si1, ∃ o, Hx x = some o ∧ imm o = false := fun x hx => hI1.there hx
      have e_p : ∃ o, Hf p = some o := by
        obtain ⟨_, _, _, e, _⟩ := b_Hf
        exact ⟨_, e⟩
      obtain ⟨op, e_p⟩ := e_p
      refine ⟨⟨⟨Si0, S0, hI0.keep sL, hN0f.keep s2, rfl, apart' tf0 fI0, ok0⟩, nofun⟩, ⟨⟨Si1, S1, hI1.keep sL, hN1f.keep s2, rfl, apart' tf1 fI1, ok1⟩, nofun⟩, ?_, nin_app (out_none fI0 e_p) np0, nin_app (out_none fI1 e_p) np1, nin_app (out_none fI0 e_r) nr0, nin_app (out_none fI1 e_r) nr1, nin_app (out_there tI0 hD) (out_there tf0 n_li), nin_app (out_there tI1 hD) (out_there tf1 n_li), s2 _ _ e_r, e_li, npr, (ne_of_none e_p n_li).symm⟩
      exact app_nin (nin_app2 disI (apart' tf1 fI0)) (nin_app2 (apart tf0 fI1) dis01)
    have b_Hg : BoxAt (upd Hx li (.lst [.ref a0, .ref a1])) p (0 + 10 + 10) := b_Hf.keep (sx.trans sL)
    have fb : ∀ x, (upd Hx li (.lst [.ref a0, .ref a1])) x = none → Hb x = none := fun x hx => none_of s_Hc (kb_none k_Hd b_Hd (kb_none k_He b_He (none_of s_Hf (none_of sx (none_of sL hx)))))
    have s_bg : Same Hb (upd Hx li (.lst [.ref a0, .ref a1])) := (KeepB.same (k_Hd.trans (k_He.trans (Same.keepB ((s_Hf.trans sx).trans sL)))) s_Hc n_p.e)
    generalize upd Hx li (.lst [.ref a0, .ref a1]) = Hg at sL e_li ST b_Hg fb s_bg
    have IV : Iv T Hb Hg p r li ⟨a0, n0, f0, g0, m0, s0, [], Si0 ++ S0⟩ ⟨a1, n1, f1, g1, m1, s1, [], Si1 ++ S1⟩ := by
      refine ⟨ST, s_bg, n_p.e, fun z hz => ?_, fun z hz => ?_⟩
      · rcases List.mem_append.mp hz with h | h
        · exact none_of s_Hc (kb_none k_Hd b_Hd (kb_none k_He b_He (none_of s_Hf (fI0 z h))))
        · exact none_of s_Hc (fr0 z h)
      · rcases List.mem_append.mp hz with h | h
        · exact none_of s_Hc (kb_none k_Hd b_Hd (kb_none k_He b_He (none_of s_Hf (fI1 z h))))
        · exact none_of s_Hc (kb_none k_Hd b_Hd (fr1 z h))
    clear hN0 hN1 hN0e hN0f hN1f hn0 hn1 st hI0 hI1 fI0 fI1 disI fr0 fr1 th0 hla dis01 np0 np1 nr0 nr1 hD sx sL s_Hf s_Hc b_Hc b_Hd b_He b_Hf k_Hd k_He e_r n_r fb ST s_bg e_li n_li
    have IV := IV.far
    walk_at "rd"
    have sa := IV.sm
    walk_at "rd"
    refine rd_min2 fun m hm => ?_ <;> walk_at "rd"
    refine rd_max2 fun m2 hm2 => ?_ <;> walk_at "rd"
    rw [List.length_map] at hm
    refine rd_r2 ⟨by omega, by omega⟩ ⟨by omega, by omega⟩ ?_
    refine forgo walk_range (fun i σ' H' => ∃ p x y, Iv3 T Hb H' p r li x y ∧ x.bs.length ≤ i ∧ y.bs.length ≤ i ∧ x.a = a0 ∧ x.n = n0 ∧ y.a = a1 ∧ y.n = n1 ∧ ∃ x4 x5, σ' = [some (.ref a), some (.ref p), some (.ref r), some (.ref li), x4, x5, none]) ⟨p, _, _, IV, Nat.zero_le _, Nat.zero_le _, rfl, rfl, rfl, rfl, _, _, rfl⟩ (fun _ _ _ _ _ => trivial) ?_ ?_
    · rintro i v σ' Hh Hi hi ⟨p1, x, y, iv, lx, ly, ea, en, fa, fn, x4, x5, rfl⟩ ⟨e0, rfl⟩
      subst e0
      have sa := iv.sm
      walk_at "rd"
      refine rd_law_cell fun z => ?_ <;> walk_at "rd"
      refine rd_law_box fun p2 Hj n_p2 s_Hj b_Hj => ?_ <;> walk_at "rd"
      have iv := iv.box n_p2.e s_Hj
      refine rd_takeB fun w Hk w_0 w_1 b_Hk k_Hk => ?_ <;> walk_at "rd"
      have iv := iv.kb b_Hj k_Hk
      have hl := iv.st.hl
      have hr := iv.st.hr
      refine ⟨fun σ' H' => ∃ x y, Iv3 T Hb H' p2 r li x y ∧ x.bs.length ≤ i + 1 ∧ y.bs.length ≤ i + 1 ∧ x.a = a0 ∧ x.n = n0 ∧ y.a = a1 ∧ y.n = n1 ∧ ∃ x4 x5, σ' = [some (.ref a), some (.ref p2), some (.ref r), some (.ref li), x4, x5, none], ?_, ?_⟩
      · rcases (by omega : w = 0 ∨ w = 1) with rfl | rfl
        · walk_at "rd"
          refine ⟨p2, x.a, x.n, _, x.f, x.g, x.m, x.s, x.bs, x.S, rfl, b_Hk, by omega, iv.st.ox.1, iv.st.px, by omega, fun bs' S' Hl hle hP sub bl kl => ?_⟩
          walk_at "rd"
          exact ⟨⟨x.a, x.n, x.f, x.g, x.m, x.s, bs', S'⟩, y, iv.left kl ⟨hP, trivial⟩ sub rfl rfl b_Hk, by show bs'.length ≤ _; omega, by omega, ea, en, fa, fn, _, _, rfl⟩
        · walk_at "rd"
          refine ⟨p2, y.a, y.n, _, y.f, y.g, y.m, y.s, y.bs, y.S, rfl, b_Hk, by omega, iv.st.oy.1, iv.st.py, by omega, fun bs' S' Hl hle hP sub bl kl => ?_⟩
          walk_at "rd"
          exact ⟨x, ⟨y.a, y.n, y.f, y.g, y.m, y.s, bs', S'⟩, iv.right kl ⟨hP, trivial⟩ sub rfl rfl b_Hk, by omega, by show bs'.length ≤ _; omega, ea, en, fa, fn, _, _, rfl⟩
      · rintro σ' Hl ⟨x, y, iv, lx, ly, ea, en, fa, fn, x4, x5, rfl⟩
        have hl := iv.st.hl
        have hr := iv.st.hr
        walk_at "rd"
        refine ⟨x.a, x.n, x.f, x.g, x.m, x.s, x.bs, x.S, rfl, iv.st.ox.1, by omega, fun Hm s_Hm => ?_⟩
        have iv := iv.keep s_Hm
        have hl := iv.st.hl
        have hr := iv.st.hr
        walk_at "rd"
        refine ⟨y.a, y.n, y.f, y.g, y.m, y.s, y.bs, y.S, rfl, iv.st.oy.1, by omega, fun Hn s_Hn => ?_⟩
        walk_at "rd"
        exact ⟨p2, x, y, iv.keep s_Hn, lx, ly, ea, en, fa, fn, _, _, rfl⟩
    · rintro σ' Hh ⟨p1, x, y, iv, lx, ly, ea, en, fa, fn, x4, x5, rfl⟩
      walk_at "rd"
      exact q _

end
theorem all_mk {l : PySem.W.OpenLaw} {w : World} {K : PySem.W.Frag} {h : Heap} {mg : Str → Option Value} {fa : Addr} (X : K.In h) (G : h.Ns mainGlobals mg) (hfa : mg "law" = some (.ref fa))
    {C_IceError : Addr} (aC_IceError : PySem.W.nsIn K mainGlobals "IceError" = some (some (.ref C_IceError)))
    {C_NoName : Addr} (aC_NoName : PySem.W.nsIn K mainGlobals "NoName" = some (some (.ref C_NoName)))
    {C_NoNumber : Addr} (aC_NoNumber : PySem.W.nsIn K mainGlobals "NoNumber" = some (some (.ref C_NoNumber)))
    {C_NoChannel : Addr} (aC_NoChannel : PySem.W.nsIn K mainGlobals "NoChannel" = some (some (.ref C_NoChannel)))
    {C_NoHour : Addr} (aC_NoHour : PySem.W.nsIn K mainGlobals "NoHour" = some (some (.ref C_NoHour)))
    {C_NoEntry : Addr} (aC_NoEntry : PySem.W.nsIn K mainGlobals "NoEntry" = some (some (.ref C_NoEntry)))
    {C_Doubled : Addr} (aC_Doubled : PySem.W.nsIn K mainGlobals "Doubled" = some (some (.ref C_Doubled)))
    {C_TooMany : Addr} (aC_TooMany : PySem.W.nsIn K mainGlobals "TooMany" = some (some (.ref C_TooMany)))
    {C_Channel : Addr} (aC_Channel : PySem.W.nsIn K mainGlobals "Channel" = some (some (.ref C_Channel)))
    {C_Ice : Addr} (aC_Ice : PySem.W.nsIn K mainGlobals "Ice" = some (some (.ref C_Ice)))
    {f0 : Addr} {oc0 kV0 dc0 pm0 cd0 ct0 : Value} {od0 an0 : Option Addr} {sl0 : Array (Option Value)}
    (a0 : PySem.W.nsIn K mainGlobals "_wall" = some (some (.ref f0))) (l0 : K.lookup f0 = some ⟨oc0, od0, .func (PySem.W.fnOf "_wall" "_wall" (defArgs s_wall) (defBody s_wall) (defScope s_wall) .none kV0 dc0 pm0 an0 cd0 ct0), sl0⟩) (c0 : PySem.W.codeIn K cd0 "_wall" = true) (k0 : PySem.W.keepIn K (.ref f0) = true)
    {f1 : Addr} {oc1 kV1 dc1 pm1 cd1 ct1 : Value} {od1 an1 : Option Addr} {sl1 : Array (Option Value)}
    (a1 : PySem.W.findIn K (.ref C_NoName) "__init__" = some (some (.ref f1))) (l1 : K.lookup f1 = some ⟨oc1, od1, .func (PySem.W.fnOf "__init__" "NoName.__init__" (defArgs s_NoName___init__) (defBody s_NoName___init__) (defScope s_NoName___init__) .none kV1 dc1 pm1 an1 cd1 ct1), sl1⟩) (c1 : PySem.W.codeIn K cd1 "NoName.__init__" = true) (k1 : PySem.W.keepIn K (.ref f1) = true)
    {f2 : Addr} {oc2 kV2 dc2 pm2 cd2 ct2 : Value} {od2 an2 : Option Addr} {sl2 : Array (Option Value)}
    (a2 : PySem.W.findIn K (.ref C_NoNumber) "__init__" = some (some (.ref f2))) (l2 : K.lookup f2 = some ⟨oc2, od2, .func (PySem.W.fnOf "__init__" "NoNumber.__init__" (defArgs s_NoNumber___init__) (defBody s_NoNumber___init__) (defScope s_NoNumber___init__) .none kV2 dc2 pm2 an2 cd2 ct2), sl2⟩) (c2 : PySem.W.codeIn K cd2 "NoNumber.__init__" = true) (k2 : PySem.W.keepIn K (.ref f2) = true)
    {f3 : Addr} {oc3 kV3 dc3 pm3 cd3 ct3 : Value} {od3 an3 : Option Addr} {sl3 : Array (Option Value)}
    (a3 : PySem.W.findIn K (.ref C_NoChannel) "__init__" = some (some (.ref f3))) (l3 : K.lookup f3 = some ⟨oc3, od3, .func (PySem.W.fnOf "__init__" "NoChannel.__init__" (defArgs s_NoChannel___init__) (defBody s_NoChannel___init__) (defScope s_NoChannel___init__) .none kV3 dc3 pm3 an3 cd3 ct3), sl3⟩) (c3 : PySem.W.codeIn K cd3 "NoChannel.__init__" = true) (k3 : PySem.W.keepIn K (.ref f3) = true)
    {f4 : Addr} {oc4 kV4 dc4 pm4 cd4 ct4 : Value} {od4 an4 : Option Addr} {sl4 : Array (Option Value)}
    (a4 : PySem.W.findIn K (.ref C_NoHour) "__init__" = some (some (.ref f4))) (l4 : K.lookup f4 = some ⟨oc4, od4, .func (PySem.W.fnOf "__init__" "NoHour.__init__" (defArgs s_NoHour___init__) (defBody s_NoHour___init__) (defScope s_NoHour___init__) .none kV4 dc4 pm4 an4 cd4 ct4), sl4⟩) (c4 : PySem.W.codeIn K cd4 "NoHour.__init__" = true) (k4 : PySem.W.keepIn K (.ref f4) = true)
    {f5 : Addr} {oc5 kV5 dc5 pm5 cd5 ct5 : Value} {od5 an5 : Option Addr} {sl5 : Array (Option Value)}
    (a5 : PySem.W.findIn K (.ref C_NoEntry) "__init__" = some (some (.ref f5))) (l5 : K.lookup f5 = some ⟨oc5, od5, .func (PySem.W.fnOf "__init__" "NoEntry.__init__" (defArgs s_NoEntry___init__) (defBody s_NoEntry___init__) (defScope s_NoEntry___init__) .none kV5 dc5 pm5 an5 cd5 ct5), sl5⟩) (c5 : PySem.W.codeIn K cd5 "NoEntry.__init__" = true) (k5 : PySem.W.keepIn K (.ref f5) = true)
    {f6 : Addr} {oc6 kV6 dc6 pm6 cd6 ct6 : Value} {od6 an6 : Option Addr} {sl6 : Array (Option Value)}
    (a6 : PySem.W.findIn K (.ref C_Doubled) "__init__" = some (some (.ref f6))) (l6 : K.lookup f6 = some ⟨oc6, od6, .func (PySem.W.fnOf "__init__" "Doubled.__init__" (defArgs s_Doubled___init__) (defBody s_Doubled___init__) (defScope s_Doubled___init__) .none kV6 dc6 pm6 an6 cd6 ct6), sl6⟩) (c6 : PySem.W.codeIn K cd6 "Doubled.__init__" = true) (k6 : PySem.W.keepIn K (.ref f6) = true)
    {f7 : Addr} {oc7 kV7 dc7 pm7 cd7 ct7 : Value} {od7 an7 : Option Addr} {sl7 : Array (Option Value)}
    (a7 : PySem.W.findIn K (.ref C_TooMany) "__init__" = some (some (.ref f7))) (l7 : K.lookup f7 = some ⟨oc7, od7, .func (PySem.W.fnOf "__init__" "TooMany.__init__" (defArgs s_TooMany___init__) (defBody s_TooMany___init__) (defScope s_TooMany___init__) .none kV7 dc7 pm7 an7 cd7 ct7), sl7⟩) (c7 : PySem.W.codeIn K cd7 "TooMany.__init__" = true) (k7 : PySem.W.keepIn K (.ref f7) = true)
    {f8 : Addr} {oc8 kV8 dc8 pm8 cd8 ct8 : Value} {od8 an8 : Option Addr} {sl8 : Array (Option Value)}
    (a8 : PySem.W.nsIn K mainGlobals "is_whole" = some (some (.ref f8))) (l8 : K.lookup f8 = some ⟨oc8, od8, .func (PySem.W.fnOf "is_whole" "is_whole" (defArgs s_is_whole) (defBody s_is_whole) (defScope s_is_whole) .none kV8 dc8 pm8 an8 cd8 ct8), sl8⟩) (c8 : PySem.W.codeIn K cd8 "is_whole" = true) (k8 : PySem.W.keepIn K (.ref f8) = true)
    {f9 : Addr} {oc9 kV9 dc9 pm9 cd9 ct9 : Value} {od9 an9 : Option Addr} {sl9 : Array (Option Value)}
    (a9 : PySem.W.nsIn K mainGlobals "is_within" = some (some (.ref f9))) (l9 : K.lookup f9 = some ⟨oc9, od9, .func (PySem.W.fnOf "is_within" "is_within" (defArgs s_is_within) (defBody s_is_within) (defScope s_is_within) .none kV9 dc9 pm9 an9 cd9 ct9), sl9⟩) (c9 : PySem.W.codeIn K cd9 "is_within" = true) (k9 : PySem.W.keepIn K (.ref f9) = true)
    {f10 : Addr} {oc10 kV10 dc10 pm10 cd10 ct10 : Value} {od10 an10 : Option Addr} {sl10 : Array (Option Value)}
    (a10 : PySem.W.nsIn K mainGlobals "is_name" = some (some (.ref f10))) (l10 : K.lookup f10 = some ⟨oc10, od10, .func (PySem.W.fnOf "is_name" "is_name" (defArgs s_is_name) (defBody s_is_name) (defScope s_is_name) .none kV10 dc10 pm10 an10 cd10 ct10), sl10⟩) (c10 : PySem.W.codeIn K cd10 "is_name" = true) (k10 : PySem.W.keepIn K (.ref f10) = true)
    {f11 : Addr} {oc11 kV11 dc11 pm11 cd11 ct11 : Value} {od11 an11 : Option Addr} {sl11 : Array (Option Value)}
    (a11 : PySem.W.nsIn K mainGlobals "need_names" = some (some (.ref f11))) (l11 : K.lookup f11 = some ⟨oc11, od11, .func (PySem.W.fnOf "need_names" "need_names" (defArgs s_need_names) (defBody s_need_names) (defScope s_need_names) .none kV11 dc11 pm11 an11 cd11 ct11), sl11⟩) (c11 : PySem.W.codeIn K cd11 "need_names" = true) (k11 : PySem.W.keepIn K (.ref f11) = true)
    {f12 : Addr} {oc12 kV12 dc12 pm12 cd12 ct12 : Value} {od12 an12 : Option Addr} {sl12 : Array (Option Value)}
    (a12 : PySem.W.nsIn K mainGlobals "need_numbers" = some (some (.ref f12))) (l12 : K.lookup f12 = some ⟨oc12, od12, .func (PySem.W.fnOf "need_numbers" "need_numbers" (defArgs s_need_numbers) (defBody s_need_numbers) (defScope s_need_numbers) .none kV12 dc12 pm12 an12 cd12 ct12), sl12⟩) (c12 : PySem.W.codeIn K cd12 "need_numbers" = true) (k12 : PySem.W.keepIn K (.ref f12) = true)
    {f13 : Addr} {oc13 kV13 dc13 pm13 cd13 ct13 : Value} {od13 an13 : Option Addr} {sl13 : Array (Option Value)}
    (a13 : PySem.W.findIn K (.ref C_Channel) "__init__" = some (some (.ref f13))) (l13 : K.lookup f13 = some ⟨oc13, od13, .func (PySem.W.fnOf "__init__" "Channel.__init__" (defArgs s_Channel___init__) (defBody s_Channel___init__) (defScope s_Channel___init__) .none kV13 dc13 pm13 an13 cd13 ct13), sl13⟩) (c13 : PySem.W.codeIn K cd13 "Channel.__init__" = true) (k13 : PySem.W.keepIn K (.ref f13) = true)
    {f14 : Addr} {oc14 kV14 dc14 pm14 cd14 ct14 : Value} {od14 an14 : Option Addr} {sl14 : Array (Option Value)}
    (a14 : PySem.W.findIn K (.ref C_Ice) "__init__" = some (some (.ref f14))) (l14 : K.lookup f14 = some ⟨oc14, od14, .func (PySem.W.fnOf "__init__" "Ice.__init__" (defArgs s_Ice___init__) (defBody s_Ice___init__) (defScope s_Ice___init__) .none kV14 dc14 pm14 an14 cd14 ct14), sl14⟩) (c14 : PySem.W.codeIn K cd14 "Ice.__init__" = true) (k14 : PySem.W.keepIn K (.ref f14) = true)
    {f15 : Addr} {oc15 kV15 dc15 pm15 cd15 ct15 : Value} {od15 an15 : Option Addr} {sl15 : Array (Option Value)}
    (a15 : PySem.W.findIn K (.ref C_Ice) "need_hour" = some (some (.ref f15))) (l15 : K.lookup f15 = some ⟨oc15, od15, .func (PySem.W.fnOf "need_hour" "Ice.need_hour" (defArgs s_Ice_need_hour) (defBody s_Ice_need_hour) (defScope s_Ice_need_hour) .none kV15 dc15 pm15 an15 cd15 ct15), sl15⟩) (c15 : PySem.W.codeIn K cd15 "Ice.need_hour" = true) (k15 : PySem.W.keepIn K (.ref f15) = true)
    {f16 : Addr} {oc16 kV16 dc16 pm16 cd16 ct16 : Value} {od16 an16 : Option Addr} {sl16 : Array (Option Value)}
    (a16 : PySem.W.findIn K (.ref C_Ice) "need_breaking" = some (some (.ref f16))) (l16 : K.lookup f16 = some ⟨oc16, od16, .func (PySem.W.fnOf "need_breaking" "Ice.need_breaking" (defArgs s_Ice_need_breaking) (defBody s_Ice_need_breaking) (defScope s_Ice_need_breaking) .none kV16 dc16 pm16 an16 cd16 ct16), sl16⟩) (c16 : PySem.W.codeIn K cd16 "Ice.need_breaking" = true) (k16 : PySem.W.keepIn K (.ref f16) = true)
    {f17 : Addr} {oc17 kV17 dc17 pm17 cd17 ct17 : Value} {od17 an17 : Option Addr} {sl17 : Array (Option Value)}
    (a17 : PySem.W.findIn K (.ref C_Ice) "break_at" = some (some (.ref f17))) (l17 : K.lookup f17 = some ⟨oc17, od17, .func (PySem.W.fnOf "break_at" "Ice.break_at" (defArgs s_Ice_break_at) (defBody s_Ice_break_at) (defScope s_Ice_break_at) .none kV17 dc17 pm17 an17 cd17 ct17), sl17⟩) (c17 : PySem.W.codeIn K cd17 "Ice.break_at" = true) (k17 : PySem.W.keepIn K (.ref f17) = true)
    {f18 : Addr} {oc18 kV18 dc18 pm18 cd18 ct18 : Value} {od18 an18 : Option Addr} {sl18 : Array (Option Value)}
    (a18 : PySem.W.findIn K (.ref C_Ice) "mend_at" = some (some (.ref f18))) (l18 : K.lookup f18 = some ⟨oc18, od18, .func (PySem.W.fnOf "mend_at" "Ice.mend_at" (defArgs s_Ice_mend_at) (defBody s_Ice_mend_at) (defScope s_Ice_mend_at) .none kV18 dc18 pm18 an18 cd18 ct18), sl18⟩) (c18 : PySem.W.codeIn K cd18 "Ice.mend_at" = true) (k18 : PySem.W.keepIn K (.ref f18) = true)
    {f19 : Addr} {oc19 kV19 dc19 pm19 cd19 ct19 : Value} {od19 an19 : Option Addr} {sl19 : Array (Option Value)}
    (a19 : PySem.W.findIn K (.ref C_Ice) "breakings" = some (some (.ref f19))) (l19 : K.lookup f19 = some ⟨oc19, od19, .func (PySem.W.fnOf "breakings" "Ice.breakings" (defArgs s_Ice_breakings) (defBody s_Ice_breakings) (defScope s_Ice_breakings) .none kV19 dc19 pm19 an19 cd19 ct19), sl19⟩) (c19 : PySem.W.codeIn K cd19 "Ice.breakings" = true) (k19 : PySem.W.keepIn K (.ref f19) = true)
    {f20 : Addr} {oc20 kV20 dc20 pm20 cd20 ct20 : Value} {od20 an20 : Option Addr} {sl20 : Array (Option Value)}
    (a20 : PySem.W.findIn K (.ref C_Ice) "grown" = some (some (.ref f20))) (l20 : K.lookup f20 = some ⟨oc20, od20, .func (PySem.W.fnOf "grown" "Ice.grown" (defArgs s_Ice_grown) (defBody s_Ice_grown) (defScope s_Ice_grown) .none kV20 dc20 pm20 an20 cd20 ct20), sl20⟩) (c20 : PySem.W.codeIn K cd20 "Ice.grown" = true) (k20 : PySem.W.keepIn K (.ref f20) = true)
    {f21 : Addr} {oc21 kV21 dc21 pm21 cd21 ct21 : Value} {od21 an21 : Option Addr} {sl21 : Array (Option Value)}
    (a21 : PySem.W.findIn K (.ref C_Ice) "rows" = some (some (.ref f21))) (l21 : K.lookup f21 = some ⟨oc21, od21, .func (PySem.W.fnOf "rows" "Ice.rows" (defArgs s_Ice_rows) (defBody s_Ice_rows) (defScope s_Ice_rows) .none kV21 dc21 pm21 an21 cd21 ct21), sl21⟩) (c21 : PySem.W.codeIn K cd21 "Ice.rows" = true) (k21 : PySem.W.keepIn K (.ref f21) = true)
    {f22 : Addr} {oc22 kV22 dc22 pm22 cd22 ct22 : Value} {od22 an22 : Option Addr} {sl22 : Array (Option Value)}
    (a22 : PySem.W.findIn K (.ref C_Ice) "bases" = some (some (.ref f22))) (l22 : K.lookup f22 = some ⟨oc22, od22, .func (PySem.W.fnOf "bases" "Ice.bases" (defArgs s_Ice_bases) (defBody s_Ice_bases) (defScope s_Ice_bases) .none kV22 dc22 pm22 an22 cd22 ct22), sl22⟩) (c22 : PySem.W.codeIn K cd22 "Ice.bases" = true) (k22 : PySem.W.keepIn K (.ref f22) = true)
    {f23 : Addr} {oc23 kV23 dc23 pm23 cd23 ct23 : Value} {od23 an23 : Option Addr} {sl23 : Array (Option Value)}
    (a23 : PySem.W.findIn K (.ref C_Ice) "thick" = some (some (.ref f23))) (l23 : K.lookup f23 = some ⟨oc23, od23, .func (PySem.W.fnOf "thick" "Ice.thick" (defArgs s_Ice_thick) (defBody s_Ice_thick) (defScope s_Ice_thick) .none kV23 dc23 pm23 an23 cd23 ct23), sl23⟩) (c23 : PySem.W.codeIn K cd23 "Ice.thick" = true) (k23 : PySem.W.keepIn K (.ref f23) = true)
    {f24 : Addr} {oc24 kV24 dc24 pm24 cd24 ct24 : Value} {od24 an24 : Option Addr} {sl24 : Array (Option Value)}
    (a24 : PySem.W.findIn K (.ref C_Ice) "ahead" = some (some (.ref f24))) (l24 : K.lookup f24 = some ⟨oc24, od24, .func (PySem.W.fnOf "ahead" "Ice.ahead" (defArgs s_Ice_ahead) (defBody s_Ice_ahead) (defScope s_Ice_ahead) .none kV24 dc24 pm24 an24 cd24 ct24), sl24⟩) (c24 : PySem.W.codeIn K cd24 "Ice.ahead" = true) (k24 : PySem.W.keepIn K (.ref f24) = true)
    {f25 : Addr} {oc25 kV25 dc25 pm25 cd25 ct25 : Value} {od25 an25 : Option Addr} {sl25 : Array (Option Value)}
    (a25 : PySem.W.nsIn K mainGlobals "_law_cell" = some (some (.ref f25))) (l25 : K.lookup f25 = some ⟨oc25, od25, .func (PySem.W.fnOf "_law_cell" "_law_cell" (defArgs s_law_cell) (defBody s_law_cell) (defScope s_law_cell) .none kV25 dc25 pm25 an25 cd25 ct25), sl25⟩) (c25 : PySem.W.codeIn K cd25 "_law_cell" = true) (k25 : PySem.W.keepIn K (.ref f25) = true)
    {f26 : Addr} {oc26 kV26 dc26 pm26 cd26 ct26 : Value} {od26 an26 : Option Addr} {sl26 : Array (Option Value)}
    (a26 : PySem.W.nsIn K mainGlobals "_law_box" = some (some (.ref f26))) (l26 : K.lookup f26 = some ⟨oc26, od26, .func (PySem.W.fnOf "_law_box" "_law_box" (defArgs s_law_box) (defBody s_law_box) (defScope s_law_box) .none kV26 dc26 pm26 an26 cd26 ct26), sl26⟩) (c26 : PySem.W.codeIn K cd26 "_law_box" = true) (k26 : PySem.W.keepIn K (.ref f26) = true)
    {f27 : Addr} {oc27 kV27 dc27 pm27 cd27 ct27 : Value} {od27 an27 : Option Addr} {sl27 : Array (Option Value)}
    (a27 : PySem.W.nsIn K mainGlobals "_law_take" = some (some (.ref f27))) (l27 : K.lookup f27 = some ⟨oc27, od27, .func (PySem.W.fnOf "_law_take" "_law_take" (defArgs s_law_take) (defBody s_law_take) (defScope s_law_take) .none kV27 dc27 pm27 an27 cd27 ct27), sl27⟩) (c27 : PySem.W.codeIn K cd27 "_law_take" = true) (k27 : PySem.W.keepIn K (.ref f27) = true)
    {f28 : Addr} {oc28 kV28 dc28 pm28 cd28 ct28 : Value} {od28 an28 : Option Addr} {sl28 : Array (Option Value)}
    (a28 : PySem.W.nsIn K mainGlobals "_law_numbers" = some (some (.ref f28))) (l28 : K.lookup f28 = some ⟨oc28, od28, .func (PySem.W.fnOf "_law_numbers" "_law_numbers" (defArgs s_law_numbers) (defBody s_law_numbers) (defScope s_law_numbers) .none kV28 dc28 pm28 an28 cd28 ct28), sl28⟩) (c28 : PySem.W.codeIn K cd28 "_law_numbers" = true) (k28 : PySem.W.keepIn K (.ref f28) = true)
    {f29 : Addr} {oc29 kV29 dc29 pm29 cd29 ct29 : Value} {od29 an29 : Option Addr} {sl29 : Array (Option Value)}
    (a29 : PySem.W.nsIn K mainGlobals "_law_ice" = some (some (.ref f29))) (l29 : K.lookup f29 = some ⟨oc29, od29, .func (PySem.W.fnOf "_law_ice" "_law_ice" (defArgs s_law_ice) (defBody s_law_ice) (defScope s_law_ice) .none kV29 dc29 pm29 an29 cd29 ct29), sl29⟩) (c29 : PySem.W.codeIn K cd29 "_law_ice" = true) (k29 : PySem.W.keepIn K (.ref f29) = true)
    {f30 : Addr} {oc30 kV30 dc30 pm30 cd30 ct30 : Value} {od30 an30 : Option Addr} {sl30 : Array (Option Value)}
    (a30 : PySem.W.nsIn K mainGlobals "_law_cut" = some (some (.ref f30))) (l30 : K.lookup f30 = some ⟨oc30, od30, .func (PySem.W.fnOf "_law_cut" "_law_cut" (defArgs s_law_cut) (defBody s_law_cut) (defScope s_law_cut) .none kV30 dc30 pm30 an30 cd30 ct30), sl30⟩) (c30 : PySem.W.codeIn K cd30 "_law_cut" = true) (k30 : PySem.W.keepIn K (.ref f30) = true)
    {f31 : Addr} {oc31 kV31 dc31 pm31 cd31 ct31 : Value} {od31 an31 : Option Addr} {sl31 : Array (Option Value)}
    (a31 : PySem.W.nsIn K mainGlobals "_law_hour" = some (some (.ref f31))) (l31 : K.lookup f31 = some ⟨oc31, od31, .func (PySem.W.fnOf "_law_hour" "_law_hour" (defArgs s_law_hour) (defBody s_law_hour) (defScope s_law_hour) .none kV31 dc31 pm31 an31 cd31 ct31), sl31⟩) (c31 : PySem.W.codeIn K cd31 "_law_hour" = true) (k31 : PySem.W.keepIn K (.ref f31) = true)
    {f32 : Addr} {oc32 kV32 dc32 pm32 cd32 ct32 : Value} {od32 an32 : Option Addr} {sl32 : Array (Option Value)}
    (a32 : PySem.W.nsIn K mainGlobals "_law_all" = some (some (.ref f32))) (l32 : K.lookup f32 = some ⟨oc32, od32, .func (PySem.W.fnOf "_law_all" "_law_all" (defArgs s_law_all) (defBody s_law_all) (defScope s_law_all) .none kV32 dc32 pm32 an32 cd32 ct32), sl32⟩) (c32 : PySem.W.codeIn K cd32 "_law_all" = true) (k32 : PySem.W.keepIn K (.ref f32) = true)
    {f33 : Addr} {oc33 kV33 dc33 pm33 cd33 ct33 : Value} {od33 an33 : Option Addr} {sl33 : Array (Option Value)}
    (a33 : PySem.W.nsIn K mainGlobals "_law_rows" = some (some (.ref f33))) (l33 : K.lookup f33 = some ⟨oc33, od33, .func (PySem.W.fnOf "_law_rows" "_law_rows" (defArgs s_law_rows) (defBody s_law_rows) (defScope s_law_rows) .none kV33 dc33 pm33 an33 cd33 ct33), sl33⟩) (c33 : PySem.W.codeIn K cd33 "_law_rows" = true) (k33 : PySem.W.keepIn K (.ref f33) = true)
    {f34 : Addr} {oc34 kV34 dc34 pm34 cd34 ct34 : Value} {od34 an34 : Option Addr} {sl34 : Array (Option Value)}
    (a34 : PySem.W.nsIn K mainGlobals "_law_at" = some (some (.ref f34))) (l34 : K.lookup f34 = some ⟨oc34, od34, .func (PySem.W.fnOf "_law_at" "_law_at" (defArgs s_law_at) (defBody s_law_at) (defScope s_law_at) .none kV34 dc34 pm34 an34 cd34 ct34), sl34⟩) (c34 : PySem.W.codeIn K cd34 "_law_at" = true) (k34 : PySem.W.keepIn K (.ref f34) = true)
    {f35 : Addr} {oc35 kV35 dc35 pm35 cd35 ct35 : Value} {od35 an35 : Option Addr} {sl35 : Array (Option Value)}
    (a35 : PySem.W.nsIn K mainGlobals "_law_mended" = some (some (.ref f35))) (l35 : K.lookup f35 = some ⟨oc35, od35, .func (PySem.W.fnOf "_law_mended" "_law_mended" (defArgs s_law_mended) (defBody s_law_mended) (defScope s_law_mended) .none kV35 dc35 pm35 an35 cd35 ct35), sl35⟩) (c35 : PySem.W.codeIn K cd35 "_law_mended" = true) (k35 : PySem.W.keepIn K (.ref f35) = true)
    {f36 : Addr} {oc36 kV36 dc36 pm36 cd36 ct36 : Value} {od36 an36 : Option Addr} {sl36 : Array (Option Value)}
    (a36 : PySem.W.nsIn K mainGlobals "_law_mend" = some (some (.ref f36))) (l36 : K.lookup f36 = some ⟨oc36, od36, .func (PySem.W.fnOf "_law_mend" "_law_mend" (defArgs s_law_mend) (defBody s_law_mend) (defScope s_law_mend) .none kV36 dc36 pm36 an36 cd36 ct36), sl36⟩) (c36 : PySem.W.codeIn K cd36 "_law_mend" = true) (k36 : PySem.W.keepIn K (.ref f36) = true)
    {f37 : Addr} {oc37 kV37 dc37 pm37 cd37 ct37 : Value} {od37 an37 : Option Addr} {sl37 : Array (Option Value)}
    (a37 : PySem.W.nsIn K mainGlobals "_law_deed" = some (some (.ref f37))) (l37 : K.lookup f37 = some ⟨oc37, od37, .func (PySem.W.fnOf "_law_deed" "_law_deed" (defArgs s_law_deed) (defBody s_law_deed) (defScope s_law_deed) .none kV37 dc37 pm37 an37 cd37 ct37), sl37⟩) (c37 : PySem.W.codeIn K cd37 "_law_deed" = true) (k37 : PySem.W.keepIn K (.ref f37) = true)
    {f38 : Addr} {oc38 kV38 dc38 pm38 cd38 ct38 : Value} {od38 an38 : Option Addr} {sl38 : Array (Option Value)}
    (a38 : PySem.W.nsIn K mainGlobals "_law_stands" = some (some (.ref f38))) (l38 : K.lookup f38 = some ⟨oc38, od38, .func (PySem.W.fnOf "_law_stands" "_law_stands" (defArgs s_law_stands) (defBody s_law_stands) (defScope s_law_stands) .none kV38 dc38 pm38 an38 cd38 ct38), sl38⟩) (c38 : PySem.W.codeIn K cd38 "_law_stands" = true) (k38 : PySem.W.keepIn K (.ref f38) = true)
    {f39 : Addr} {oc39 kV39 dc39 pm39 cd39 ct39 : Value} {od39 an39 : Option Addr} {sl39 : Array (Option Value)}
    (a39 : PySem.W.nsIn K mainGlobals "law" = some (some (.ref f39))) (l39 : K.lookup f39 = some ⟨oc39, od39, .func (PySem.W.fnOf "law" "law" (defArgs s_law) (defBody s_law) (defScope s_law) .none kV39 dc39 pm39 an39 cd39 ct39), sl39⟩) (c39 : PySem.W.codeIn K cd39 "law" = true) (k39 : PySem.W.keepIn K (.ref f39) = true)
    (z_all : PySem.W.nsIn K mainGlobals "all" = some none)
    (z_bool : PySem.W.nsIn K mainGlobals "bool" = some none)
    (z_int : PySem.W.nsIn K mainGlobals "int" = some none)
    (z_isinstance : PySem.W.nsIn K mainGlobals "isinstance" = some none)
    (z_len : PySem.W.nsIn K mainGlobals "len" = some none)
    (z_max : PySem.W.nsIn K mainGlobals "max" = some none)
    (z_min : PySem.W.nsIn K mainGlobals "min" = some none)
    (z_range : PySem.W.nsIn K mainGlobals "range" = some none)
    (z_repr : PySem.W.nsIn K mainGlobals "repr" = some none)
    (z_sorted : PySem.W.nsIn K mainGlobals "sorted" = some none)
    (z_str : PySem.W.nsIn K mainGlobals "str" = some none)
    (z_sum : PySem.W.nsIn K mainGlobals "sum" = some none)
    {t_LETTERS : Tok} (y_LETTERS : PySem.W.nsIn K mainGlobals "LETTERS" = some (some (.str "abcdefghijklmnopqrstuvwxyz" t_LETTERS)))
    {t_LONGEST_NAME : Tok} (y_LONGEST_NAME : PySem.W.nsIn K mainGlobals "LONGEST_NAME" = some (some (.int 8 t_LONGEST_NAME)))
    {t_MOST_HOUR : Tok} (y_MOST_HOUR : PySem.W.nsIn K mainGlobals "MOST_HOUR" = some (some (.int 1000000 t_MOST_HOUR)))
    {t_MOST_ICE : Tok} (y_MOST_ICE : PySem.W.nsIn K mainGlobals "MOST_ICE" = some (some (.int 1000000 t_MOST_ICE)))
    {t_MOST_DEPTH : Tok} (y_MOST_DEPTH : PySem.W.nsIn K mainGlobals "MOST_DEPTH" = some (some (.int 1000 t_MOST_DEPTH)))
    {t_MOST_LENGTH : Tok} (y_MOST_LENGTH : PySem.W.nsIn K mainGlobals "MOST_LENGTH" = some (some (.int 1000 t_MOST_LENGTH)))
    {t_MOST_GROWTH : Tok} (y_MOST_GROWTH : PySem.W.nsIn K mainGlobals "MOST_GROWTH" = some (some (.int 1000 t_MOST_GROWTH)))
    {t_LAST_HOUR : Tok} (y_LAST_HOUR : PySem.W.nsIn K mainGlobals "LAST_HOUR" = some (some (.int 1000000000 t_LAST_HOUR)))
    {t_LAST_BREAKING : Tok} (y_LAST_BREAKING : PySem.W.nsIn K mainGlobals "LAST_BREAKING" = some (some (.int 100000000 t_LAST_BREAKING)))
    {t_MOST_CUT : Tok} (y_MOST_CUT : PySem.W.nsIn K mainGlobals "MOST_CUT" = some (some (.int 1000000 t_MOST_CUT)))
    {t_MOST_BREAKINGS : Tok} (y_MOST_BREAKINGS : PySem.W.nsIn K mainGlobals "MOST_BREAKINGS" = some (some (.int 200 t_MOST_BREAKINGS)))
    (p1_Channel : PySem.W.plainGet K C_Channel Str.empty = true)
    (p2_Channel : PySem.W.hasDictIn K C_Channel = true)
    (p3_Channel : PySem.W.plainOver K C_Channel = true)
    (p4_Channel : PySem.W.findIn K (.ref C_Channel) "__setattr__" = some (some (.builtin "object.__setattr__")))
    (nn_Channel_name : PySem.W.findIn K (.ref C_Channel) "name" = some none)
    (nn_Channel_one : PySem.W.findIn K (.ref C_Channel) "one" = some none)
    (nn_Channel_other : PySem.W.findIn K (.ref C_Channel) "other" = some none)
    (nn_Channel_hours : PySem.W.findIn K (.ref C_Channel) "hours" = some none)
    (nn_Channel_depth : PySem.W.findIn K (.ref C_Channel) "depth" = some none)
    (nn_Channel_first : PySem.W.findIn K (.ref C_Channel) "first" = some none)
    (nn_Channel_growth : PySem.W.findIn K (.ref C_Channel) "growth" = some none)
    (nn_Channel_most : PySem.W.findIn K (.ref C_Channel) "most" = some none)
    (p1_Ice : PySem.W.plainGet K C_Ice Str.empty = true)
    (p2_Ice : PySem.W.hasDictIn K C_Ice = true)
    (p3_Ice : PySem.W.plainOver K C_Ice = true)
    (p4_Ice : PySem.W.findIn K (.ref C_Ice) "__setattr__" = some (some (.builtin "object.__setattr__")))
    (nn_Ice_way : PySem.W.findIn K (.ref C_Ice) "way" = some none)
    (nn_Ice_since : PySem.W.findIn K (.ref C_Ice) "since" = some none)
    (nn_Ice_cuts : PySem.W.findIn K (.ref C_Ice) "cuts" = some none)
    (hn_class : PySem.W.specialIn K (.builtin "object.__class__") "__get__" = some (some (.builtin "getset_descriptor.__get__")))
    (ht_class : PySem.W.takesIn K (.builtin "object.__class__") = some true)
    (yc_Channel : PySem.W.isClsIn K C_Channel = true)
    (yt_Channel : PySem.W.typeIn K (.ref C_Channel) = some (.type "type"))
    (tf_y_Channel : PySem.W.subIn K (.ref C_Channel) (.ref C_Channel) = some true)
    (id_Channel : PySem.W.findIn K (.ref C_Channel) "__class__" = some (some (.builtin "object.__class__")))
    (in_Channel : PySem.W.mroIn K C_Channel (.type "object") = some true)
    (tf_k_Channel_Channel : PySem.W.subIn K (.ref C_Channel) (.ref C_Channel) = some true)
    (id_Ice : PySem.W.findIn K (.ref C_Ice) "__class__" = some (some (.builtin "object.__class__")))
    (in_Ice : PySem.W.mroIn K C_Ice (.type "object") = some true)
    (tf_k_Ice_Channel : PySem.W.subIn K (.ref C_Ice) (.ref C_Channel) = some false)
    (mm_Channel : PySem.W.makesIn K C_Channel = true)
    (mi_Channel : PySem.W.findIn K (.ref C_Channel) "__init__" = some (some (.ref f13)))
    (mf_Channel : PySem.W.isFn K (.ref f13) = true)
    (mq_Channel : PySem.W.keepIn K (.ref C_Channel) = true)
    (mm_Ice : PySem.W.makesIn K C_Ice = true)
    (mi_Ice : PySem.W.findIn K (.ref C_Ice) "__init__" = some (some (.ref f14)))
    (mf_Ice : PySem.W.isFn K (.ref f14) = true)
    (mq_Ice : PySem.W.keepIn K (.ref C_Ice) = true)
    (ma_Ice_ahead : PySem.W.findIn K (.ref C_Ice) "ahead" = some (some (.ref f24)))
    (mb_Ice_ahead : PySem.W.isFn K (.ref f24) = true)
    (ma_Ice_bases : PySem.W.findIn K (.ref C_Ice) "bases" = some (some (.ref f22)))
    (mb_Ice_bases : PySem.W.isFn K (.ref f22) = true)
    (ma_Ice_break_at : PySem.W.findIn K (.ref C_Ice) "break_at" = some (some (.ref f17)))
    (mb_Ice_break_at : PySem.W.isFn K (.ref f17) = true)
    (ma_Ice_breakings : PySem.W.findIn K (.ref C_Ice) "breakings" = some (some (.ref f19)))
    (mb_Ice_breakings : PySem.W.isFn K (.ref f19) = true)
    (ma_Ice_grown : PySem.W.findIn K (.ref C_Ice) "grown" = some (some (.ref f20)))
    (mb_Ice_grown : PySem.W.isFn K (.ref f20) = true)
    (ma_Ice_mend_at : PySem.W.findIn K (.ref C_Ice) "mend_at" = some (some (.ref f18)))
    (mb_Ice_mend_at : PySem.W.isFn K (.ref f18) = true)
    (ma_Ice_need_breaking : PySem.W.findIn K (.ref C_Ice) "need_breaking" = some (some (.ref f16)))
    (mb_Ice_need_breaking : PySem.W.isFn K (.ref f16) = true)
    (ma_Ice_need_hour : PySem.W.findIn K (.ref C_Ice) "need_hour" = some (some (.ref f15)))
    (mb_Ice_need_hour : PySem.W.isFn K (.ref f15) = true)
    (ma_Ice_rows : PySem.W.findIn K (.ref C_Ice) "rows" = some (some (.ref f21)))
    (mb_Ice_rows : PySem.W.isFn K (.ref f21) = true)
    (ma_Ice_thick : PySem.W.findIn K (.ref C_Ice) "thick" = some (some (.ref f23)))
    (mb_Ice_thick : PySem.W.isFn K (.ref f23) = true)
    (ra_IceError : PySem.W.readsIn K C_IceError (.type "type") = true)
    (gb_IceError : PySem.W.specialIn K (.ref C_IceError) "__getattribute__" = some (some (.builtin "type.__getattribute__")))
    (vj_IceError : PySem.W.findCls K (.ref C_IceError) (.type "type") "__init__" = some (.val (.builtin "ValueError.__init__")))
    {nm_NoName q_NoName : Str} {N_NoName : Addr} {bs_NoName : List Value} {sn_NoName : List Str} {sub_NoName : List Value} {ab_NoName : Bool} {col_NoName : Option Bool} {dd_NoName : Option Addr} {m0_NoName m1_NoName m2_NoName m3_NoName m5_NoName : Option Value}
    (xl_NoName : K.lookup C_NoName = some (excClassObj nm_NoName q_NoName C_NoName N_NoName bs_NoName [.ref C_IceError, .type "ValueError", .type "Exception", .type "BaseException", .type "object"] true sn_NoName sub_NoName ab_NoName col_NoName dd_NoName m0_NoName m1_NoName m2_NoName m3_NoName m5_NoName "ValueError.__new__"))
    (xs_NoName : PySem.W.findIn K (.ref C_NoName) "__setattr__" = some (some (.builtin "object.__setattr__")))
    (xe_NoName : PySem.W.subIn K (.ref C_NoName) (.type "BaseException") = some true)
    (xt_NoName : PySem.W.typeIn K (.ref C_NoName) = some (.type "type"))
    (xk_NoName : PySem.W.keepIn K (.ref C_NoName) = true)
    (xy_NoName : PySem.W.typeIn K (.ref f1) = some (.type "function"))
    (xg_NoName : PySem.W.findIn K (.ref C_NoName) "__getattribute__" = some (some (.builtin "BaseException.__getattribute__")))
    (xh_NoName : PySem.W.findIn K (.ref C_NoName) "__getattr__" = some none)
    (xd_NoName : PySem.W.hasDictIn K C_NoName = true)
    (nn_NoName_found : PySem.W.findIn K (.ref C_NoName) "found" = some none)
    {nm_NoNumber q_NoNumber : Str} {N_NoNumber : Addr} {bs_NoNumber : List Value} {sn_NoNumber : List Str} {sub_NoNumber : List Value} {ab_NoNumber : Bool} {col_NoNumber : Option Bool} {dd_NoNumber : Option Addr} {m0_NoNumber m1_NoNumber m2_NoNumber m3_NoNumber m5_NoNumber : Option Value}
    (xl_NoNumber : K.lookup C_NoNumber = some (excClassObj nm_NoNumber q_NoNumber C_NoNumber N_NoNumber bs_NoNumber [.ref C_IceError, .type "ValueError", .type "Exception", .type "BaseException", .type "object"] true sn_NoNumber sub_NoNumber ab_NoNumber col_NoNumber dd_NoNumber m0_NoNumber m1_NoNumber m2_NoNumber m3_NoNumber m5_NoNumber "ValueError.__new__"))
    (xs_NoNumber : PySem.W.findIn K (.ref C_NoNumber) "__setattr__" = some (some (.builtin "object.__setattr__")))
    (xe_NoNumber : PySem.W.subIn K (.ref C_NoNumber) (.type "BaseException") = some true)
    (xt_NoNumber : PySem.W.typeIn K (.ref C_NoNumber) = some (.type "type"))
    (xk_NoNumber : PySem.W.keepIn K (.ref C_NoNumber) = true)
    (xy_NoNumber : PySem.W.typeIn K (.ref f2) = some (.type "function"))
    (xg_NoNumber : PySem.W.findIn K (.ref C_NoNumber) "__getattribute__" = some (some (.builtin "BaseException.__getattribute__")))
    (xh_NoNumber : PySem.W.findIn K (.ref C_NoNumber) "__getattr__" = some none)
    (xd_NoNumber : PySem.W.hasDictIn K C_NoNumber = true)
    (nn_NoNumber_found : PySem.W.findIn K (.ref C_NoNumber) "found" = some none)
    {nm_NoChannel q_NoChannel : Str} {N_NoChannel : Addr} {bs_NoChannel : List Value} {sn_NoChannel : List Str} {sub_NoChannel : List Value} {ab_NoChannel : Bool} {col_NoChannel : Option Bool} {dd_NoChannel : Option Addr} {m0_NoChannel m1_NoChannel m2_NoChannel m3_NoChannel m5_NoChannel : Option Value}
    (xl_NoChannel : K.lookup C_NoChannel = some (excClassObj nm_NoChannel q_NoChannel C_NoChannel N_NoChannel bs_NoChannel [.ref C_IceError, .type "ValueError", .type "Exception", .type "BaseException", .type "object"] true sn_NoChannel sub_NoChannel ab_NoChannel col_NoChannel dd_NoChannel m0_NoChannel m1_NoChannel m2_NoChannel m3_NoChannel m5_NoChannel "ValueError.__new__"))
    (xs_NoChannel : PySem.W.findIn K (.ref C_NoChannel) "__setattr__" = some (some (.builtin "object.__setattr__")))
    (xe_NoChannel : PySem.W.subIn K (.ref C_NoChannel) (.type "BaseException") = some true)
    (xt_NoChannel : PySem.W.typeIn K (.ref C_NoChannel) = some (.type "type"))
    (xk_NoChannel : PySem.W.keepIn K (.ref C_NoChannel) = true)
    (xy_NoChannel : PySem.W.typeIn K (.ref f3) = some (.type "function"))
    (xg_NoChannel : PySem.W.findIn K (.ref C_NoChannel) "__getattribute__" = some (some (.builtin "BaseException.__getattribute__")))
    (xh_NoChannel : PySem.W.findIn K (.ref C_NoChannel) "__getattr__" = some none)
    (xd_NoChannel : PySem.W.hasDictIn K C_NoChannel = true)
    (nn_NoChannel_found : PySem.W.findIn K (.ref C_NoChannel) "found" = some none)
    {nm_NoHour q_NoHour : Str} {N_NoHour : Addr} {bs_NoHour : List Value} {sn_NoHour : List Str} {sub_NoHour : List Value} {ab_NoHour : Bool} {col_NoHour : Option Bool} {dd_NoHour : Option Addr} {m0_NoHour m1_NoHour m2_NoHour m3_NoHour m5_NoHour : Option Value}
    (xl_NoHour : K.lookup C_NoHour = some (excClassObj nm_NoHour q_NoHour C_NoHour N_NoHour bs_NoHour [.ref C_IceError, .type "ValueError", .type "Exception", .type "BaseException", .type "object"] true sn_NoHour sub_NoHour ab_NoHour col_NoHour dd_NoHour m0_NoHour m1_NoHour m2_NoHour m3_NoHour m5_NoHour "ValueError.__new__"))
    (xs_NoHour : PySem.W.findIn K (.ref C_NoHour) "__setattr__" = some (some (.builtin "object.__setattr__")))
    (xe_NoHour : PySem.W.subIn K (.ref C_NoHour) (.type "BaseException") = some true)
    (xt_NoHour : PySem.W.typeIn K (.ref C_NoHour) = some (.type "type"))
    (xk_NoHour : PySem.W.keepIn K (.ref C_NoHour) = true)
    (xy_NoHour : PySem.W.typeIn K (.ref f4) = some (.type "function"))
    (xg_NoHour : PySem.W.findIn K (.ref C_NoHour) "__getattribute__" = some (some (.builtin "BaseException.__getattribute__")))
    (xh_NoHour : PySem.W.findIn K (.ref C_NoHour) "__getattr__" = some none)
    (xd_NoHour : PySem.W.hasDictIn K C_NoHour = true)
    (nn_NoHour_found : PySem.W.findIn K (.ref C_NoHour) "found" = some none)
    {nm_NoEntry q_NoEntry : Str} {N_NoEntry : Addr} {bs_NoEntry : List Value} {sn_NoEntry : List Str} {sub_NoEntry : List Value} {ab_NoEntry : Bool} {col_NoEntry : Option Bool} {dd_NoEntry : Option Addr} {m0_NoEntry m1_NoEntry m2_NoEntry m3_NoEntry m5_NoEntry : Option Value}
    (xl_NoEntry : K.lookup C_NoEntry = some (excClassObj nm_NoEntry q_NoEntry C_NoEntry N_NoEntry bs_NoEntry [.ref C_IceError, .type "ValueError", .type "Exception", .type "BaseException", .type "object"] true sn_NoEntry sub_NoEntry ab_NoEntry col_NoEntry dd_NoEntry m0_NoEntry m1_NoEntry m2_NoEntry m3_NoEntry m5_NoEntry "ValueError.__new__"))
    (xs_NoEntry : PySem.W.findIn K (.ref C_NoEntry) "__setattr__" = some (some (.builtin "object.__setattr__")))
    (xe_NoEntry : PySem.W.subIn K (.ref C_NoEntry) (.type "BaseException") = some true)
    (xt_NoEntry : PySem.W.typeIn K (.ref C_NoEntry) = some (.type "type"))
    (xk_NoEntry : PySem.W.keepIn K (.ref C_NoEntry) = true)
    (xy_NoEntry : PySem.W.typeIn K (.ref f5) = some (.type "function"))
    (xg_NoEntry : PySem.W.findIn K (.ref C_NoEntry) "__getattribute__" = some (some (.builtin "BaseException.__getattribute__")))
    (xh_NoEntry : PySem.W.findIn K (.ref C_NoEntry) "__getattr__" = some none)
    (xd_NoEntry : PySem.W.hasDictIn K C_NoEntry = true)
    (nn_NoEntry_found : PySem.W.findIn K (.ref C_NoEntry) "found" = some none)
    {nm_Doubled q_Doubled : Str} {N_Doubled : Addr} {bs_Doubled : List Value} {sn_Doubled : List Str} {sub_Doubled : List Value} {ab_Doubled : Bool} {col_Doubled : Option Bool} {dd_Doubled : Option Addr} {m0_Doubled m1_Doubled m2_Doubled m3_Doubled m5_Doubled : Option Value}
    (xl_Doubled : K.lookup C_Doubled = some (excClassObj nm_Doubled q_Doubled C_Doubled N_Doubled bs_Doubled [.ref C_IceError, .type "ValueError", .type "Exception", .type "BaseException", .type "object"] true sn_Doubled sub_Doubled ab_Doubled col_Doubled dd_Doubled m0_Doubled m1_Doubled m2_Doubled m3_Doubled m5_Doubled "ValueError.__new__"))
    (xs_Doubled : PySem.W.findIn K (.ref C_Doubled) "__setattr__" = some (some (.builtin "object.__setattr__")))
    (xe_Doubled : PySem.W.subIn K (.ref C_Doubled) (.type "BaseException") = some true)
    (xt_Doubled : PySem.W.typeIn K (.ref C_Doubled) = some (.type "type"))
    (xk_Doubled : PySem.W.keepIn K (.ref C_Doubled) = true)
    (xy_Doubled : PySem.W.typeIn K (.ref f6) = some (.type "function"))
    (xg_Doubled : PySem.W.findIn K (.ref C_Doubled) "__getattribute__" = some (some (.builtin "BaseException.__getattribute__")))
    (xh_Doubled : PySem.W.findIn K (.ref C_Doubled) "__getattr__" = some none)
    (xd_Doubled : PySem.W.hasDictIn K C_Doubled = true)
    (nn_Doubled_name : PySem.W.findIn K (.ref C_Doubled) "name" = some none)
    {nm_TooMany q_TooMany : Str} {N_TooMany : Addr} {bs_TooMany : List Value} {sn_TooMany : List Str} {sub_TooMany : List Value} {ab_TooMany : Bool} {col_TooMany : Option Bool} {dd_TooMany : Option Addr} {m0_TooMany m1_TooMany m2_TooMany m3_TooMany m5_TooMany : Option Value}
    (xl_TooMany : K.lookup C_TooMany = some (excClassObj nm_TooMany q_TooMany C_TooMany N_TooMany bs_TooMany [.ref C_IceError, .type "ValueError", .type "Exception", .type "BaseException", .type "object"] true sn_TooMany sub_TooMany ab_TooMany col_TooMany dd_TooMany m0_TooMany m1_TooMany m2_TooMany m3_TooMany m5_TooMany "ValueError.__new__"))
    (xs_TooMany : PySem.W.findIn K (.ref C_TooMany) "__setattr__" = some (some (.builtin "object.__setattr__")))
    (xe_TooMany : PySem.W.subIn K (.ref C_TooMany) (.type "BaseException") = some true)
    (xt_TooMany : PySem.W.typeIn K (.ref C_TooMany) = some (.type "type"))
    (xk_TooMany : PySem.W.keepIn K (.ref C_TooMany) = true)
    (xy_TooMany : PySem.W.typeIn K (.ref f7) = some (.type "function"))
    (xg_TooMany : PySem.W.findIn K (.ref C_TooMany) "__getattribute__" = some (some (.builtin "BaseException.__getattribute__")))
    (xh_TooMany : PySem.W.findIn K (.ref C_TooMany) "__getattr__" = some none)
    (xd_TooMany : PySem.W.hasDictIn K C_TooMany = true)
    (nn_TooMany_many : PySem.W.findIn K (.ref C_TooMany) "many" = some none)
    (xe_IceError : PySem.W.subIn K (.ref C_IceError) (.type "BaseException") = some true)
    (xt_IceError : PySem.W.typeIn K (.ref C_IceError) = some (.type "type"))
    (xc_IceError : PySem.W.isClsIn K C_IceError = true)
    (tf_NoName_IceError : PySem.W.subIn K (.ref C_NoName) (.ref C_IceError) = some true)
    (tf_NoNumber_IceError : PySem.W.subIn K (.ref C_NoNumber) (.ref C_IceError) = some true)
    (tf_NoChannel_IceError : PySem.W.subIn K (.ref C_NoChannel) (.ref C_IceError) = some true)
    (tf_NoHour_IceError : PySem.W.subIn K (.ref C_NoHour) (.ref C_IceError) = some true)
    (tf_NoEntry_IceError : PySem.W.subIn K (.ref C_NoEntry) (.ref C_IceError) = some true)
    (tf_Doubled_IceError : PySem.W.subIn K (.ref C_Doubled) (.ref C_IceError) = some true)
    (tf_TooMany_IceError : PySem.W.subIn K (.ref C_TooMany) (.ref C_IceError) = some true)
    (xc_NoEntry : PySem.W.isClsIn K C_NoEntry = true)
    (tf_NoName_NoEntry : PySem.W.subIn K (.ref C_NoName) (.ref C_NoEntry) = some false)
    (tf_NoNumber_NoEntry : PySem.W.subIn K (.ref C_NoNumber) (.ref C_NoEntry) = some false)
    (tf_NoChannel_NoEntry : PySem.W.subIn K (.ref C_NoChannel) (.ref C_NoEntry) = some false)
    (tf_NoHour_NoEntry : PySem.W.subIn K (.ref C_NoHour) (.ref C_NoEntry) = some false)
    (tf_NoEntry_NoEntry : PySem.W.subIn K (.ref C_NoEntry) (.ref C_NoEntry) = some true)
    (tf_Doubled_NoEntry : PySem.W.subIn K (.ref C_Doubled) (.ref C_NoEntry) = some false)
    (tf_TooMany_NoEntry : PySem.W.subIn K (.ref C_TooMany) (.ref C_NoEntry) = some false)
    : ∃ fd : FuncData, (∀ (s : Shared) (v : Value), BindsTo s fd ⟨[v], []⟩ [("_law_script", v)]) ∧ ∀ base : Heap, K.In base → base.Ns mainGlobals mg → FnOkG l.prog w K mg base 8 fa fd ["_law_script"] (sp_law K) := by
  have e := hfa.symm.trans (PySem.W.mg_of X G a39)
  cases e
  have F0 := fun_mk (st := s_wall) l0 c0 k0
  have b0 := F0.binds (ps := ["k"]) fun _ _ _ _ _ _ us hl => match us, hl with | [_], _ => rfl
  have F1 := fun_mk (st := s_NoName___init__) l1 c1 k1
  have b1 := F1.binds (ps := ["self", "found"]) fun _ _ _ _ _ _ us hl => match us, hl with | [_, _], _ => rfl
  have F2 := fun_mk (st := s_NoNumber___init__) l2 c2 k2
  have b2 := F2.binds (ps := ["self", "found"]) fun _ _ _ _ _ _ us hl => match us, hl with | [_, _], _ => rfl
  have F3 := fun_mk (st := s_NoChannel___init__) l3 c3 k3
  have b3 := F3.binds (ps := ["self", "found"]) fun _ _ _ _ _ _ us hl => match us, hl with | [_, _], _ => rfl
  have F4 := fun_mk (st := s_NoHour___init__) l4 c4 k4
  have b4 := F4.binds (ps := ["self", "found"]) fun _ _ _ _ _ _ us hl => match us, hl with | [_, _], _ => rfl
  have F5 := fun_mk (st := s_NoEntry___init__) l5 c5 k5
  have b5 := F5.binds (ps := ["self", "found"]) fun _ _ _ _ _ _ us hl => match us, hl with | [_, _], _ => rfl
  have F6 := fun_mk (st := s_Doubled___init__) l6 c6 k6
  have b6 := F6.binds (ps := ["self", "name"]) fun _ _ _ _ _ _ us hl => match us, hl with | [_, _], _ => rfl
  have F7 := fun_mk (st := s_TooMany___init__) l7 c7 k7
  have b7 := F7.binds (ps := ["self", "many"]) fun _ _ _ _ _ _ us hl => match us, hl with | [_, _], _ => rfl
  have F8 := fun_mk (st := s_is_whole) l8 c8 k8
  have b8 := F8.binds (ps := ["thing"]) fun _ _ _ _ _ _ us hl => match us, hl with | [_], _ => rfl
  have F9 := fun_mk (st := s_is_within) l9 c9 k9
  have b9 := F9.binds (ps := ["thing", "low", "high"]) fun _ _ _ _ _ _ us hl => match us, hl with | [_, _, _], _ => rfl
  have F10 := fun_mk (st := s_is_name) l10 c10 k10
  have b10 := F10.binds (ps := ["thing"]) fun _ _ _ _ _ _ us hl => match us, hl with | [_], _ => rfl
  have F11 := fun_mk (st := s_need_names) l11 c11 k11
  have b11 := F11.binds (ps := ["things"]) fun _ _ _ _ _ _ us hl => match us, hl with | [_], _ => rfl
  have F12 := fun_mk (st := s_need_numbers) l12 c12 k12
  have b12 := F12.binds (ps := ["rows"]) fun _ _ _ _ _ _ us hl => match us, hl with | [_], _ => rfl
  have F13 := fun_mk (st := s_Channel___init__) l13 c13 k13
  have b13 := F13.binds (ps := ["self", "name", "one", "other", "hours", "depth", "first", "growth", "most"]) fun _ _ _ _ _ _ us hl => match us, hl with | [_, _, _, _, _, _, _, _, _], _ => rfl
  have F14 := fun_mk (st := s_Ice___init__) l14 c14 k14
  have b14 := F14.binds (ps := ["self", "channel", "begin"]) fun _ _ _ _ _ _ us hl => match us, hl with | [_, _, _], _ => rfl
  have F15 := fun_mk (st := s_Ice_need_hour) l15 c15 k15
  have b15 := F15.binds (ps := ["self", "hour"]) fun _ _ _ _ _ _ us hl => match us, hl with | [_, _], _ => rfl
  have F16 := fun_mk (st := s_Ice_need_breaking) l16 c16 k16
  have b16 := F16.binds (ps := ["self", "hour", "cut"]) fun _ _ _ _ _ _ us hl => match us, hl with | [_, _, _], _ => rfl
  have F17 := fun_mk (st := s_Ice_break_at) l17 c17 k17
  have b17 := F17.binds (ps := ["self", "hour", "cut"]) fun _ _ _ _ _ _ us hl => match us, hl with | [_, _, _], _ => rfl
  have F18 := fun_mk (st := s_Ice_mend_at) l18 c18 k18
  have b18 := F18.binds (ps := ["self", "hour", "cut"]) fun _ _ _ _ _ _ us hl => match us, hl with | [_, _, _], _ => rfl
  have F19 := fun_mk (st := s_Ice_breakings) l19 c19 k19
  have b19 := F19.binds (ps := ["self"]) fun _ _ _ _ _ _ us hl => match us, hl with | [_], _ => rfl
  have F20 := fun_mk (st := s_Ice_grown) l20 c20 k20
  have b20 := F20.binds (ps := ["self", "level", "gap"]) fun _ _ _ _ _ _ us hl => match us, hl with | [_, _, _], _ => rfl
  have F21 := fun_mk (st := s_Ice_rows) l21 c21 k21
  have b21 := F21.binds (ps := ["self"]) fun _ _ _ _ _ _ us hl => match us, hl with | [_], _ => rfl
  have F22 := fun_mk (st := s_Ice_bases) l22 c22 k22
  have b22 := F22.binds (ps := ["self"]) fun _ _ _ _ _ _ us hl => match us, hl with | [_], _ => rfl
  have F23 := fun_mk (st := s_Ice_thick) l23 c23 k23
  have b23 := F23.binds (ps := ["self", "hour"]) fun _ _ _ _ _ _ us hl => match us, hl with | [_, _], _ => rfl
  have F24 := fun_mk (st := s_Ice_ahead) l24 c24 k24
  have b24 := F24.binds (ps := ["self", "hour"]) fun _ _ _ _ _ _ us hl => match us, hl with | [_, _], _ => rfl
  have F25 := fun_mk (st := s_law_cell) l25 c25 k25
  have b25 := F25.binds (ps := ["_law_script", "_law_k"]) fun _ _ _ _ _ _ us hl => match us, hl with | [_, _], _ => rfl
  have F26 := fun_mk (st := s_law_box) l26 c26 k26
  have b26 := F26.binds (ps := ["_law_cell_here"]) fun _ _ _ _ _ _ us hl => match us, hl with | [_], _ => rfl
  have F27 := fun_mk (st := s_law_take) l27 c27 k27
  have b27 := F27.binds (ps := ["_law_box_here", "_law_many"]) fun _ _ _ _ _ _ us hl => match us, hl with | [_, _], _ => rfl
  have F28 := fun_mk (st := s_law_numbers) l28 c28 k28
  have b28 := F28.binds (ps := ["_law_box_here"]) fun _ _ _ _ _ _ us hl => match us, hl with | [_], _ => rfl
  have F29 := fun_mk (st := s_law_ice) l29 c29 k29
  have b29 := F29.binds (ps := ["_law_numbers_here"]) fun _ _ _ _ _ _ us hl => match us, hl with | [_], _ => rfl
  have F30 := fun_mk (st := s_law_cut) l30 c30 k30
  have b30 := F30.binds (ps := ["_law_box_here", "_law_numbers_here"]) fun _ _ _ _ _ _ us hl => match us, hl with | [_, _], _ => rfl
  have F31 := fun_mk (st := s_law_hour) l31 c31 k31
  have b31 := F31.binds (ps := ["_law_box_here", "_law_numbers_here"]) fun _ _ _ _ _ _ us hl => match us, hl with | [_, _], _ => rfl
  have F32 := fun_mk (st := s_law_all) l32 c32 k32
  have b32 := F32.binds (ps := ["_law_numbers_here"]) fun _ _ _ _ _ _ us hl => match us, hl with | [_], _ => rfl
  have F33 := fun_mk (st := s_law_rows) l33 c33 k33
  have b33 := F33.binds (ps := ["_law_numbers_here"]) fun _ _ _ _ _ _ us hl => match us, hl with | [_], _ => rfl
  have F34 := fun_mk (st := s_law_at) l34 c34 k34
  have b34 := F34.binds (ps := ["_law_numbers_here", "_law_hour_here"]) fun _ _ _ _ _ _ us hl => match us, hl with | [_, _], _ => rfl
  have F35 := fun_mk (st := s_law_mended) l35 c35 k35
  have b35 := F35.binds (ps := ["_law_ice_here", "_law_hour_here", "_law_cut_here"]) fun _ _ _ _ _ _ us hl => match us, hl with | [_, _, _], _ => rfl
  have F36 := fun_mk (st := s_law_mend) l36 c36 k36
  have b36 := F36.binds (ps := ["_law_box_here", "_law_ice_here", "_law_numbers_here"]) fun _ _ _ _ _ _ us hl => match us, hl with | [_, _, _], _ => rfl
  have F37 := fun_mk (st := s_law_deed) l37 c37 k37
  have b37 := F37.binds (ps := ["_law_box_here", "_law_ice_here", "_law_numbers_here"]) fun _ _ _ _ _ _ us hl => match us, hl with | [_, _, _], _ => rfl
  have F38 := fun_mk (st := s_law_stands) l38 c38 k38
  have b38 := F38.binds (ps := ["_law_ice_here", "_law_numbers_here"]) fun _ _ _ _ _ _ us hl => match us, hl with | [_, _], _ => rfl
  have F39 := fun_mk (st := s_law) l39 c39 k39
  have b39 := F39.binds (ps := ["_law_script"]) fun _ _ _ _ _ _ us hl => match us, hl with | [_], _ => rfl
  exact ⟨_, fun s v => .of_eq rfl, fun base _ _ => ok_law (T := { a_IceError := C_IceError, g_IceError := PySem.W.mg_of X G aC_IceError, a_NoName := C_NoName, g_NoName := PySem.W.mg_of X G aC_NoName, a_NoNumber := C_NoNumber, g_NoNumber := PySem.W.mg_of X G aC_NoNumber, a_NoChannel := C_NoChannel, g_NoChannel := PySem.W.mg_of X G aC_NoChannel, a_NoHour := C_NoHour, g_NoHour := PySem.W.mg_of X G aC_NoHour, a_NoEntry := C_NoEntry, g_NoEntry := PySem.W.mg_of X G aC_NoEntry, a_Doubled := C_Doubled, g_Doubled := PySem.W.mg_of X G aC_Doubled, a_TooMany := C_TooMany, g_TooMany := PySem.W.mg_of X G aC_TooMany, a_Channel := C_Channel, g_Channel := PySem.W.mg_of X G aC_Channel, a_Ice := C_Ice, g_Ice := PySem.W.mg_of X G aC_Ice, a_wall := f0, d_wall := _, F_wall := F0, g_wall := PySem.W.mg_of X G a0, b_wall := b0, a_NoName___init__ := f1, d_NoName___init__ := _, F_NoName___init__ := F1, b_NoName___init__ := b1, a_NoNumber___init__ := f2, d_NoNumber___init__ := _, F_NoNumber___init__ := F2, b_NoNumber___init__ := b2, a_NoChannel___init__ := f3, d_NoChannel___init__ := _, F_NoChannel___init__ := F3, b_NoChannel___init__ := b3, a_NoHour___init__ := f4, d_NoHour___init__ := _, F_NoHour___init__ := F4, b_NoHour___init__ := b4, a_NoEntry___init__ := f5, d_NoEntry___init__ := _, F_NoEntry___init__ := F5, b_NoEntry___init__ := b5, a_Doubled___init__ := f6, d_Doubled___init__ := _, F_Doubled___init__ := F6, b_Doubled___init__ := b6, a_TooMany___init__ := f7, d_TooMany___init__ := _, F_TooMany___init__ := F7, b_TooMany___init__ := b7, a_is_whole := f8, d_is_whole := _, F_is_whole := F8, g_is_whole := PySem.W.mg_of X G a8, b_is_whole := b8, a_is_within := f9, d_is_within := _, F_is_within := F9, g_is_within := PySem.W.mg_of X G a9, b_is_within := b9, a_is_name := f10, d_is_name := _, F_is_name := F10, g_is_name := PySem.W.mg_of X G a10, b_is_name := b10, a_need_names := f11, d_need_names := _, F_need_names := F11, g_need_names := PySem.W.mg_of X G a11, b_need_names := b11, a_need_numbers := f12, d_need_numbers := _, F_need_numbers := F12, g_need_numbers := PySem.W.mg_of X G a12, b_need_numbers := b12, a_Channel___init__ := f13, d_Channel___init__ := _, F_Channel___init__ := F13, b_Channel___init__ := b13, a_Ice___init__ := f14, d_Ice___init__ := _, F_Ice___init__ := F14, b_Ice___init__ := b14, a_Ice_need_hour := f15, d_Ice_need_hour := _, F_Ice_need_hour := F15, b_Ice_need_hour := b15, a_Ice_need_breaking := f16, d_Ice_need_breaking := _, F_Ice_need_breaking := F16, b_Ice_need_breaking := b16, a_Ice_break_at := f17, d_Ice_break_at := _, F_Ice_break_at := F17, b_Ice_break_at := b17, a_Ice_mend_at := f18, d_Ice_mend_at := _, F_Ice_mend_at := F18, b_Ice_mend_at := b18, a_Ice_breakings := f19, d_Ice_breakings := _, F_Ice_breakings := F19, b_Ice_breakings := b19, a_Ice_grown := f20, d_Ice_grown := _, F_Ice_grown := F20, b_Ice_grown := b20, a_Ice_rows := f21, d_Ice_rows := _, F_Ice_rows := F21, b_Ice_rows := b21, a_Ice_bases := f22, d_Ice_bases := _, F_Ice_bases := F22, b_Ice_bases := b22, a_Ice_thick := f23, d_Ice_thick := _, F_Ice_thick := F23, b_Ice_thick := b23, a_Ice_ahead := f24, d_Ice_ahead := _, F_Ice_ahead := F24, b_Ice_ahead := b24, a_law_cell := f25, d_law_cell := _, F_law_cell := F25, g_law_cell := PySem.W.mg_of X G a25, b_law_cell := b25, a_law_box := f26, d_law_box := _, F_law_box := F26, g_law_box := PySem.W.mg_of X G a26, b_law_box := b26, a_law_take := f27, d_law_take := _, F_law_take := F27, g_law_take := PySem.W.mg_of X G a27, b_law_take := b27, a_law_numbers := f28, d_law_numbers := _, F_law_numbers := F28, g_law_numbers := PySem.W.mg_of X G a28, b_law_numbers := b28, a_law_ice := f29, d_law_ice := _, F_law_ice := F29, g_law_ice := PySem.W.mg_of X G a29, b_law_ice := b29, a_law_cut := f30, d_law_cut := _, F_law_cut := F30, g_law_cut := PySem.W.mg_of X G a30, b_law_cut := b30, a_law_hour := f31, d_law_hour := _, F_law_hour := F31, g_law_hour := PySem.W.mg_of X G a31, b_law_hour := b31, a_law_all := f32, d_law_all := _, F_law_all := F32, g_law_all := PySem.W.mg_of X G a32, b_law_all := b32, a_law_rows := f33, d_law_rows := _, F_law_rows := F33, g_law_rows := PySem.W.mg_of X G a33, b_law_rows := b33, a_law_at := f34, d_law_at := _, F_law_at := F34, g_law_at := PySem.W.mg_of X G a34, b_law_at := b34, a_law_mended := f35, d_law_mended := _, F_law_mended := F35, g_law_mended := PySem.W.mg_of X G a35, b_law_mended := b35, a_law_mend := f36, d_law_mend := _, F_law_mend := F36, g_law_mend := PySem.W.mg_of X G a36, b_law_mend := b36, a_law_deed := f37, d_law_deed := _, F_law_deed := F37, g_law_deed := PySem.W.mg_of X G a37, b_law_deed := b37, a_law_stands := f38, d_law_stands := _, F_law_stands := F38, g_law_stands := PySem.W.mg_of X G a38, b_law_stands := b38, a_law := fa, d_law := _, F_law := F39, g_law := PySem.W.mg_of X G a39, b_law := b39, cl_Channel := ⟨p1_Channel, p2_Channel, p3_Channel, p4_Channel⟩, n_Channel_name := nn_Channel_name, n_Channel_one := nn_Channel_one, n_Channel_other := nn_Channel_other, n_Channel_hours := nn_Channel_hours, n_Channel_depth := nn_Channel_depth, n_Channel_first := nn_Channel_first, n_Channel_growth := nn_Channel_growth, n_Channel_most := nn_Channel_most, cl_Ice := ⟨p1_Ice, p2_Ice, p3_Ice, p4_Ice⟩, n_Ice_way := nn_Ice_way, n_Ice_since := nn_Ice_since, n_Ice_cuts := nn_Ice_cuts, hn_class := hn_class, ht_class := ht_class, ic_Channel := id_Channel, im_Channel := in_Channel, ki_Channel_Channel := kit_sub yc_Channel yt_Channel tf_y_Channel tf_k_Channel_Channel, ic_Ice := id_Ice, im_Ice := in_Ice, ki_Ice_Channel := kit_sub yc_Channel yt_Channel tf_y_Channel tf_k_Ice_Channel, mk_Channel := ⟨mm_Channel, mi_Channel, mf_Channel, mq_Channel⟩, mk_Ice := ⟨mm_Ice, mi_Ice, mf_Ice, mq_Ice⟩, me_Ice_ahead := ⟨ma_Ice_ahead, mb_Ice_ahead, k24⟩, me_Ice_bases := ⟨ma_Ice_bases, mb_Ice_bases, k22⟩, me_Ice_break_at := ⟨ma_Ice_break_at, mb_Ice_break_at, k17⟩, me_Ice_breakings := ⟨ma_Ice_breakings, mb_Ice_breakings, k19⟩, me_Ice_grown := ⟨ma_Ice_grown, mb_Ice_grown, k20⟩, me_Ice_mend_at := ⟨ma_Ice_mend_at, mb_Ice_mend_at, k18⟩, me_Ice_need_breaking := ⟨ma_Ice_need_breaking, mb_Ice_need_breaking, k16⟩, me_Ice_need_hour := ⟨ma_Ice_need_hour, mb_Ice_need_hour, k15⟩, me_Ice_rows := ⟨ma_Ice_rows, mb_Ice_rows, k21⟩, me_Ice_thick := ⟨ma_Ice_thick, mb_Ice_thick, k23⟩, rd_IceError := ra_IceError, ga_IceError := gb_IceError, vi_IceError := vj_IceError, ox_NoName := ⟨⟨nm_NoName, q_NoName, N_NoName, bs_NoName, _, sn_NoName, sub_NoName, ab_NoName, col_NoName, dd_NoName, m0_NoName, m1_NoName, m2_NoName, m3_NoName, m5_NoName, xl_NoName, refs_ve1⟩, xs_NoName, xe_NoName, xt_NoName, xk_NoName⟩, ix_NoName := a1, tx_NoName := xy_NoName, xf_NoName := ⟨xg_NoName, xh_NoName, xe_NoName, xd_NoName⟩, n_NoName_found := nn_NoName_found, ox_NoNumber := ⟨⟨nm_NoNumber, q_NoNumber, N_NoNumber, bs_NoNumber, _, sn_NoNumber, sub_NoNumber, ab_NoNumber, col_NoNumber, dd_NoNumber, m0_NoNumber, m1_NoNumber, m2_NoNumber, m3_NoNumber, m5_NoNumber, xl_NoNumber, refs_ve1⟩, xs_NoNumber, xe_NoNumber, xt_NoNumber, xk_NoNumber⟩, ix_NoNumber := a2, tx_NoNumber := xy_NoNumber, xf_NoNumber := ⟨xg_NoNumber, xh_NoNumber, xe_NoNumber, xd_NoNumber⟩, n_NoNumber_found := nn_NoNumber_found, ox_NoChannel := ⟨⟨nm_NoChannel, q_NoChannel, N_NoChannel, bs_NoChannel, _, sn_NoChannel, sub_NoChannel, ab_NoChannel, col_NoChannel, dd_NoChannel, m0_NoChannel, m1_NoChannel, m2_NoChannel, m3_NoChannel, m5_NoChannel, xl_NoChannel, refs_ve1⟩, xs_NoChannel, xe_NoChannel, xt_NoChannel, xk_NoChannel⟩, ix_NoChannel := a3, tx_NoChannel := xy_NoChannel, xf_NoChannel := ⟨xg_NoChannel, xh_NoChannel, xe_NoChannel, xd_NoChannel⟩, n_NoChannel_found := nn_NoChannel_found, ox_NoHour := ⟨⟨nm_NoHour, q_NoHour, N_NoHour, bs_NoHour, _, sn_NoHour, sub_NoHour, ab_NoHour, col_NoHour, dd_NoHour, m0_NoHour, m1_NoHour, m2_NoHour, m3_NoHour, m5_NoHour, xl_NoHour, refs_ve1⟩, xs_NoHour, xe_NoHour, xt_NoHour, xk_NoHour⟩, ix_NoHour := a4, tx_NoHour := xy_NoHour, xf_NoHour := ⟨xg_NoHour, xh_NoHour, xe_NoHour, xd_NoHour⟩, n_NoHour_found := nn_NoHour_found, ox_NoEntry := ⟨⟨nm_NoEntry, q_NoEntry, N_NoEntry, bs_NoEntry, _, sn_NoEntry, sub_NoEntry, ab_NoEntry, col_NoEntry, dd_NoEntry, m0_NoEntry, m1_NoEntry, m2_NoEntry, m3_NoEntry, m5_NoEntry, xl_NoEntry, refs_ve1⟩, xs_NoEntry, xe_NoEntry, xt_NoEntry, xk_NoEntry⟩, ix_NoEntry := a5, tx_NoEntry := xy_NoEntry, xf_NoEntry := ⟨xg_NoEntry, xh_NoEntry, xe_NoEntry, xd_NoEntry⟩, n_NoEntry_found := nn_NoEntry_found, ox_Doubled := ⟨⟨nm_Doubled, q_Doubled, N_Doubled, bs_Doubled, _, sn_Doubled, sub_Doubled, ab_Doubled, col_Doubled, dd_Doubled, m0_Doubled, m1_Doubled, m2_Doubled, m3_Doubled, m5_Doubled, xl_Doubled, refs_ve1⟩, xs_Doubled, xe_Doubled, xt_Doubled, xk_Doubled⟩, ix_Doubled := a6, tx_Doubled := xy_Doubled, xf_Doubled := ⟨xg_Doubled, xh_Doubled, xe_Doubled, xd_Doubled⟩, n_Doubled_name := nn_Doubled_name, ox_TooMany := ⟨⟨nm_TooMany, q_TooMany, N_TooMany, bs_TooMany, _, sn_TooMany, sub_TooMany, ab_TooMany, col_TooMany, dd_TooMany, m0_TooMany, m1_TooMany, m2_TooMany, m3_TooMany, m5_TooMany, xl_TooMany, refs_ve1⟩, xs_TooMany, xe_TooMany, xt_TooMany, xk_TooMany⟩, ix_TooMany := a7, tx_TooMany := xy_TooMany, xf_TooMany := ⟨xg_TooMany, xh_TooMany, xe_TooMany, xd_TooMany⟩, n_TooMany_many := nn_TooMany_many, te_NoName_IceError := exm_of xe_IceError xc_IceError xt_IceError tf_NoName_IceError, te_NoNumber_IceError := exm_of xe_IceError xc_IceError xt_IceError tf_NoNumber_IceError, te_NoChannel_IceError := exm_of xe_IceError xc_IceError xt_IceError tf_NoChannel_IceError, te_NoHour_IceError := exm_of xe_IceError xc_IceError xt_IceError tf_NoHour_IceError, te_NoEntry_IceError := exm_of xe_IceError xc_IceError xt_IceError tf_NoEntry_IceError, te_Doubled_IceError := exm_of xe_IceError xc_IceError xt_IceError tf_Doubled_IceError, te_TooMany_IceError := exm_of xe_IceError xc_IceError xt_IceError tf_TooMany_IceError, te_NoName_NoEntry := exm_of xe_NoEntry xc_NoEntry xt_NoEntry tf_NoName_NoEntry, te_NoNumber_NoEntry := exm_of xe_NoEntry xc_NoEntry xt_NoEntry tf_NoNumber_NoEntry, te_NoChannel_NoEntry := exm_of xe_NoEntry xc_NoEntry xt_NoEntry tf_NoChannel_NoEntry, te_NoHour_NoEntry := exm_of xe_NoEntry xc_NoEntry xt_NoEntry tf_NoHour_NoEntry, te_NoEntry_NoEntry := exm_of xe_NoEntry xc_NoEntry xt_NoEntry tf_NoEntry_NoEntry, te_Doubled_NoEntry := exm_of xe_NoEntry xc_NoEntry xt_NoEntry tf_Doubled_NoEntry, te_TooMany_NoEntry := exm_of xe_NoEntry xc_NoEntry xt_NoEntry tf_TooMany_NoEntry, m_all := PySem.W.mg_none_of X G z_all, m_bool := PySem.W.mg_none_of X G z_bool, m_int := PySem.W.mg_none_of X G z_int, m_isinstance := PySem.W.mg_none_of X G z_isinstance, m_len := PySem.W.mg_none_of X G z_len, m_max := PySem.W.mg_none_of X G z_max, m_min := PySem.W.mg_none_of X G z_min, m_range := PySem.W.mg_none_of X G z_range, m_repr := PySem.W.mg_none_of X G z_repr, m_sorted := PySem.W.mg_none_of X G z_sorted, m_str := PySem.W.mg_none_of X G z_str, m_sum := PySem.W.mg_none_of X G z_sum, c_LETTERS := ⟨_, PySem.W.mg_of X G y_LETTERS, ⟨_, rfl⟩⟩, c_LONGEST_NAME := ⟨_, PySem.W.mg_of X G y_LONGEST_NAME, ⟨_, rfl⟩⟩, c_MOST_HOUR := ⟨_, PySem.W.mg_of X G y_MOST_HOUR, ⟨_, rfl⟩⟩, c_MOST_ICE := ⟨_, PySem.W.mg_of X G y_MOST_ICE, ⟨_, rfl⟩⟩, c_MOST_DEPTH := ⟨_, PySem.W.mg_of X G y_MOST_DEPTH, ⟨_, rfl⟩⟩, c_MOST_LENGTH := ⟨_, PySem.W.mg_of X G y_MOST_LENGTH, ⟨_, rfl⟩⟩, c_MOST_GROWTH := ⟨_, PySem.W.mg_of X G y_MOST_GROWTH, ⟨_, rfl⟩⟩, c_LAST_HOUR := ⟨_, PySem.W.mg_of X G y_LAST_HOUR, ⟨_, rfl⟩⟩, c_LAST_BREAKING := ⟨_, PySem.W.mg_of X G y_LAST_BREAKING, ⟨_, rfl⟩⟩, c_MOST_CUT := ⟨_, PySem.W.mg_of X G y_MOST_CUT, ⟨_, rfl⟩⟩, c_MOST_BREAKINGS := ⟨_, PySem.W.mg_of X G y_MOST_BREAKINGS, ⟨_, rfl⟩⟩ })⟩
end My
open PySem PySem.W PyProof.Rows
set_option maxHeartbeats 0 in
theorem PySem.Challenge.cw_iceopened_k23_breakings_told_holds : PySem.Challenge.rw_iceopened_k23_breakings_told.Holds := by
  w_on; o_law; k_head; (case hw => w_witness2)
  k_fill
  refine My.walk_ofG (l := PySem.Challenge.rw_iceopened_k23_breakings_told) (n := 63) (k := 8) (x := "_law_script") (sp := fun w => My.sp_law _) rfl (by decide) rfl ⟨rfl, by decide, by decide⟩ (fun w h Y => PySem.W.kIn_of Y) ?F (fun _ _ a ns hl _ _ hS => ⟨a, ns, rfl, hS, hl, fun _ => rfl⟩)
  case F =>
    intro w mg fa h KX G hmg
    refine' My.all_mk KX G hmg ?aC_IceError ?aC_NoName ?aC_NoNumber ?aC_NoChannel ?aC_NoHour ?aC_NoEntry ?aC_Doubled ?aC_TooMany ?aC_Channel ?aC_Ice ?a0 ?l0 ?c0 ?k0 ?a1 ?l1 ?c1 ?k1 ?a2 ?l2 ?c2 ?k2 ?a3 ?l3 ?c3 ?k3 ?a4 ?l4 ?c4 ?k4 ?a5 ?l5 ?c5 ?k5 ?a6 ?l6 ?c6 ?k6 ?a7 ?l7 ?c7 ?k7 ?a8 ?l8 ?c8 ?k8 ?a9 ?l9 ?c9 ?k9 ?a10 ?l10 ?c10 ?k10 ?a11 ?l11 ?c11 ?k11 ?a12 ?l12 ?c12 ?k12 ?a13 ?l13 ?c13 ?k13 ?a14 ?l14 ?c14 ?k14 ?a15 ?l15 ?c15 ?k15 ?a16 ?l16 ?c16 ?k16 ?a17 ?l17 ?c17 ?k17 ?a18 ?l18 ?c18 ?k18 ?a19 ?l19 ?c19 ?k19 ?a20 ?l20 ?c20 ?k20 ?a21 ?l21 ?c21 ?k21 ?a22 ?l22 ?c22 ?k22 ?a23 ?l23 ?c23 ?k23 ?a24 ?l24 ?c24 ?k24 ?a25 ?l25 ?c25 ?k25 ?a26 ?l26 ?c26 ?k26 ?a27 ?l27 ?c27 ?k27 ?a28 ?l28 ?c28 ?k28 ?a29 ?l29 ?c29 ?k29 ?a30 ?l30 ?c30 ?k30 ?a31 ?l31 ?c31 ?k31 ?a32 ?l32 ?c32 ?k32 ?a33 ?l33 ?c33 ?k33 ?a34 ?l34 ?c34 ?k34 ?a35 ?l35 ?c35 ?k35 ?a36 ?l36 ?c36 ?k36 ?a37 ?l37 ?c37 ?k37 ?a38 ?l38 ?c38 ?k38 ?a39 ?l39 ?c39 ?k39 ?z_all ?z_bool ?z_int ?z_isinstance ?z_len ?z_max ?z_min ?z_range ?z_repr ?z_sorted ?z_str ?z_sum ?y_LETTERS ?y_LONGEST_NAME ?y_MOST_HOUR ?y_MOST_ICE ?y_MOST_DEPTH ?y_MOST_LENGTH ?y_MOST_GROWTH ?y_LAST_HOUR ?y_LAST_BREAKING ?y_MOST_CUT ?y_MOST_BREAKINGS ?p1_Channel ?p2_Channel ?p3_Channel ?p4_Channel ?nn_Channel_name ?nn_Channel_one ?nn_Channel_other ?nn_Channel_hours ?nn_Channel_depth ?nn_Channel_first ?nn_Channel_growth ?nn_Channel_most ?p1_Ice ?p2_Ice ?p3_Ice ?p4_Ice ?nn_Ice_way ?nn_Ice_since ?nn_Ice_cuts ?hn_class ?ht_class ?yc_Channel ?yt_Channel ?tf_y_Channel ?id_Channel ?in_Channel ?tf_k_Channel_Channel ?id_Ice ?in_Ice ?tf_k_Ice_Channel ?mm_Channel ?mi_Channel ?mf_Channel ?mq_Channel ?mm_Ice ?mi_Ice ?mf_Ice ?mq_Ice ?ma_Ice_ahead ?mb_Ice_ahead ?ma_Ice_bases ?mb_Ice_bases ?ma_Ice_break_at ?mb_Ice_break_at ?ma_Ice_breakings ?mb_Ice_breakings ?ma_Ice_grown ?mb_Ice_grown ?ma_Ice_mend_at ?mb_Ice_mend_at ?ma_Ice_need_breaking ?mb_Ice_need_breaking ?ma_Ice_need_hour ?mb_Ice_need_hour ?ma_Ice_rows ?mb_Ice_rows ?ma_Ice_thick ?mb_Ice_thick ?ra_IceError ?gb_IceError ?vj_IceError ?xl_NoName ?xs_NoName ?xe_NoName ?xt_NoName ?xk_NoName ?xy_NoName ?xg_NoName ?xh_NoName ?xd_NoName ?nn_NoName_found ?xl_NoNumber ?xs_NoNumber ?xe_NoNumber ?xt_NoNumber ?xk_NoNumber ?xy_NoNumber ?xg_NoNumber ?xh_NoNumber ?xd_NoNumber ?nn_NoNumber_found ?xl_NoChannel ?xs_NoChannel ?xe_NoChannel ?xt_NoChannel ?xk_NoChannel ?xy_NoChannel ?xg_NoChannel ?xh_NoChannel ?xd_NoChannel ?nn_NoChannel_found ?xl_NoHour ?xs_NoHour ?xe_NoHour ?xt_NoHour ?xk_NoHour ?xy_NoHour ?xg_NoHour ?xh_NoHour ?xd_NoHour ?nn_NoHour_found ?xl_NoEntry ?xs_NoEntry ?xe_NoEntry ?xt_NoEntry ?xk_NoEntry ?xy_NoEntry ?xg_NoEntry ?xh_NoEntry ?xd_NoEntry ?nn_NoEntry_found ?xl_Doubled ?xs_Doubled ?xe_Doubled ?xt_Doubled ?xk_Doubled ?xy_Doubled ?xg_Doubled ?xh_Doubled ?xd_Doubled ?nn_Doubled_name ?xl_TooMany ?xs_TooMany ?xe_TooMany ?xt_TooMany ?xk_TooMany ?xy_TooMany ?xg_TooMany ?xh_TooMany ?xd_TooMany ?nn_TooMany_many ?xe_IceError ?xt_IceError ?xc_IceError ?tf_NoName_IceError ?tf_NoNumber_IceError ?tf_NoChannel_IceError ?tf_NoHour_IceError ?tf_NoEntry_IceError ?tf_Doubled_IceError ?tf_TooMany_IceError ?xc_NoEntry ?tf_NoName_NoEntry ?tf_NoNumber_NoEntry ?tf_NoChannel_NoEntry ?tf_NoHour_NoEntry ?tf_NoEntry_NoEntry ?tf_Doubled_NoEntry ?tf_TooMany_NoEntry
    (case aC_IceError => k_is); (case aC_NoName => k_is); (case aC_NoNumber => k_is); (case aC_NoChannel => k_is); (case aC_NoHour => k_is); (case aC_NoEntry => k_is); (case aC_Doubled => k_is); (case aC_TooMany => k_is)
    (case aC_Channel => k_is); (case aC_Ice => k_is); (case a0 => k_is); (case l0 => k_is); (case c0 => k_is); (case k0 => k_is); (case a1 => k_is); (case l1 => k_is)
    (case c1 => k_is); (case k1 => k_is); (case a2 => k_is); (case l2 => k_is); (case c2 => k_is); (case k2 => k_is); (case a3 => k_is); (case l3 => k_is)
    (case c3 => k_is); (case k3 => k_is); (case a4 => k_is); (case l4 => k_is); (case c4 => k_is); (case k4 => k_is); (case a5 => k_is); (case l5 => k_is)
    (case c5 => k_is); (case k5 => k_is); (case a6 => k_is); (case l6 => k_is); (case c6 => k_is); (case k6 => k_is); (case a7 => k_is); (case l7 => k_is)
    (case c7 => k_is); (case k7 => k_is); (case a8 => k_is); (case l8 => k_is); (case c8 => k_is); (case k8 => k_is); (case a9 => k_is); (case l9 => k_is)
    (case c9 => k_is); (case k9 => k_is); (case a10 => k_is); (case l10 => k_is); (case c10 => k_is); (case k10 => k_is); (case a11 => k_is); (case l11 => k_is)
    (case c11 => k_is); (case k11 => k_is); (case a12 => k_is); (case l12 => k_is); (case c12 => k_is); (case k12 => k_is); (case a13 => k_is); (case l13 => k_is)
    (case c13 => k_is); (case k13 => k_is); (case a14 => k_is); (case l14 => k_is); (case c14 => k_is); (case k14 => k_is); (case a15 => k_is); (case l15 => k_is)
    (case c15 => k_is); (case k15 => k_is); (case a16 => k_is); (case l16 => k_is); (case c16 => k_is); (case k16 => k_is); (case a17 => k_is); (case l17 => k_is)
    (case c17 => k_is); (case k17 => k_is); (case a18 => k_is); (case l18 => k_is); (case c18 => k_is); (case k18 => k_is); (case a19 => k_is); (case l19 => k_is)
    (case c19 => k_is); (case k19 => k_is); (case a20 => k_is); (case l20 => k_is); (case c20 => k_is); (case k20 => k_is); (case a21 => k_is); (case l21 => k_is)
    (case c21 => k_is); (case k21 => k_is); (case a22 => k_is); (case l22 => k_is); (case c22 => k_is); (case k22 => k_is); (case a23 => k_is); (case l23 => k_is)
    (case c23 => k_is); (case k23 => k_is); (case a24 => k_is); (case l24 => k_is); (case c24 => k_is); (case k24 => k_is); (case a25 => k_is); (case l25 => k_is)
    (case c25 => k_is); (case k25 => k_is); (case a26 => k_is); (case l26 => k_is); (case c26 => k_is); (case k26 => k_is); (case a27 => k_is); (case l27 => k_is)
    (case c27 => k_is); (case k27 => k_is); (case a28 => k_is); (case l28 => k_is); (case c28 => k_is); (case k28 => k_is); (case a29 => k_is); (case l29 => k_is)
    (case c29 => k_is); (case k29 => k_is); (case a30 => k_is); (case l30 => k_is); (case c30 => k_is); (case k30 => k_is); (case a31 => k_is); (case l31 => k_is)
    (case c31 => k_is); (case k31 => k_is); (case a32 => k_is); (case l32 => k_is); (case c32 => k_is); (case k32 => k_is); (case a33 => k_is); (case l33 => k_is)
    (case c33 => k_is); (case k33 => k_is); (case a34 => k_is); (case l34 => k_is); (case c34 => k_is); (case k34 => k_is); (case a35 => k_is); (case l35 => k_is)
    (case c35 => k_is); (case k35 => k_is); (case a36 => k_is); (case l36 => k_is); (case c36 => k_is); (case k36 => k_is); (case a37 => k_is); (case l37 => k_is)
    (case c37 => k_is); (case k37 => k_is); (case a38 => k_is); (case l38 => k_is); (case c38 => k_is); (case k38 => k_is); (case a39 => k_is); (case l39 => k_is)
    (case c39 => k_is); (case k39 => k_is); (case z_all => k_is); (case z_bool => k_is); (case z_int => k_is); (case z_isinstance => k_is); (case z_len => k_is); (case z_max => k_is)
    (case z_min => k_is); (case z_range => k_is); (case z_repr => k_is); (case z_sorted => k_is); (case z_str => k_is); (case z_sum => k_is); (case y_LETTERS => k_is); (case y_LONGEST_NAME => k_is)
    (case y_MOST_HOUR => k_is); (case y_MOST_ICE => k_is); (case y_MOST_DEPTH => k_is); (case y_MOST_LENGTH => k_is); (case y_MOST_GROWTH => k_is); (case y_LAST_HOUR => k_is); (case y_LAST_BREAKING => k_is); (case y_MOST_CUT => k_is)
    (case y_MOST_BREAKINGS => k_is); (case p1_Channel => k_is); (case p2_Channel => k_is); (case p3_Channel => k_is); (case p4_Channel => k_is); (case nn_Channel_name => k_is); (case nn_Channel_one => k_is); (case nn_Channel_other => k_is)
    (case nn_Channel_hours => k_is); (case nn_Channel_depth => k_is); (case nn_Channel_first => k_is); (case nn_Channel_growth => k_is); (case nn_Channel_most => k_is); (case p1_Ice => k_is); (case p2_Ice => k_is); (case p3_Ice => k_is)
    (case p4_Ice => k_is); (case nn_Ice_way => k_is); (case nn_Ice_since => k_is); (case nn_Ice_cuts => k_is); (case hn_class => k_is); (case ht_class => k_is); (case yc_Channel => k_is); (case yt_Channel => k_is)
    (case tf_y_Channel => first | rfl | k_is); (case id_Channel => k_is); (case in_Channel => k_is); (case tf_k_Channel_Channel => first | rfl | k_is); (case id_Ice => k_is); (case in_Ice => k_is); (case tf_k_Ice_Channel => first | rfl | k_is); (case mm_Channel => k_is)
    (case mi_Channel => k_is); (case mf_Channel => k_is); (case mq_Channel => k_is); (case mm_Ice => k_is); (case mi_Ice => k_is); (case mf_Ice => k_is); (case mq_Ice => k_is); (case ma_Ice_ahead => k_is)
    (case mb_Ice_ahead => k_is); (case ma_Ice_bases => k_is); (case mb_Ice_bases => k_is); (case ma_Ice_break_at => k_is); (case mb_Ice_break_at => k_is); (case ma_Ice_breakings => k_is); (case mb_Ice_breakings => k_is); (case ma_Ice_grown => k_is)
    (case mb_Ice_grown => k_is); (case ma_Ice_mend_at => k_is); (case mb_Ice_mend_at => k_is); (case ma_Ice_need_breaking => k_is); (case mb_Ice_need_breaking => k_is); (case ma_Ice_need_hour => k_is); (case mb_Ice_need_hour => k_is); (case ma_Ice_rows => k_is)
    (case mb_Ice_rows => k_is); (case ma_Ice_thick => k_is); (case mb_Ice_thick => k_is); (case ra_IceError => k_is); (case gb_IceError => k_is); (case vj_IceError => k_is); (case xl_NoName => k_is); (case xs_NoName => k_is)
    (case xe_NoName => k_is); (case xt_NoName => k_is); (case xk_NoName => k_is); (case xy_NoName => k_is); (case xg_NoName => k_is); (case xh_NoName => k_is); (case xd_NoName => k_is); (case nn_NoName_found => k_is)
    (case xl_NoNumber => k_is); (case xs_NoNumber => k_is); (case xe_NoNumber => k_is); (case xt_NoNumber => k_is); (case xk_NoNumber => k_is); (case xy_NoNumber => k_is); (case xg_NoNumber => k_is); (case xh_NoNumber => k_is)
    (case xd_NoNumber => k_is); (case nn_NoNumber_found => k_is); (case xl_NoChannel => k_is); (case xs_NoChannel => k_is); (case xe_NoChannel => k_is); (case xt_NoChannel => k_is); (case xk_NoChannel => k_is); (case xy_NoChannel => k_is)
    (case xg_NoChannel => k_is); (case xh_NoChannel => k_is); (case xd_NoChannel => k_is); (case nn_NoChannel_found => k_is); (case xl_NoHour => k_is); (case xs_NoHour => k_is); (case xe_NoHour => k_is); (case xt_NoHour => k_is)
    (case xk_NoHour => k_is); (case xy_NoHour => k_is); (case xg_NoHour => k_is); (case xh_NoHour => k_is); (case xd_NoHour => k_is); (case nn_NoHour_found => k_is); (case xl_NoEntry => k_is); (case xs_NoEntry => k_is)
    (case xe_NoEntry => k_is); (case xt_NoEntry => k_is); (case xk_NoEntry => k_is); (case xy_NoEntry => k_is); (case xg_NoEntry => k_is); (case xh_NoEntry => k_is); (case xd_NoEntry => k_is); (case nn_NoEntry_found => k_is)
    (case xl_Doubled => k_is); (case xs_Doubled => k_is); (case xe_Doubled => k_is); (case xt_Doubled => k_is); (case xk_Doubled => k_is); (case xy_Doubled => k_is); (case xg_Doubled => k_is); (case xh_Doubled => k_is)
    (case xd_Doubled => k_is); (case nn_Doubled_name => k_is); (case xl_TooMany => k_is); (case xs_TooMany => k_is); (case xe_TooMany => k_is); (case xt_TooMany => k_is); (case xk_TooMany => k_is); (case xy_TooMany => k_is)
    (case xg_TooMany => k_is); (case xh_TooMany => k_is); (case xd_TooMany => k_is); (case nn_TooMany_many => k_is); (case xe_IceError => k_is); (case xt_IceError => k_is); (case xc_IceError => k_is); (case tf_NoName_IceError => first | rfl | k_is)
    (case tf_NoNumber_IceError => first | rfl | k_is); (case tf_NoChannel_IceError => first | rfl | k_is); (case tf_NoHour_IceError => first | rfl | k_is); (case tf_NoEntry_IceError => first | rfl | k_is); (case tf_Doubled_IceError => first | rfl | k_is); (case tf_TooMany_IceError => first | rfl | k_is); (case xc_NoEntry => k_is); (case tf_NoName_NoEntry => first | rfl | k_is)
    (case tf_NoNumber_NoEntry => first | rfl | k_is); (case tf_NoChannel_NoEntry => first | rfl | k_is); (case tf_NoHour_NoEntry => first | rfl | k_is); (case tf_NoEntry_NoEntry => first | rfl | k_is); (case tf_Doubled_NoEntry => first | rfl | k_is); (case tf_TooMany_NoEntry => first | rfl | k_is)
