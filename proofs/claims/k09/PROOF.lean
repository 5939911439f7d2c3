import PyProof.Rows.All
import KE.GoesZip
import KE.GoesMore
import KE.GoesEnum
import Wide.All
import OpenK.AllK
import Wide.FinOn
import HandS.ForMost
import HandS.Exc
import HandS.TryOnly
import HandS.ExcOwn
import HandS.WordsExc
import HandS.IsInst
import HandS.Style
import HandS.Codes
import HandS.Wide
import HandS.TupAny
import HandS.EndBits
import KE.IntTextLaws
import HandS.NoneIn
import HandS.More
import HandS.Walk
import HandS.ExcInit
import HandS.ExcField
import HandS.ClsMeth
import HandS.TryMany
import PySem.Challenge.RW_iceopened_k09_vessels_refused
set_option Elab.async false
set_option autoImplicit false
set_option linter.all false
set_option maxRecDepth 100000
set_option maxHeartbeats 4000000
/-! ### P0: more rules over the hand layer, and a tactic for readings (walk_at "rd") -/
namespace My
open PySem PySem.Spec PyProof.Rows L2

/-! #### values that repr shows without looking into the heap -/
def shown0 : V → Option Str
  | .non => some "None"
  | .bl b => some (if b then "True" else "False")
  | .int i => if i.natAbs.log2 < 1920 then some (toString i) else none
  | .str x => if (reprText x).length ≤ sizeLine then some (reprText x) else none
  | _ => none
def rRepr0 : List V → Hp → VK → Prop := fun xs H Q => ∃ v t, xs = [v] ∧ shown0 v = some t ∧ Q (.str t) H
section
variable {X : Cx}
theorem call_repr0 : CallR X (.builtin "repr") rRepr0 := by
  intro pins s σ H xs us Q I r h
  obtain ⟨v, t, rfl, e, q⟩ := h
  obtain ⟨u, rfl, r1⟩ := vals1 r
  cases v with
  | non =>
    cases (show u = Value.none from r1)
    cases e
    exact PySem.P.repr_of_none ⟨.str _, H, I.tok _, ⟨_, rfl⟩, q⟩
  | bl b =>
    cases (show u = Value.bool b from r1)
    cases e
    exact PySem.P.repr_of_bool ⟨.str _, H, I.tok _, ⟨_, rfl⟩, q⟩
  | int i =>
    obtain ⟨t', rfl⟩ := (show ∃ t, u = Value.int i t from r1)
    have e' : (if i.natAbs.log2 < 1920 then some (toString i : Str) else none) = some t := e
    split at e'
    · rename_i hz
      cases e'
      exact PySem.P.repr_of_int hz ⟨.str _, H, I.tok _, ⟨_, rfl⟩, q⟩
    · cases e'
  | str x =>
    obtain ⟨t', rfl⟩ := (show ∃ t, u = Value.str x t from r1)
    have e' : (if (reprText x).length ≤ sizeLine then some (reprText x) else none) = some t := e
    split at e'
    · rename_i hz
      cases e'
      exact PySem.P.repr_of_str ⟨.str _, H, I.tok _, ⟨_, rfl⟩, q⟩ hz
    · cases e'
  | byt _ => cases e
  | flt _ => cases e
  | ref _ => cases e
  | ty _ => cases e

/-! #### a text times a small number -/
def rRepS : R2 := fun x y H Q => ∃ a n, x = .str a ∧ y = .int n ∧ MulOk a n ∧ Q (.str (Txt.mul a n)) H
theorem op_repS : OpR X (binaryOp .Mult) rRepS := by
  intro pins s σ H x y v u Q I rx ry h
  obtain ⟨a, n, rfl, rfl, hm, q⟩ := h
  obtain ⟨t, rfl⟩ := rx
  obtain ⟨t', rfl⟩ := ry
  exact SB.mul hm fun t2 k => ⟨.str _, H, I.tok k, ⟨_, rfl⟩, q⟩
end

/-! #### rules with the written part named -/
section
variable {X : Cx} {K : PySem.W.Frag}
theorem ixK (h : X.K = K) : IxR X (rIx K) := h ▸ ix_seq
theorem ixLK (h : X.K = K) : IxR X (rIxL K) := h ▸ ix_list
theorem ixTK (h : X.K = K) : IxR X (rIxT K) := h ▸ ix_tup
def rLenA (K : PySem.W.Frag) : List V → Hp → VK → Prop := fun xs H Q => ∃ x n, xs = [x] ∧ LenV K x H n ∧ Q (.int n) H
theorem lenK (h : X.K = K) : CallR X (.builtin "len") (rLenA K) := h ▸ call_len
theorem isiK (h : X.K = K) : CallR X (.builtin "isinstance") (rIsi K) := h ▸ call_isi
theorem isiTK (h : X.K = K) : CallR X (.builtin "isinstance") (rIsiT K) := h ▸ call_isiT
theorem allK (h : X.K = K) (hc : X.calm = true) : CallR X (.builtin "all") (rAll K) := h ▸ cr_all hc
theorem anyK (h : X.K = K) (hc : X.calm = true) : CallR X (.builtin "any") (rAny K) := h ▸ cr_any hc
def rInt1 : List V → Hp → VK → Prop := fun xs H Q => (∃ i, xs = [.int i] ∧ Q (.int i) H) ∨ ∃ k, xs = [.bl k] ∧ Q (.int (if k then 1 else 0)) H
theorem int1 : CallR X (.type "int") rInt1 := call_int1
theorem slTK (h : X.K = K) : SlR X (rSlA K) := h ▸ sl_tupA
theorem eqDK (h : X.K = K) (hu : X.A.units + 64 < cLine) : OpR X (compareOp .Eq) (rEqD K) := h ▸ op_eqD hu
theorem neDK (h : X.K = K) (hu : X.A.units + 64 < cLine) : OpR X (compareOp .NotEq) (rNeD K) := h ▸ op_neD hu
theorem catAK (h : X.K = K) : OpR X (binaryOp .Add) (rCatA K) := h ▸ op_catA
theorem inSeqK (h : X.K = K) : OpR X (compareOp .In) (rIn K false) := h ▸ op_in_seq
theorem notInSeqK (h : X.K = K) : OpR X (compareOp .NotIn) (rIn K true) := h ▸ op_notIn_seq
theorem slLK (h : X.K = K) : SlR X (rSlL K) := h ▸ sl_list
theorem pi_listK {tg l : Expr} {tl : TE} (h : X.K = K) (hl : PE X l tl) : PI X tg l (iList K tl) := h ▸ pi_list hl
theorem pi_tupK {tg l : Expr} {tl : TE} (h : X.K = K) (hl : PE X l tl) : PI X tg l (iTup K tl) := h ▸ pi_tup hl
theorem pe_revLK {e : Expr} {te : TE} {k : Nat} {p1 p2 p3 pos : Pos} (h : X.K = K) (he : PE X e te) : PE X (.Subscript e (.Slice none none (some (.UnaryOp .USub (.Constant (.int 1) k p1) p2)) p3) pos) (tRevL K te) := h ▸ pe_revL he
def rAddSt : R2 := fun x y H Q => ∃ i j, x = .str i ∧ y = .str j ∧ i.length + j.length ≤ sizeLine ∧ Q (.str (i ++ j)) H
theorem addS : OpR X (binaryOp .Add) rAddSt := op_add_str
def rInSg : R2 := fun x y H Q => ∃ (c : Nat) (z : Str), x = .str ⟨#[c]⟩ ∧ y = .str z ∧ Q (.bl (decide (c ∈ z.cps.toList))) H
theorem inSg : OpR X (compareOp .In) rInSg := op_in_sign
def rNotInSg : R2 := fun x y H Q => ∃ (c : Nat) (z : Str), x = .str ⟨#[c]⟩ ∧ y = .str z ∧ Q (.bl (!decide (c ∈ z.cps.toList))) H
theorem notInSg : OpR X (compareOp .NotIn) rNotInSg := op_notIn_sign
def rIntS : List V → Hp → VK → Prop := fun xs H Q => ∃ a n, xs = [.str a] ∧ PySem.intText? a = some n ∧ a.length ≤ 640 ∧ Q (.int n) H
theorem intS : CallR X (.type "int") rIntS := call_int_str
def rStrI : List V → Hp → VK → Prop := fun xs H Q => ∃ i : Int, xs = [.int i] ∧ i.natAbs.log2 < 1920 ∧ Q (.str (toString i)) H
theorem strI : CallR X (.type "str") rStrI := call_str_int
def rMax2 : List V → Hp → VK → Prop := fun xs H Q => ∃ i j, xs = [.int i, .int j] ∧ Q (.int (if j > i then j else i)) H
theorem max2 (hc : X.calm = true) : CallR X (.builtin "max") rMax2 := call_max2 hc
def rMin2 : List V → Hp → VK → Prop := fun xs H Q => ∃ i j, xs = [.int i, .int j] ∧ Q (.int (if j < i then j else i)) H
theorem min2 (hc : X.calm = true) : CallR X (.builtin "min") rMin2 := call_min2 hc
def rFind : V → List V → Hp → VK → Prop := fun x xs H Q => ∃ a b, x = .str a ∧ xs = [.str b] ∧ Q (.int (Txt.find a b)) H
theorem findS : MtR X "str.find" rFind := mt_find
/-- is True, is False, of anything -/
def rIsBA : R2 := fun x y H Q => ∃ b, y = .bl b ∧ Q (.bl (decide (x = .bl b))) H
theorem isBA : OpR X (compareOp .Is) rIsBA := by
  intro pins s σ H x y v u Q I rx ry h
  obtain ⟨b, rfl, q⟩ := h
  cases (show u = Value.bool b from ry)
  have no : ∀ z : V, z ≠ .bl b → Q (.bl (decide (z = .bl b))) H → Q (.bl false) H := fun z hz q => by
    rw [decide_eq_false hz] at q
    exact q
  cases x with
  | bl a =>
    cases (show v = Value.bool a from rx)
    by_cases e : a = b
    · subst e
      exact wpAny_is_self rfl ⟨.bl true, H, I, rfl, by simpa using q⟩
    · exact wpAny_is_other rfl (fun z => e (Value.bool.inj z)) ⟨.bl false, H, I, rfl, by simpa [e] using q⟩
  | non => cases (show v = Value.none from rx); exact wpAny_is_other rfl (fun z => by cases z) ⟨.bl false, H, I, rfl, no _ (fun z => by cases z) q⟩
  | int i => obtain ⟨t, rfl⟩ := (show ∃ t, v = Value.int i t from rx); exact wpAny_is_other rfl (fun z => by cases z) ⟨.bl false, H, I, rfl, no _ (fun z => by cases z) q⟩
  | str i => obtain ⟨t, rfl⟩ := (show ∃ t, v = Value.str i t from rx); exact wpAny_is_other rfl (fun z => by cases z) ⟨.bl false, H, I, rfl, no _ (fun z => by cases z) q⟩
  | byt i => obtain ⟨t, rfl⟩ := (show ∃ t, v = Value.bytes i t from rx); exact wpAny_is_other rfl (fun z => by cases z) ⟨.bl false, H, I, rfl, no _ (fun z => by cases z) q⟩
  | flt i => obtain ⟨t, rfl⟩ := (show ∃ t, v = Value.float i t from rx); exact wpAny_is_other rfl (fun z => by cases z) ⟨.bl false, H, I, rfl, no _ (fun z => by cases z) q⟩
  | ref a => cases (show v = Value.ref a from rx); exact wpAny_is_other rfl (fun z => by cases z) ⟨.bl false, H, I, rfl, no _ (fun z => by cases z) q⟩
  | ty n => cases (show v = Value.type n from rx); exact wpAny_is_other rfl (fun z => by cases z) ⟨.bl false, H, I, rfl, no _ (fun z => by cases z) q⟩
def rJoin (K : PySem.W.Frag) : V → List V → Hp → VK → Prop := fun x xs H Q => ∃ a p, ∃ ys : List Str, x = .str a ∧ xs = [.ref p] ∧ (SqL K H p (ys.map V.str) ∨ SqT K H p (ys.map V.str)) ∧ (ys.map (·.length)).sum + ys.length * a.length ≤ 16777216 ∧ Q (.str (Txt.join a ys)) H
theorem pe_joinK {o e : Expr} {to te : TE} {pos apos : Pos} (h : X.K = K) (ho : PE X o to) (he : PE X e te) (hs : starEach [e] X.env = [(false, eval e X.env)] := by rfl) (hbase : attributeBase o "join" X.env (eval o X.env) = eval o X.env := by rfl)
    (hline : (apos.endLine == pos.line) = true := by rfl) : PE X (.Call (.Attribute o "join" apos) [e] [] pos) (tM1 (rJoin K) to te) := by
  subst h
  exact pe_join ho he hs hbase hline
end

/-! #### a list that is set aside while an expression is evaluated -/
/-- the heap without what stands at D -/
def Wo (D : Addr) (H : Hp) : Hp := fun b => if b = D then none else H b
theorem wo_same {D : Addr} {H : Hp} : Wo D H D = none := if_pos rfl
theorem wo_ne {D b : Addr} {H : Hp} (h : b ≠ D) : Wo D H b = H b := if_neg h
theorem wo_upd {D : Addr} {H : Hp} {o : HO} (h : H D = none) : Wo D (upd H D o) = H := by
  funext b
  by_cases e : b = D
  · subst e
    rw [wo_same, h]
  · rw [wo_ne e, upd_ne e]
def tFrm (te : TE) : TE := fun σ H Q => ∃ (D : Addr) (xs : List V), H D = some (.lst xs) ∧ te σ (Wo D H) fun v H' => H' D = none → Q v (upd H' D (.lst xs))
theorem pe_frm {X : Cx} {e : Expr} {te : TE} (he : PE X e te) : PE X e (tFrm te) := by
  refine ⟨fun pins s σ H Q I h => ?_⟩
  obtain ⟨D, xs, hD, h⟩ := h
  obtain ⟨hz, its, n, rv, hg⟩ := (show ObjOk X.prog X.w H s.heap D (.lst xs) from I.hok D _ hD)
  have nD : ∀ b, H b = none → b ≠ D := fun b hb e => by rw [e, hD] at hb; cases hb
  have nO : ∀ b o, H b = some o → o ≠ .lst xs → b ≠ D := fun b o hb ho e => by rw [e, hD] at hb; exact ho (Option.some.inj hb).symm
  have I2 : Inv X ((D, { cls := .type "list", data := .seq its.toArray n }) :: pins) σ (Wo D H) s := by
    refine ⟨I.ok, I.os, I.bare, ⟨I.base.keep, I.base.slot, fun b o e1 e2 e3 => ?_, I.base.there, fun b ys e => ?_, fun b o u e => ?_, fun b ps e => ?_⟩, I.loc, I.cell, ?_, fun x c e => ?_, fun p hp => ?_, fun a o e => ?_, I.len⟩
    · have q := I.base.free b o e1 e2 e3
      rw [wo_ne (nD b q)]
      exact q
    · have q := I.base.tups b ys e
      rw [wo_ne (nO b _ q (fun z => by cases z))]
      exact q
    · have q := I.base.frzs b o u e
      rw [wo_ne (nO b _ q (fun z => by cases z))]
      exact q
    · obtain ⟨m, q⟩ := I.base.tbls b ps e
      exact ⟨m, by rw [wo_ne (nO b _ q (fun z => by cases z))]; exact q⟩
    · rw [wo_ne (nD _ I.free)]
      exact I.free
    · rw [wo_ne (nD _ (I.freeC x c e))]
      exact I.freeC x c e
    · have old : ∀ p ∈ X.pn ++ pins, s.heap.get? p.1 = some p.2 ∧ Wo D H p.1 = none ∧ p.1 ≠ X.env.locals ∧ p.1 ∉ X.fs ∧ ∀ v, p.2.data ≠ .cell v := fun p hp => by
        obtain ⟨a1, a2, a3, a4, a5⟩ := I.pin p hp
        exact ⟨a1, by rw [wo_ne (nD _ a2)]; exact a2, a3, a4, a5⟩
      rcases List.mem_append.mp hp with hp | hp
      · exact old p (List.mem_append_left _ hp)
      · rcases List.mem_cons.mp hp with rfl | hp
        · refine ⟨hg, wo_same, fun z => nD _ I.free z.symm, fun z => ?_, fun v z => by cases z⟩
          by_cases hf : H D = none
          · rw [hD] at hf
            cases hf
          · obtain ⟨_, ob, ho, _⟩ := I.ok.funs.mem z
            exact hf (I.base.free D ob ho (I.ok.frf D z) fun y => I.ok.exfs D y z)
        · exact old p (List.mem_append_right _ hp)
    · by_cases ha : a = D
      · subst ha
        rw [wo_same] at e
        cases e
      · rw [wo_ne ha] at e
        refine (I.hok a o e).stay (fun b u _ q => q) (fun b q => ?_) fun b ys q => ?_
        · rw [wo_ne (nO b _ q (fun z => by cases z))]
          exact q
        · rw [wo_ne (nO b _ q (fun z => by cases z))]
          exact q
  refine thn (he.run _ s σ (Wo D H) _ I2 h) fun u s1 hh => ?_
  obtain ⟨v, H', I', r, q⟩ := hh
  obtain ⟨p1, p2, p3, p4, _⟩ := I'.pin (D, { cls := .type "list", data := .seq its.toArray n }) (List.mem_append_right _ List.mem_cons_self)
  have p1 : s1.heap.get? D = some { cls := .type "list", data := .seq its.toArray n } := p1
  have p2 : H' D = none := p2
  have mD : ∀ b o, H' b = some o → b ≠ D := fun b o e z => by rw [z, p2] at e; cases e
  refine ⟨v, upd H' D (.lst xs), ⟨I'.ok, I'.os, I'.bare, ⟨I'.base.keep, I'.base.slot, fun b o e1 e2 e3 => ?_, I'.base.there, fun b ys e => ?_, fun b o u e => ?_, fun b ps e => ?_⟩, I'.loc, I'.cell, ?_, fun x c e => ?_, fun p hp => ?_, fun a o e => ?_, I'.len⟩, r, q p2⟩
  · rw [upd_ne (nD _ (I.base.free b o e1 e2 e3))]
    exact I'.base.free b o e1 e2 e3
  · have z := I'.base.tups b ys e
    rw [upd_ne (mD _ _ z)]
    exact z
  · have z := I'.base.frzs b o u e
    rw [upd_ne (mD _ _ z)]
    exact z
  · obtain ⟨m, z⟩ := I'.base.tbls b ps e
    exact ⟨m, by rw [upd_ne (mD _ _ z)]; exact z⟩
  · rw [upd_ne (fun z => p3 z.symm)]
    exact I'.free
  · rw [upd_ne (nD _ (I.freeC x c e))]
    exact I'.freeC x c e
  · obtain ⟨a1, a2, a3, a4, a5⟩ := I'.pin p (by
      rcases List.mem_append.mp hp with hp | hp
      · exact List.mem_append_left _ hp
      · exact List.mem_append_right _ (List.mem_cons_of_mem _ hp))
    exact ⟨a1, by rw [upd_ne (nD _ (I.pin p hp).2.1)]; exact a2, a3, a4, a5⟩
  · by_cases ha : a = D
    · subst ha
      rw [upd_same] at e
      cases e
      exact ⟨hz, its, n, rv, p1⟩
    · rw [upd_ne ha] at e
      refine (I'.hok a o e).stay (fun b u _ q => q) (fun b z => ?_) fun b ys z => ?_
      · rw [upd_ne (mD _ _ z)]
        exact z
      · rw [upd_ne (mD _ _ z)]
        exact z

/-! #### readings, one step each -/
section
variable {K : PySem.W.Frag} {σ : L2.St} {H : Hp} {i : Nat} {v x y : V} {Q : VK} {r : R2} {ta tb te : TE} {D : Ends} {t u : TS} {tt tu : TT} {g : TG} {tr : TA}
theorem rd_var (h : σ[i]? = some (some v)) (q : Q v H) : tVar i σ H Q := ⟨v, h, q⟩
theorem rd_c (q : Q v H) : tC v σ H Q := q
theorem rd_op (h : ta σ H fun x H1 => tb σ H1 fun y H2 => r x y H2 Q) : tOp r ta tb σ H Q := h
theorem rd_seq (h : t { D with nx := u D } σ H) : tSeq t u D σ H := h
theorem rd_asg (h : te σ H fun x H1 => g x σ H1 D.nx) : tAsg te g D σ H := h
theorem rd_name {P : L2.St → Hp → Prop} (h : P (σ.set i (some v)) H) : gName i v σ H P := h
theorem rd_next (h : D.nx σ H) : tNext D σ H := h
theorem rd_ret (h : te σ H D.rt) : tRet te D σ H := h
theorem rd_retN (h : D.rt .non H) : tRetN D σ H := h
theorem rd_drop (h : te σ H fun _ H1 => D.nx σ H1) : tDrop te D σ H := h
theorem rd_ifS {tc : TT} (h : tc σ H fun b H1 => if b = true then t D σ H1 else u D σ H1) : tIfS tc t u D σ H := h
theorem rd_if {tc : TT} (h : tc σ H fun c H1 => if c = true then ta σ H1 Q else tb σ H1 Q) : tIf tc ta tb σ H Q := h
theorem rd_test {P : Bool → Hp → Prop} (h : te σ H fun x H' => ∃ k, x = .bl k ∧ P k H') : tTest te σ H P := h
theorem rd_B {P : Bool → Hp → Prop} (h : te σ H fun x H' => ∃ k, x = .bl k ∧ P k H') : tB te σ H P := h
theorem rd_not {P : Bool → Hp → Prop} (h : tt σ H fun c H1 => P (!c) H1) : tNot tt σ H P := h
theorem rd_and {P : Bool → Hp → Prop} (h : tt σ H fun c H1 => if c = true then tu σ H1 P else P false H1) : tAnd tt tu σ H P := h
theorem rd_or {P : Bool → Hp → Prop} (h : tt σ H fun c H1 => if c = true then P true H1 else tu σ H1 P) : tOr tt tu σ H P := h
theorem rd_nil {P : List V → Hp → Prop} (h : P [] H) : tNil σ H P := h
theorem rd_cons {P : List V → Hp → Prop} (h : te σ H fun x H1 => tr σ H1 fun xs H2 => P (x :: xs) H2) : tCons te tr σ H P := h
theorem rd_cb {rr : List V → Hp → VK → Prop} (h : tr σ H fun vs H1 => rr vs H1 Q) : tCB rr tr σ H Q := h
theorem rd_call {sp : Sp} {dvs : List V} {E : XK} (h : tr σ H fun vs H1 => sp (vs ++ dvs) H1 Q E) : tCall sp dvs E tr σ H Q := h
theorem rd_I0 {f : Int → Int → V} {a b : Int} (h : Q (f a b) H) : rI0 f (.int a) (.int b) H Q := ⟨a, b, rfl, rfl, h⟩
theorem rd_I {C : Int → Int → Prop} {f : Int → Int → V} {a b : Int} (hc : C a b) (h : Q (f a b) H) : rI C f (.int a) (.int b) H Q := ⟨a, b, rfl, rfl, hc, h⟩
theorem rd_eq (h : scal x y = true) (q : Q (.bl (decide (x = y))) H) : rEq x y H Q := ⟨h, q⟩
theorem rd_ne (h : scal x y = true) (q : Q (.bl (!decide (x = y))) H) : rNe x y H Q := ⟨h, q⟩
theorem rd_ex_bl {P : Bool → Prop} {b : Bool} (h : P b) : ∃ k, V.bl b = V.bl k ∧ P k := ⟨b, rfl, h⟩
theorem rd_un {rr : V → Hp → VK → Prop} (h : ta σ H fun x H1 => rr x H1 Q) : tUn rr ta σ H Q := h
theorem rd_U {f : Int → V} {a : Int} (h : Q (f a) H) : rU f (.int a) H Q := ⟨a, rfl, h⟩
theorem rd_chain {r' : R2} {tc : TE} (h : ta σ H fun x H1 => tb σ H1 fun y H2 => r x y H2 fun z H3 => ∃ k, z = .bl k ∧ (if k = true then tc σ H3 fun w' H4 => r' y w' H4 Q else Q (.bl false) H3)) : tChain r r' ta tb tc σ H Q := h
/-- what a new list, a new tuple hands on -/
def LstK (Q : VK) : List V → Hp → Prop := fun xs H1 => xs.length ≤ sizeLine ∧ ∀ p, H1 p = none → Q (.ref p) (upd H1 p (.lst xs))
def TupK (Q : VK) : List V → Hp → Prop := fun xs H1 => xs.length ≤ sizeLine ∧ ∀ p, H1 p = none → Q (.ref p) (upd H1 p (.tup xs))
theorem rd_lst (h : tr σ H (LstK Q)) : tLst tr σ H Q := h
theorem rd_tup (h : tr σ H (TupK Q)) : tTup tr σ H Q := h
theorem rd_andV (h : ta σ H fun x H1 => ∃ c, x = .bl c ∧ if c = true then tb σ H1 Q else Q (.bl false) H1) : tAndV ta tb σ H Q := h
theorem rd_orV (h : ta σ H fun x H1 => ∃ c, x = .bl c ∧ if c = true then Q (.bl true) H1 else tb σ H1 Q) : tOrV ta tb σ H Q := h
theorem rd_notV (h : ta σ H fun x H1 => ∃ c, x = .bl c ∧ Q (.bl (!c)) H1) : tNotV ta σ H Q := h
theorem rd_sub {tt3 : V → V → V → Hp → (Hp → Prop) → Prop} {P : L2.St → Hp → Prop} (h : ta σ H fun o H1 => tb σ H1 fun i H2 => tt3 o i v H2 fun H3 => P σ H3) : gSub ta tb tt3 v σ H P := h
theorem rd_ite {c : Prop} [Decidable c] {A B : Prop} (h1 : c → A) (h2 : ¬ c → B) : if c then A else B := ite2 h1 h2
theorem rd_iteD {c : Prop} [Decidable c] {A B : Prop} (h1 : c → A) (h2 : ¬ c → B) : if decide c = true then A else B := by
  by_cases h : c
  · rw [if_pos (decide_eq_true h)]; exact h1 h
  · rw [if_neg (by simpa using h)]; exact h2 h
theorem rd_iteN {b : Bool} {A B : Prop} (h : if b = true then B else A) : if (!b) = true then A else B := by
  cases b with
  | true => exact iteF (by simpa using h)
  | false => exact iteT (by simpa using h)
theorem rd_iteND {c : Prop} [Decidable c] {A B : Prop} (h1 : c → B) (h2 : ¬ c → A) : if (!decide c) = true then A else B := rd_iteN (rd_iteD h1 h2)
theorem rd_ixL {xs : List V} {p : Addr} {k : Int} (h : SqL K H p xs) (ha : atI xs k = some v) (q : Q v H) : rIx K (.ref p) (.int k) H Q := .inl ⟨p, xs, k, v, rfl, rfl, h, ha, q⟩
theorem rd_ixL1 {xs : List V} {p : Addr} {k : Int} (h : SqL K H p xs) (ha : atI xs k = some v) (q : Q v H) : rIxL K (.ref p) (.int k) H Q := ⟨p, xs, k, v, rfl, rfl, h, ha, q⟩
theorem rd_ixT {xs : List V} {p : Addr} {k : Int} (h : SqT K H p xs) (ha : atI xs k = some v) (q : Q v H) : rIx K (.ref p) (.int k) H Q := .inr (.inl ⟨p, xs, k, v, rfl, rfl, h, ha, q⟩)
theorem rd_ixT1 {xs : List V} {p : Addr} {k : Int} (h : SqT K H p xs) (ha : atI xs k = some v) (q : Q v H) : rIxT K (.ref p) (.int k) H Q := ⟨p, xs, k, v, rfl, rfl, h, ha, q⟩
theorem rd_ixS {z : Str} {k : Int} {c : Nat} (h : z.length ≤ sizeLine) (ha : atI z.cps.toList k = some c) (q : Q (.str ⟨#[c]⟩) H) : rIx K (.str z) (.int k) H Q := .inr (.inr ⟨z, k, c, rfl, rfl, h, ha, q⟩)
theorem rd_ixS1 {z : Str} {k : Int} {c : Nat} (h : z.length ≤ sizeLine) (ha : atI z.cps.toList k = some c) (q : Q (.str ⟨#[c]⟩) H) : rIxS (.str z) (.int k) H Q := ⟨z, k, c, rfl, rfl, h, ha, q⟩
theorem rd_modA {i j : Int} (hj : 0 < j) (q : ∀ r, 0 ≤ r → r < j → Q (.int r) H) : rI (fun _ j => 0 < j) (fun i j => .int (i % j)) (.int i) (.int j) H Q :=
  ⟨i, j, rfl, rfl, hj, q _ (Int.emod_nonneg _ (by omega)) (Int.emod_lt_of_pos _ hj)⟩
theorem rd_setL {p : Addr} {xs : List V} {k : Int} {j : Nat} {P : Hp → Prop} (h : H p = some (.lst xs)) (hj : ixN xs.length k = some j) (q : P (upd H p (.lst (xs.set j v)))) : rSetL (.ref p) (.int k) v H P := ⟨p, xs, k, j, rfl, rfl, h, hj, q⟩
theorem rd_isi {t n : String} {b : Bool} (ty : TyX K H v (.type t)) (k : kitB t n = some b) (q : Q (.bl b) H) : rIsi K [v, .ty n] H Q := ⟨v, .ty n, _, _, b, rfl, ClsV.ty n, ty, kit_ty k, q⟩
theorem rd_lenS {z : Str} (h : z.length ≤ sizeLine) (q : Q (.int (z.length : Nat)) H) : rLenA K [.str z] H Q := ⟨_, _, rfl, ⟨h, rfl⟩, q⟩
theorem rd_lenL {p : Addr} {xs : List V} (h : SqL K H p xs) (q : Q (.int (xs.length : Nat)) H) : rLenA K [.ref p] H Q := ⟨_, _, rfl, .inl ⟨_, h, rfl⟩, q⟩
theorem rd_lenT {p : Addr} {xs : List V} (h : SqT K H p xs) (q : Q (.int (xs.length : Nat)) H) : rLenA K [.ref p] H Q := ⟨_, _, rfl, .inr ⟨_, h, rfl⟩, q⟩
theorem rd_inS {z : Str} {c : Nat} (q : Q (.bl (decide (c ∈ z.cps.toList))) H) : rInSg (.str ⟨#[c]⟩) (.str z) H Q := ⟨c, z, rfl, rfl, q⟩
theorem rd_notInS {z : Str} {c : Nat} (q : Q (.bl (!decide (c ∈ z.cps.toList))) H) : rNotInSg (.str ⟨#[c]⟩) (.str z) H Q := ⟨c, z, rfl, rfl, q⟩
theorem rd_max2 {a b : Int} (q : ∀ c : Int, (c = a ∧ b ≤ a ∨ c = b ∧ a < b) → Q (.int c) H) : rMax2 [.int a, .int b] H Q := ⟨a, b, rfl, q _ (by by_cases h : b > a <;> simp [h] <;> omega)⟩
theorem rd_min2 {a b : Int} (q : ∀ c : Int, (c = a ∧ a ≤ b ∨ c = b ∧ b < a) → Q (.int c) H) : rMin2 [.int a, .int b] H Q := ⟨a, b, rfl, q _ (by by_cases h : b < a <;> simp [h] <;> omega)⟩
theorem rd_find {a b : Str} (q : Q (.int (Txt.find a b)) H) : rFind (.str a) [.str b] H Q := ⟨a, b, rfl, rfl, q⟩
theorem rd_m1 {rr : V → List V → Hp → VK → Prop} (h : ta σ H fun x H1 => (∃ a, x = .str a) ∧ tb σ H1 fun y H2 => rr x [y] H2 Q) : tM1 rr ta tb σ H Q := h
theorem rd_exStr {a : Str} {B : Prop} (h : B) : (∃ b, V.str a = V.str b) ∧ B := ⟨⟨a, rfl⟩, h⟩
theorem small_sz {n : Nat} (h : n ≤ 100000) : n ≤ sizeLine := Nat.le_trans h (by decide)
/-- what a comprehension's turn hands on: the list at D has one more item -/
def LcK (n : Nat) (D : Addr) (Pv : Nat → List V → Hp → Prop) (i : Nat) : VK := fun y H4 => ∃ acc, H4 D = some (.lst acc) ∧ acc.length < sizeLine ∧ ∃ acc', acc'.length = i + 1 ∧ (upd H4 D (.lst (acc ++ [y]))) D = some (.lst acc') ∧ Pv (i + 1) acc' (upd H4 D (.lst (acc ++ [y])))
theorem lcK {n : Nat} {D : Addr} {Pv : Nat → List V → Hp → Prop} {i : Nat} {y : V} {H4 : Hp} {acc : List V} (h : H4 D = some (.lst acc)) (hl : acc.length = i) (hn : i < n) (hz : n ≤ 100000) (hp : Pv (i + 1) (acc ++ [y]) (upd H4 D (.lst (acc ++ [y])))) : LcK n D Pv i y H4 :=
  ⟨acc, h, Nat.lt_of_lt_of_le (show acc.length < 100000 by omega) (by decide), acc ++ [y], by rw [List.length_append, hl]; rfl, upd_same, hp⟩
theorem lc_yes {J : It} {n : Nat} {G : Hp → Prop} {Y : Nat → Hp → V → Hp → Prop} (w : Walk J n G Y) {te : TE} {vs : List Nat} {σ : L2.St} {H1 : Hp} {D : Addr} {Qd : Hp → Prop} (Pv : Nat → List V → Hp → Prop) (h0 : Pv 0 [] (upd H1 D (.lst [])))
    (hG : ∀ i acc H, i ≤ n → Pv i acc H → G H)
    (hs : ∀ i x acc H H', i < n → acc.length = i → H D = some (.lst acc) → Pv i acc H → Y i H x H' → g x (wipe σ vs) H' fun σ2 H2 => wipe σ2 vs = wipe σ vs ∧ te σ2 H2 (LcK n D Pv i))
    (hd : ∀ acc H, acc.length = n → H D = some (.lst acc) → Pv n acc H → Qd H) :
    ∃ W : Nat → Nat → Hp → Prop, (∃ m, W 0 m (upd H1 D (.lst []))) ∧ ∀ i m H, W i m H →
      (J.stop i H ∧ Qd H) ∨ (J.go i H ∧ ∃ Nx : Hp → Prop, (∀ H', Nx H' → ∃ m', m' < m ∧ W (i + 1) m' H') ∧ ∀ x H', J.yld i H x H' → g x (wipe σ vs) H' fun σ2 H2 => wipe σ2 vs = wipe σ vs ∧ tYes σ2 H2 fun b H3 =>
        if b = true then te σ2 H3 fun y H4 => ∃ acc, H4 D = some (.lst acc) ∧ acc.length < sizeLine ∧ Nx (upd H4 D (.lst (acc ++ [y]))) else Nx H3) :=
  lc_it w (fun i H => ∃ acc, acc.length = i ∧ H D = some (.lst acc) ∧ Pv i acc H) ⟨[], rfl, upd_same, h0⟩ (fun i H hi ⟨acc, _, _, p⟩ => hG i acc H hi p)
    (fun i x H H' hi ⟨acc, hl, hD, p⟩ y => hs i x acc H H' hi hl hD p y) (fun H ⟨acc, hl, hD, p⟩ => hd acc H hl hD p)
/-! what is walked, comprehensions, loops -/
def Rng1K (R : It → Hp → Prop) : List V → Hp → Prop := fun vs H1 => ∃ j : Int, vs = [.int j] ∧ -(2 ^ 62) ≤ j ∧ j < 2 ^ 62 ∧ R (Itr 0 j.toNat) H1
def Rng2K (R : It → Hp → Prop) : List V → Hp → Prop := fun vs H1 => ∃ i j : Int, vs = [.int i, .int j] ∧ (-(2 ^ 62) ≤ i ∧ i < 2 ^ 62 ∧ -(2 ^ 62) ≤ j ∧ j < 2 ^ 62) ∧ R (Itr i (j - i).toNat) H1
def LstIt (K : PySem.W.Frag) (R : It → Hp → Prop) : VK := fun x H1 => ∃ a, x = .ref a ∧ (∃ xs, SqL K H1 a xs) ∧ R (Itl K a) H1
def TupIt (K : PySem.W.Frag) (R : It → Hp → Prop) : VK := fun x H1 => ∃ a, x = .ref a ∧ (∃ xs, SqT K H1 a xs) ∧ R (Itt K a) H1
def StrIt (R : It → Hp → Prop) : VK := fun v H1 => ∃ x, v = .str x ∧ R (Its x) H1
theorem rd_iR1 {R : It → Hp → Prop} (h : tr σ H (Rng1K R)) : iRng1 tr σ H R := h
theorem rd_iR2 {R : It → Hp → Prop} (h : tr σ H (Rng2K R)) : iRng2 tr σ H R := h
theorem rd_iL {R : It → Hp → Prop} (h : te σ H (LstIt K R)) : iList K te σ H R := h
theorem rd_iT {R : It → Hp → Prop} (h : te σ H (TupIt K R)) : iTup K te σ H R := h
theorem rd_iS {R : It → Hp → Prop} (h : te σ H (StrIt R)) : iStr te σ H R := h
theorem rd_r1 {R : It → Hp → Prop} {j : Int} (h0 : -1000000 ≤ j) (h1 : j ≤ 1000000) (q : R (Itr 0 j.toNat) H) : Rng1K R [.int j] H := ⟨j, rfl, by omega, by omega, q⟩
theorem rd_r2 {R : It → Hp → Prop} {i j : Int} (h0 : -1000000000000 ≤ i ∧ i ≤ 1000000000000) (h1 : -1000000000000 ≤ j ∧ j ≤ 1000000000000) (q : R (Itr i (j - i).toNat) H) : Rng2K R [.int i, .int j] H := ⟨i, j, rfl, by omega, q⟩
theorem rd_il {R : It → Hp → Prop} {p : Addr} {xs : List V} (h : SqL K H p xs) (q : R (Itl K p) H) : LstIt K R (.ref p) H := ⟨p, rfl, ⟨xs, h⟩, q⟩
theorem rd_it {R : It → Hp → Prop} {p : Addr} {xs : List V} (h : SqT K H p xs) (q : R (Itt K p) H) : TupIt K R (.ref p) H := ⟨p, rfl, ⟨xs, h⟩, q⟩
theorem rd_is {R : It → Hp → Prop} {z : Str} (q : R (Its z) H) : StrIt R (.str z) H := ⟨z, rfl, q⟩
def LcGo (J : It) (g : TG) (tt : TT) (te : TE) (vs : List Nat) (σ : L2.St) (H1 : Hp) (Q : VK) : Prop := ∀ D, H1 D = none → ∃ W : Nat → Nat → Hp → Prop, (∃ m, W 0 m (upd H1 D (.lst []))) ∧ ∀ i m H, W i m H →
  (J.stop i H ∧ Q (.ref D) H) ∨ (J.go i H ∧ ∃ Nx : Hp → Prop, (∀ H', Nx H' → ∃ m', m' < m ∧ W (i + 1) m' H') ∧ ∀ x H', J.yld i H x H' → g x (wipe σ vs) H' fun σ2 H2 => wipe σ2 vs = wipe σ vs ∧ tt σ2 H2 fun b H3 =>
    if b = true then te σ2 H3 fun y H4 => ∃ acc, H4 D = some (.lst acc) ∧ acc.length < sizeLine ∧ Nx (upd H4 D (.lst (acc ++ [y]))) else Nx H3)
theorem rd_lc {wi : TI} {vs : List Nat} (h : wi σ H fun J H1 => LcGo J g tt te vs σ H1 Q) : tLc wi g tt te vs σ H Q := h
theorem lcgo {J : It} {n : Nat} {G : Hp → Prop} {Y : Nat → Hp → V → Hp → Prop} (w : Walk J n G Y) {vs : List Nat} {H1 : Hp} (Pv : Addr → Nat → List V → Hp → Prop) (h0 : ∀ D, H1 D = none → Pv D 0 [] (upd H1 D (.lst [])))
    (hG : ∀ D i acc H, H1 D = none → i ≤ n → Pv D i acc H → G H)
    (hs : ∀ D i x acc H H', H1 D = none → i < n → acc.length = i → H D = some (.lst acc) → Pv D i acc H → Y i H x H' → g x (wipe σ vs) H' fun σ2 H2 => wipe σ2 vs = wipe σ vs ∧ te σ2 H2 (LcK n D (Pv D) i))
    (hd : ∀ D acc H, H1 D = none → acc.length = n → H D = some (.lst acc) → Pv D n acc H → Q (.ref D) H) : LcGo J g tYes te vs σ H1 Q :=
  fun D hD => lc_yes w (Pv D) (h0 D hD) (fun i acc H a b => hG D i acc H hD a b) (fun i x acc H H' a b c d e => hs D i x acc H H' hD a b c d e) fun acc H a b c => hd D acc H hD a b c
def ForGo (J : It) (g : TG) (tb : TS) (D : Ends) (σ : L2.St) (H1 : Hp) : Prop := ∃ W : Nat → Nat → L2.St → Hp → Prop, (∃ m, W 0 m σ H1) ∧ ∀ i m σ H, W i m σ H →
  (J.stop i H ∧ D.nx σ H) ∨ (J.go i H ∧ ∃ N : L2.St → Hp → Prop, (∀ σ' H', N σ' H' → ∃ m', m' < m ∧ W (i + 1) m' σ' H') ∧ ∀ x H', J.yld i H x H' → g x σ H' fun σ2 H2 => tb { D with nx := N, ct := N, bk := D.nx } σ2 H2)
theorem rd_for {wi : TI} (h : wi σ H fun J H1 => ForGo J g t D σ H1) : tFor wi g t D σ H := h
theorem forgo {J : It} {n : Nat} {G : Hp → Prop} {Y : Nat → Hp → V → Hp → Prop} (w : Walk J n G Y) (Pv : Nat → L2.St → Hp → Prop) (h0 : Pv 0 σ H) (hG : ∀ i σ H, i ≤ n → Pv i σ H → G H)
    (hs : ∀ i x σ H H', i < n → Pv i σ H → Y i H x H' → g x σ H' fun σ2 H2 => t { D with nx := Pv (i + 1), ct := Pv (i + 1), bk := D.nx } σ2 H2) (hd : ∀ σ H, Pv n σ H → D.nx σ H) : ForGo J g t D σ H := for_it w Pv h0 hG hs hd
theorem rd_lstA {xs : List V} (hz : xs.length ≤ 100000) (q : ∀ p H', H p = none → Same H H' → H' p = some (.lst xs) → Q (.ref p) H') : LstK Q xs H :=
  ⟨Nat.le_trans hz (by decide), fun p hp => q p _ hp (fun b x e => by rw [upd_ne (ne_of_none e hp)]; exact e) upd_same⟩
theorem rd_tupA {xs : List V} (hz : xs.length ≤ 100000) (q : ∀ p H', H p = none → Same H H' → H' p = some (.tup xs) → Q (.ref p) H') : TupK Q xs H :=
  ⟨Nat.le_trans hz (by decide), fun p hp => q p _ hp (fun b x e => by rw [upd_ne (ne_of_none e hp)]; exact e) upd_same⟩
theorem len_le : ∀ {xs : List V} {n : Nat}, xs.length = n → n ≤ 100000 → xs.length ≤ 100000 := fun e h => e ▸ h
theorem rd_nx {a c d : L2.St → Hp → Prop} {b : VK} (h : a σ H) : Ends.nx ⟨a, b, c, d⟩ σ H := h
theorem rd_rt {a c d : L2.St → Hp → Prop} {b : VK} (h : b v H) : Ends.rt ⟨a, b, c, d⟩ v H := h
theorem rd_sl {rs : V → Option Int → Option Int → Hp → VK → Prop} {tl th : TO} (h : ta σ H fun x H1 => tl σ H1 fun lo H2 => th σ H2 fun hi H3 => rs x lo hi H3 Q) : tSl rs ta tl th σ H Q := h
theorem rd_nopart {P : Option Int → Hp → Prop} (h : P none H) : tNoPart σ H P := h
theorem rd_part {P : Option Int → Hp → Prop} (h : te σ H fun x H1 => ∃ i, x = .int i ∧ P (some i) H1) : tPart te σ H P := h
theorem rd_ex_int {P : Int → Prop} {b : Int} (h : P b) : ∃ k, V.int b = V.int k ∧ P k := ⟨b, rfl, h⟩
theorem rd_slS {z : Str} {lo hi : Option Int} (hz : z.length ≤ sizeLine) (h : Q (.str (cutS z lo hi)) H) : rSlS (.str z) lo hi H Q := ⟨z, rfl, hz, h⟩
theorem rd_addS {a b : Str} (hz : a.length + b.length ≤ 100000) (h : Q (.str (a ++ b)) H) : rAddSt (.str a) (.str b) H Q := ⟨a, b, rfl, rfl, Nat.le_trans hz (by decide), h⟩
theorem rd_repS {a : Str} {n : Int} (hm : MulOk a n) (h : Q (.str (Txt.mul a n)) H) : rRepS (.str a) (.int n) H Q := ⟨a, n, rfl, rfl, hm, h⟩
theorem rd_repr0 {t : Str} (h : shown0 v = some t) (q : Q (.str t) H) : rRepr0 [v] H Q := ⟨v, t, rfl, h, q⟩
def RevK (K : PySem.W.Frag) (Q : VK) : VK := fun x H1 => ∃ a xs, x = .ref a ∧ SqL K H1 a xs ∧ ∀ p, H1 p = none → Q (.ref p) (upd H1 p (.lst xs.reverse))
theorem rd_revL (h : te σ H (RevK K Q)) : tRevL K te σ H Q := h
theorem rd_revK {p : Addr} {xs : List V} (h : SqL K H p xs) (q : ∀ p H', H p = none → Same H H' → H' p = some (.lst xs.reverse) → Q (.ref p) H') : RevK K Q (.ref p) H :=
  ⟨p, xs, rfl, h, fun p hp => q p _ hp (fun b x e => by rw [upd_ne (ne_of_none e hp)]; exact e) upd_same⟩
theorem rd_cat {l b : Addr} {xs zs : List V} (h1 : H l = some (.lst xs)) (h2 : H b = some (.lst zs)) (hz : xs.length + zs.length ≤ 100000) (q : ∀ p H', H p = none → Same H H' → H' p = some (.lst (xs ++ zs)) → Q (.ref p) H') : rCat (.ref l) (.ref b) H Q :=
  ⟨l, b, xs, zs, rfl, rfl, h1, h2, Nat.le_trans hz (by decide), fun p hp => q p _ hp (fun b x e => by rw [upd_ne (ne_of_none e hp)]; exact e) upd_same⟩
theorem rd_catA {a b : Addr} {x y : V} {xs ys : List V} (h1 : SqT K H a (x :: xs)) (h2 : SqT K H b (y :: ys)) (hz : (x :: xs).length + (y :: ys).length ≤ 100000) (q : ∀ p H', H p = none → Same H H' → H' p = some (.tup ((x :: xs) ++ (y :: ys))) → Q (.ref p) H') : rCatA K (.ref a) (.ref b) H Q :=
  ⟨a, b, _, _, rfl, rfl, h1, h2, Nat.le_trans hz (by decide), (fun e => nomatch e), (fun _ e => nomatch e), fun _ _ p hp => q p _ hp (fun b x e => by rw [upd_ne (ne_of_none e hp)]; exact e) upd_same⟩
theorem cutV_whole {xs : List V} {lo hi : Option Int} (h : HT.sIx xs.length 0 lo = 0 ∧ HT.sIx xs.length xs.length hi = xs.length) : cutV xs lo hi = xs := by
  unfold cutV
  rw [h.1, h.2, List.drop_zero, Nat.sub_zero, List.take_length]
/-- a part of a tuple -/
theorem rd_slA {a : Addr} {xs : List V} {lo hi : Option Int} (h : H a = some (.tup xs)) (q : ∀ p H', Same H H' → H' p = some (.tup (cutV xs lo hi)) → Q (.ref p) H') : rSlA K (.ref a) lo hi H Q :=
  ⟨a, xs, rfl, .inl (.inl h), fun w => q a H (Same.refl H) (by rw [cutV_whole w]; exact h), fun _ p hp => q p _ (fun b x e => by rw [upd_ne (ne_of_none e hp)]; exact e) upd_same⟩
theorem rd_neD {x y : V} {d e : PyData} (hd : Dp K H x d) (he : Dp K H y e) (sd : SeqAt.shaped d = true) (se : SeqAt.shaped e = true) (q : Q (.bl (!PyData.eqv d e)) H) : rNeD K x y H Q := ⟨d, e, hd, he, sd, se, q⟩
theorem rd_eqD {x y : V} {d e : PyData} (hd : Dp K H x d) (he : Dp K H y e) (sd : SeqAt.shaped d = true) (se : SeqAt.shaped e = true) (q : Q (.bl (PyData.eqv d e)) H) : rEqD K x y H Q := ⟨d, e, hd, he, sd, se, q⟩
theorem rd_inT {x : V} {p : Addr} {xs : List V} (h : SqT K H p xs) (f1 : flatV x = true) (f2 : xs.all flatV = true) (q : Q (.bl (inV x xs)) H) : rIn K false x (.ref p) H Q := ⟨p, xs, rfl, .inr h, f1, f2, q⟩
theorem rd_inL {x : V} {p : Addr} {xs : List V} (h : SqL K H p xs) (f1 : flatV x = true) (f2 : xs.all flatV = true) (q : Q (.bl (inV x xs)) H) : rIn K false x (.ref p) H Q := ⟨p, xs, rfl, .inl h, f1, f2, q⟩
theorem rd_isBA {b : Bool} (q : Q (.bl (decide (v = .bl b))) H) : rIsBA v (.bl b) H Q := ⟨b, rfl, q⟩
theorem rd_gtup {n : Nat} {tt2 : List V → L2.St → Hp → (L2.St → Hp → Prop) → Prop} {P : L2.St → Hp → Prop} {p : Addr} {xs : List V} (h : SqT K H p xs) (hl : xs.length = n) (q : tt2 xs σ H P) : gTup K n tt2 (.ref p) σ H P := ⟨p, xs, rfl, h, hl, q⟩
theorem rd_glst {n : Nat} {tt2 : List V → L2.St → Hp → (L2.St → Hp → Prop) → Prop} {P : L2.St → Hp → Prop} {p : Addr} {xs : List V} (h : SqL K H p xs) (hl : xs.length = n) (q : tt2 xs σ H P) : gLst K n tt2 (.ref p) σ H P := ⟨p, xs, rfl, h, hl, q⟩
theorem rd_intB {b : Bool} (q : ∀ i : Int, 0 ≤ i → i < 2 → Q (.int i) H) : rInt1 [.bl b] H Q := .inr ⟨b, rfl, q _ (by cases b <;> decide) (by cases b <;> decide)⟩
theorem rd_gcons {tt2 : List V → L2.St → Hp → (L2.St → Hp → Prop) → Prop} {P : L2.St → Hp → Prop} {xs : List V} (h : g v σ H fun σ' H' => tt2 xs σ' H' P) : gCons g tt2 (v :: xs) σ H P := ⟨v, xs, rfl, h⟩
theorem rd_gnil {P : L2.St → Hp → Prop} (h : P σ H) : gNil [] σ H P := ⟨rfl, h⟩
/-- xs.append(e) -/
theorem rd_bm {T : String} {rr : V → List V → Hp → VK → Prop} (h : te σ H fun x H1 => tyV K T x H1 ∧ tr σ H1 fun xs H2 => rr x xs H2 Q) : tBM K T rr te tr σ H Q := h
theorem rd_tyL {p : Addr} {xs : List V} {B : Prop} (h : SqL K H p xs) (q : B) : tyV K "list" (.ref p) H ∧ B := ⟨.inl ⟨rfl, xs, h⟩, q⟩
theorem rd_append {l : Addr} {xs : List V} {y : V} (h : H l = some (.lst xs)) (hz : xs.length < 100000) (q : Q .non (upd H l (.lst (xs ++ [y])))) : rAppend (.ref l) [y] H Q := ⟨l, xs, y, rfl, rfl, h, Nat.lt_of_lt_of_le hz (by decide), q⟩
theorem rd_frm {D : Addr} {xs : List V} (h : H D = some (.lst xs)) (q : te σ (Wo D H) fun v H' => H' D = none → Q v (upd H' D (.lst xs))) : tFrm te σ H Q := ⟨D, xs, h, q⟩
theorem join_len {ys : List Str} (h : ∀ y ∈ ys, y.length = 1) : (Txt.join (Str.ofString "") ys).length ≤ ys.length ∧ (ys.map (·.length)).sum = ys.length := by
  have e : (ys.map (·.length)).sum = ys.length := by
    induction ys with
    | nil => rfl
    | cons a r ih =>
      rw [List.map_cons, List.sum_cons, ih fun y hy => h y (List.mem_cons_of_mem _ hy), h a List.mem_cons_self, List.length_cons]
      omega
  refine ⟨?_, e⟩
  have := size_glued (Str.ofString "") ys
  have e0 : (Str.ofString "").length = 0 := by decide +kernel
  rw [e0, Nat.mul_zero, Nat.add_zero, e] at this
  exact Nat.le_of_eq this
/-- "".join of signs -/
theorem rd_join1 {p : Addr} {ys : List Str} (h : SqL K H p (ys.map V.str)) (h1 : ∀ y ∈ ys, y.length = 1) (hl : ys.length ≤ 100000) (q : ∀ z : Str, z = Txt.join (Str.ofString "") ys → z.length ≤ ys.length → Q (.str z) H) : rJoin K (.str (Str.ofString "")) [.ref p] H Q := by
  obtain ⟨j1, j2⟩ := join_len h1
  have e0 : (Str.ofString "").length = 0 := by decide +kernel
  refine ⟨_, p, ys, rfl, rfl, .inl h, ?_, q _ rfl j1⟩
  rw [j2, e0]
  omega
theorem rd_disp1 {tk tv : TE} {kx : Key} {y : V} (hk : ∀ H' (P : VK), P (kV kx) H' → tk σ H' P) (hv : ∀ H' (P : VK), P y H' → tv σ H' P) (q : ∀ p H', H p = none → Same H H' → H' p = some (.dK [(kx, y)]) → Q (.ref p) H') : tDisp [(tk, tv)] σ H Q := by
  intro p hp
  refine hk _ _ (hv _ _ ⟨upd_same, [(kx, y)], rfl, (show 1 ≤ 15 by decide), ?_⟩)
  rw [upd_upd]
  exact q p _ hp (fun b x e => by rw [upd_ne (ne_of_none e hp)]; exact e) upd_same
theorem rd_dnew (q : ∀ p H', H p = none → Same H H' → H' p = some (.dK []) → Q (.ref p) H') : tDNewK σ H Q :=
  fun p hp => q p _ hp (fun b x e => by rw [upd_ne (ne_of_none e hp)]; exact e) upd_same
theorem atI_mem {xs : List V} {k : Int} (h0 : 0 ≤ k) (h1 : k < (xs.length : Int)) : ∃ v, v ∈ xs ∧ atI xs k = some v := by
  obtain ⟨j, rfl⟩ : ∃ j : Nat, k = (j : Int) := ⟨k.toNat, by omega⟩
  have hj : j < xs.length := by omega
  exact ⟨xs[j], List.getElem_mem hj, atI_nat (List.getElem?_eq_getElem hj)⟩
theorem rd_ixAny1 {xs : List V} {p : Addr} {k : Int} (h : SqL K H p xs) (h0 : 0 ≤ k) (h1 : k < (xs.length : Int)) (q : ∀ v, v ∈ xs → Q v H) : rIxL K (.ref p) (.int k) H Q := by
  obtain ⟨v, hv, ha⟩ := atI_mem h0 h1
  exact ⟨p, xs, k, v, rfl, rfl, h, ha, q v hv⟩
theorem rd_ixAny {xs : List V} {p : Addr} {k : Int} (h : SqL K H p xs) (h0 : 0 ≤ k) (h1 : k < (xs.length : Int)) (q : ∀ v, v ∈ xs → Q v H) : rIx K (.ref p) (.int k) H Q := .inl (rd_ixAny1 h h0 h1 q)
theorem rd_ixSany {z : Str} {k : Int} (hz : z.length ≤ 100000) (h0 : 0 ≤ k) (h1 : k < (z.length : Int)) (q : ∀ c, c ∈ z.cps.toList → Q (.str ⟨#[c]⟩) H) : rIxS (.str z) (.int k) H Q := by
  obtain ⟨j, rfl⟩ : ∃ j : Nat, k = (j : Int) := ⟨k.toNat, by omega⟩
  have hl : z.length = z.cps.toList.length := by simp [Str.length]
  have hj : j < z.cps.toList.length := by omega
  exact ⟨z, _, z.cps.toList[j], rfl, rfl, Nat.le_trans hz (by decide), atI_nat (List.getElem?_eq_getElem hj), q _ (List.getElem_mem hj)⟩
/-- a comprehension whose list is set aside while an element is evaluated -/
theorem lcgoF {J : It} {n k : Nat} {G : Hp → Prop} {Y : Nat → Hp → V → Hp → Prop} {te : TE} {vs : List Nat} {H1 : Hp} (w : Walk J n G Y) (hz : n ≤ 100000) (Yx : Nat → V → Prop) (hY : ∀ i H x H', i < n → G H → Y i H x H' → H' = H ∧ Yx i x)
    (hw : ∀ x, wipe ((wipe σ vs).set k (some x)) vs = wipe σ vs) (Pv : Nat → List V → Hp → Prop) (h0 : Pv 0 [] H1) (hG : ∀ i acc H D, i ≤ n → Pv i acc H → H D = none → G (upd H D (.lst acc)))
    (hs : ∀ i x acc H (Qc : VK), i < n → acc.length = i → Pv i acc H → Yx i x → (∀ y H', Pv (i + 1) (acc ++ [y]) H' → Qc y H') → te ((wipe σ vs).set k (some x)) H Qc)
    (hd : ∀ acc H D, acc.length = n → Pv n acc H → H D = none → Q (.ref D) (upd H D (.lst acc))) : LcGo J (gName k) tYes (tFrm te) vs σ H1 Q := by
  refine fun D hD => lc_yes w (fun i acc H => ∃ H0, H = upd H0 D (.lst acc) ∧ H0 D = none ∧ Pv i acc H0) ⟨H1, rfl, hD, h0⟩ (fun i acc H hi ⟨H0, e, hn, p⟩ => e ▸ hG i acc H0 D hi p hn) ?_ ?_
  · rintro i x acc H H' hi hla hDa ⟨H0, rfl, hn, p⟩ y
    obtain ⟨rfl, yx⟩ := hY i _ x H' hi (hG i acc H0 D (Nat.le_of_lt hi) p hn) y
    refine ⟨hw _, D, acc, upd_same, ?_⟩
    rw [wo_upd hn]
    exact hs i x acc H0 _ hi hla p yx fun y H' p' hD' => lcK (acc := acc) upd_same hla hi hz ⟨H', by rw [upd_upd], hD', p'⟩
  · rintro acc H hla hDa ⟨H0, rfl, hn, p⟩
    exact hd acc H0 D hla p hn
theorem walkR_Y {lo : Int} {i : Nat} {H : Hp} {x : V} {H' : Hp} (h : YFn (fun i => .int (lo + (i : Nat))) i H x H') : H' = H ∧ x = .int (lo + (i : Nat)) := h
/-- a comprehension over the signs of a text, its element a function of the sign -/
theorem lcgo_str {te : TE} {vs : List Nat} {k : Nat} {f : Nat → V} {z : Str} (hz : z.length ≤ 100000) (hw : ∀ x, wipe ((wipe σ vs).set k (some x)) vs = wipe σ vs)
    (he : ∀ (c : Nat) (H' : Hp) (Q' : VK), c ∈ z.cps.toList → Q' (f c) H' → te ((wipe σ vs).set k (some (.str ⟨#[c]⟩))) H' Q')
    (hq : ∀ D, H D = none → Q (.ref D) (upd H D (.lst (z.cps.toList.map f)))) : LcGo (Its z) (gName k) tYes (tFrm te) vs σ H Q := by
  have hl : z.cps.size = z.cps.toList.length := by simp
  refine lcgoF walk_str hz (fun i x => ∃ c, z.cps.toList[i]? = some c ∧ x = .str ⟨#[c]⟩) (fun i H x H' _ _ ⟨e, c, hc, hx⟩ => ⟨e, c, by simpa using hc, hx⟩) hw (fun i acc H' => H' = H ∧ acc = (z.cps.toList.take i).map f) ⟨rfl, rfl⟩ (fun _ _ _ _ _ _ _ => trivial) ?_ ?_
  · rintro i x acc H' Qc hin hla ⟨rfl, ha⟩ ⟨c, hc, rfl⟩ hq'
    refine he c _ _ (List.mem_of_getElem? hc) (hq' _ _ ⟨rfl, ?_⟩)
    rw [List.take_add_one, hc, List.map_append, ← ha]
    rfl
  · rintro acc H' D hla ⟨rfl, ha⟩ hD
    have e : z.cps.toList.take z.cps.size = z.cps.toList := List.take_of_length_le (by rw [← hl]; exact Nat.le_refl _)
    rw [e] at ha
    subst ha
    exact hq D hD
theorem rd_all {p : Addr} {bs : List Bool} (h : SqL K H p (bs.map V.bl)) (q : Q (.bl (bs.all id)) H) : rAll K [.ref p] H Q := ⟨p, bs, rfl, h, q⟩
theorem rd_intStr {z : Str} {n : Int} (h : PySem.intText? z = some n) (hz : z.length ≤ 640) (q : Q (.int n) H) : rIntS [.str z] H Q := ⟨z, n, rfl, h, hz, q⟩
theorem rd_strI {i : Int} (h : i.natAbs.log2 < 1920) (q : Q (.str (toString i)) H) : rStrI [.int i] H Q := ⟨i, rfl, h, q⟩
theorem atI0 {α : Type} {a : α} {l : List α} : atI (a :: l) (0 : Int) = some a := atI_nat (j := 0) rfl
theorem atI1 {α : Type} {a b : α} {l : List α} : atI (a :: b :: l) (1 : Int) = some b := atI_nat (j := 1) rfl
theorem atI2 {α : Type} {a b c : α} {l : List α} : atI (a :: b :: c :: l) (2 : Int) = some c := atI_nat (j := 2) rfl
theorem atI3 {α : Type} {a b c d : α} {l : List α} : atI (a :: b :: c :: d :: l) (3 : Int) = some d := atI_nat (j := 3) rfl
theorem atI4 {α : Type} {a b c d e : α} {l : List α} : atI (a :: b :: c :: d :: e :: l) (4 : Int) = some e := atI_nat (j := 4) rfl
theorem atI5 {α : Type} {a b c d e f : α} {l : List α} : atI (a :: b :: c :: d :: e :: f :: l) (5 : Int) = some f := atI_nat (j := 5) rfl
theorem atI6 {α : Type} {a b c d e f g : α} {l : List α} : atI (a :: b :: c :: d :: e :: f :: g :: l) (6 : Int) = some g := atI_nat (j := 6) rfl
theorem atI7 {α : Type} {a b c d e f g h : α} {l : List α} : atI (a :: b :: c :: d :: e :: f :: g :: h :: l) (7 : Int) = some h := atI_nat (j := 7) rfl
theorem sqL_of {K : PySem.W.Frag} {H : Hp} {p : Addr} {xs : List V} (h : H p = some (.lst xs)) : SqL K H p xs := .inl (.inl h)
theorem sqT_of {K : PySem.W.Frag} {H : Hp} {p : Addr} {xs : List V} (h : H p = some (.tup xs)) : SqT K H p xs := .inl (.inl h)
end
end My
local macro_rules | `(tactic| walk_at "sql") => `(tactic| first | assumption | exact My.sqL_of L2.upd_same | (refine My.sqL_of ?_; assumption))
local macro_rules | `(tactic| walk_at "sz") => `(tactic| first | assumption | exact My.small_sz (by omega) | exact My.small_sz (by decide +kernel))
local macro_rules | `(tactic| walk_at "sqt") => `(tactic| first | assumption | exact My.sqT_of L2.upd_same | (refine My.sqT_of ?_; assumption))
local macro_rules | `(tactic| walk_at "ati") => `(tactic| first | with_reducible exact My.atI0 | with_reducible exact My.atI1 | with_reducible exact My.atI2 | with_reducible exact My.atI3 | with_reducible exact My.atI4 | with_reducible exact My.atI5 | with_reducible exact My.atI6 | with_reducible exact My.atI7)
local macro_rules | `(tactic| walk_at "ri") => `(tactic| first | exact ⟨by decide, by decide, by decide⟩ | exact ⟨by decide, by decide +kernel⟩ | exact .inl ⟨by decide, by decide⟩ | exact .inr ⟨by decide, by decide⟩)
local macro_rules | `(tactic| walk_at "rd1") => `(tactic| first
  | (with_reducible refine My.rd_seq ?_)
  | (with_reducible refine My.rd_asg ?_)
  | ((with_reducible refine My.rd_var (v := ?vv) ?hvar ?_); (case hvar => exact rfl))
  | (with_reducible refine My.rd_c ?_)
  | (with_reducible refine My.rd_op ?_)
  | (with_reducible refine My.rd_I0 ?_)
  | ((with_reducible refine My.rd_I ?hri ?_); (case hri => walk_at "ri"))
  | (with_reducible refine My.rd_name ?_)
  | (with_reducible refine My.rd_next ?_)
  | (with_reducible refine My.rd_ret ?_)
  | (with_reducible refine My.rd_retN ?_)
  | (with_reducible refine My.rd_drop ?_)
  | (with_reducible refine My.rd_ifS ?_)
  | (with_reducible refine My.rd_if ?_)
  | (with_reducible refine My.rd_test ?_)
  | (with_reducible refine My.rd_B ?_)
  | (with_reducible refine My.rd_not ?_)
  | (with_reducible refine My.rd_and ?_)
  | (with_reducible refine My.rd_or ?_)
  | (with_reducible refine My.rd_nil ?_)
  | (with_reducible refine My.rd_cons ?_)
  | (with_reducible refine My.rd_cb ?_)
  | (with_reducible refine My.rd_call ?_)
  | (with_reducible refine My.rd_ex_bl ?_)
  | (with_reducible refine L2.iteT ?_)
  | (with_reducible refine L2.iteF ?_)
  | (with_reducible refine My.rd_iteN ?_)
  | (with_reducible refine My.rd_inS ?_)
  | (with_reducible refine My.rd_notInS ?_)
  | (with_reducible refine My.rd_find ?_)
  | (with_reducible refine My.rd_gcons ?_)
  | (with_reducible refine My.rd_gnil ?_)
  | (with_reducible refine My.rd_bm ?_)
  | (with_reducible refine My.rd_isBA ?_)
  | (with_reducible refine My.rd_m1 ?_)
  | (with_reducible refine My.rd_exStr ?_)
  | ((with_reducible refine My.rd_lenS ?hsz ?_); (case hsz => walk_at "sz"))
  | ((with_reducible refine My.rd_lenL (xs := ?xx) ?hsql ?_); (case hsql => walk_at "sql"))
  | ((with_reducible refine My.rd_lenT (xs := ?xx) ?hsql ?_); (case hsql => walk_at "sqt"))
  | (with_reducible refine My.rd_nx ?_)
  | (with_reducible refine My.rd_rt ?_)
  | (with_reducible refine My.rd_lc ?_)
  | (with_reducible refine My.rd_for ?_)
  | (with_reducible refine My.rd_iR1 ?_)
  | (with_reducible refine My.rd_iR2 ?_)
  | (with_reducible refine My.rd_iL ?_)
  | (with_reducible refine My.rd_iT ?_)
  | (with_reducible refine My.rd_iS ?_)
  | (with_reducible refine My.rd_is ?_)
  | (with_reducible refine My.rd_sl ?_)
  | (with_reducible refine My.rd_revL ?_)
  | (with_reducible refine My.rd_nopart ?_)
  | (with_reducible refine My.rd_part ?_)
  | (with_reducible refine My.rd_ex_int ?_)
  | ((with_reducible refine My.rd_slS ?hsz ?_); (case hsz => walk_at "sz"))
  | (with_reducible refine My.rd_un ?_)
  | (with_reducible refine My.rd_U ?_)
  | (with_reducible refine My.rd_chain ?_)
  | (with_reducible refine My.rd_lst ?_)
  | (with_reducible refine My.rd_tup ?_)
  | (with_reducible refine My.rd_andV ?_)
  | (with_reducible refine My.rd_orV ?_)
  | (with_reducible refine My.rd_notV ?_)
  | (with_reducible refine My.rd_sub ?_)
  | ((with_reducible refine My.rd_ixL (v := ?vv) (xs := ?xx) ?hsql ?hati ?_); (case hsql => walk_at "sql"); (case hati => walk_at "ati"))
  | ((with_reducible refine My.rd_ixL1 (v := ?vv) (xs := ?xx) ?hsql ?hati ?_); (case hsql => walk_at "sql"); (case hati => walk_at "ati"))
  | ((with_reducible refine My.rd_ixT (v := ?vv) (xs := ?xx) ?hsql ?hati ?_); (case hsql => walk_at "sqt"); (case hati => walk_at "ati"))
  | ((with_reducible refine My.rd_ixT1 (v := ?vv) (xs := ?xx) ?hsql ?hati ?_); (case hsql => walk_at "sqt"); (case hati => walk_at "ati"))
  | ((with_reducible refine My.rd_eq ?hscal ?_); (case hscal => rfl))
  | ((with_reducible refine My.rd_ne ?hscal ?_); (case hscal => rfl)))
local macro_rules | `(tactic| walk_at "rd") => `(tactic| (repeat' walk_at "rd1"))

/-! ### P0G: defs that are called where no repr is under way (so that repr of lists, tuples, dicts is told), and the law's end for such a def -/
namespace My
open PySem PySem.Spec PyProof.Rows L2
/-- as FnOk, where the guards around are known to be none; no exception leaves the def -/
structure FnOkG (P : Program) (w : World) (K : PySem.W.Frag) (mg : Str → Option Value) (base : Heap) (k : Nat) (f : Addr) (fd : FuncData) (ps : List Str) (sp : Sp) : Prop where
  len : ∀ vs H Q E, sp vs H Q E → vs.length = ps.length
  run : ∀ (A : Around) (outer : List Env) (s : Shared) (H : Hp) (args : Args) (us : List Value) (vs : List V) (Q : VK) (E : XK), A.guards = some [] → Room k A → Env0 P w K mg base A outer s H →
    BindsTo s fd args (ps.zip us) → Vals vs us → sp vs H Q E → codeAny (model P w) A (.call (.ref f) args) (CR CX0 outer P w H s Q E) s
section
variable {P : Program} {w : World} {K : PySem.W.Frag} {mg : Str → Option Value} {base : Heap}
theorem okG {x qual : Str} {st : Stmt} {f : Addr} {fd : FuncData} {N ps : List Str} {k : Nat} {sp : Sp} (F : Fun K x qual st f fd) (S : FnScope N ps (defScope st)) (len : ∀ vs H Q E, sp vs H Q E → vs.length = ps.length)
    (hbody : ∀ (cdv : Value) (A : Around) (outer : List Env) (s : Shared) (H : Hp) (vs : List V) (Q : VK) (E : XK), A.guards = some [] → Room k (A.deeper (envOfC qual (defScope st) s.heap.objs.size f cdv)) → sp vs H Q E →
      ∃ t, PSs (cxOf CX0 P w K mg base N qual (defScope st) f cdv A outer s H E).nox (defBody st) t ∧ t { nx := fun _ H' => Q .non H', rt := Q } (L2.start N vs) H) : FnOkG P w K mg base (k + 1) f fd ps sp := by
  obtain ⟨oc, od, kV, doc, pm, an, cdv, ct, osl, rfl, lk, hcd⟩ := F.ex
  constructor
  · exact len
  intro A outer s H args us vs Q E hguard hroom env bind rel hsp
  have inK : K.In s.heap := env.mod.kin.keeps fun b o e => And.left (env.bs b o e)
  have nolim : s.heap.NoLimit := env.mod.nolimit.keeps fun b o e => And.left (env.bs b o e)
  have kinds : ∀ y ∈ ps.zip us, (defScope st).names.lookup y.1 = some .local ∨ ((defScope st).names.lookup y.1 = some .cell ∧ ((cellsFrom (s.heap.objs.size + 1) (defScope st).names []).lookup y.1).isSome = true) := by
    rintro ⟨n, v⟩ hy
    have hn : n ∈ ps := And.left (List.of_mem_zip hy)
    exact (S.par n hn).imp id fun q => ⟨q, PySem.W.cellsFrom_some _ _ _ (.inl q)⟩
  have cr := PySem.W.codeRec_of inK hcd
  refine codeAny_call_function (Room.depth hroom) (inK _ _ lk) rfl S.co S.gen rfl cr (bind _ _ _ _ ?enter)
  case enter =>
    refine wpAny_newFunctionEnv_cells S.kind kinds ?_
    rintro env' rfl s1 made
    refine ⟨Heap.NoLimit.keeps nolim made.toInCall.keep, ?_⟩
    refine codeAny_func ?_
    obtain ⟨t, drv, rd⟩ := hbody cdv A outer s H vs Q E hguard (Room.deeper hroom _) hsp
    have I0 := inv_start (CX := CX0) (cd := cdv) (A := A) (E := E) S hroom.hd env (len _ _ _ _ hsp) rel made
    refine wpAny_mono (drv.nox.run [] s1 (L2.start N vs) H _ I0 rd) ?_ fun e s' q => q
    intro fl s' q
    cases fl with
    | next =>
      obtain ⟨σ', H', J, z⟩ := q
      exact ⟨V.non, H', J.os, J.bare, J.base, J.hok, rfl, z⟩
    | ret u =>
      obtain ⟨v, σ', H', J, rv, z⟩ := q
      exact ⟨v, H', J.os, J.bare, J.base, J.hok, rv, z⟩
    | brk => exact q.elim fun _ q => q.elim fun _ q => False.elim q.2
    | cont => exact q.elim fun _ q => q.elim fun _ q => False.elim q.2
/-- f(e, ..), f such a def -/
theorem pe_callG {X : Cx} {k : Nat} {f : Addr} {fd : FuncData} {ps : List Str} {sp : Sp} {x : Str} {p pos : Pos} {e : Expr} {es : List Expr} {t : TA} (hG : X.A.guards = some []) (F : FnOkG X.prog X.w X.K X.mg X.base k f fd ps sp) (hr : Room k X.A) (hg : Gl X x)
    (hm : X.mg x = some (.ref f)) (hk : PySem.W.keepIn X.K (.ref f) = true) (hb : Binds X.K fd ps []) (ha : PA X (e :: es) t) (hdb : (x == ("__debug__" : Str)) = false := by decide)
    (he : starEach (e :: es) X.env = (false, eval e X.env) :: starEach es X.env := by rfl) (hpl : (backTo pos (starEach es X.env)).any (·.1) = false := by rfl) : PE X (.Call (.Name x p) (e :: es) [] pos) (tCall sp [] E0 t) := by
  constructor
  intro pins s σ H Q I h
  refine wpAny_Call_Name_kw (ld_glob I hg hm ?go hdb)
  case go =>
    have args := ha.run pos pins s σ H _ I h
    refine PySem.W.callWith_K (h₀ := X.base) I.ok.mod.kin hk (thn args ?then_) he hpl
    rintro us s1 ⟨vs, H1, I1, rel, q⟩
    have q : sp vs H1 Q E0 := by rw [List.append_nil] at q; exact q
    have hl : us.length = ps.length := rel.length.symm.trans (F.len _ _ _ _ q)
    have bind := hb s1 us I1.kIn (by rw [List.append_nil]; exact hl)
    rw [List.append_nil] at bind
    refine ⟨I1.kIn, wpAny_call (codeAny_mono (F.run X.A X.stack s1 H1 ⟨us, []⟩ us vs Q E0 hG hr I1.env0 bind rel q) ?_)⟩
    intro r s2 hq
    match r, hq with
    | .error _, hq => exact False.elim hq
    | .ok (.ret u), hq => exact I1.after hq
    | .ok .next, hq => exact False.elim hq
    | .ok .brk, hq => exact False.elim hq
    | .ok .cont, hq => exact False.elim hq
/-- the script's list in the abstract heap: tracked as it stands, or an object of the written part -/
theorem script_heap {s : Shared} {a : Addr} {vs : List Value} {ns : List Int} (KX : K.In s.heap) (ha : s.heap.get? a = some { cls := .type "list", data := .seq vs.toArray }) (hi : IntsAre vs ns) (hl : ns.length ≤ sizeLine) :
    ∃ H : Hp, Only H ∧ SqL K H a (ns.map V.int) ∧ HOk P w H s.heap ∧ ∀ b u, H b = some u → b = a ∧ K.lookup a = none := by
  have rv := vals_ints hi
  cases hk : K.lookup a with
  | some o =>
    have e := KX a o hk
    rw [ha] at e
    cases e
    have no : ∀ (b : Addr) (u : HO), ¬ (fun _ => none : Hp) b = some u := fun b u z => by
      have z' : (none : Option HO) = some u := z
      cases z'
    refine ⟨fun _ => none, fun _ => .inl rfl, ?_, fun b u z => (no b u z).elim, fun b u z => (no b u z).elim⟩
    exact .inr ⟨_, vs.toArray, _, hk, rfl, rfl, rfl, by rw [List.size_toArray, hi.length]; exact hl, by simpa using rv⟩
  | none =>
    refine ⟨fun b => if b = a then some (.frz { cls := .type "list", data := .seq vs.toArray } (.lst (ns.map V.int))) else none, ?_, .inl (.inr ⟨_, if_pos rfl⟩), ?_, ?_⟩
    · intro b
      by_cases e : b = a
      · exact .inr ⟨_, _, if_pos e⟩
      · exact .inl (if_neg e)
    · intro b u z
      by_cases e : b = a
      · subst e
        cases (if_pos rfl).symm.trans z
        refine ⟨ha, ?_, vs, _, rv, ha⟩
        rw [List.length_map]
        exact hl
      · cases (if_neg e).symm.trans z
    · intro b u z
      by_cases e : b = a
      · exact ⟨e, rfl⟩
      · cases (if_neg e).symm.trans z
/-- the law's def, called at the heap behind the top -/
theorem law_callG {mb : Str → Option Value} {k : Nat} {fa a : Addr} {fd : FuncData} {x : Str} {sp : Sp} {s : Shared} {vs : List Value} {ns : List Int} (KX : K.In s.heap) (hns : s.heap.Ns mainGlobals mg) (hb : s.heap.Ns builtinsNs mb)
    (hbb : ∀ x : Str, x ≠ "__name__" → mb x = bootBuiltins x) (hlim : s.heap.NoLimit) (hg : s.gens = #[]) (ha : s.heap.get? a = some { cls := .type "list", data := .seq vs.toArray }) (hi : IntsAre vs ns) (hl : ns.length ≤ sizeLine) (hr : Room k callerA)
    (F : ∀ base : Heap, K.In base → base.Ns mainGlobals mg → FnOkG P w K mg base k fa fd [x] sp) (hbind : ∀ (s : Shared) (u : Value), BindsTo s fd ⟨[u], []⟩ [(x, u)])
    (hsp : ∀ H : Hp, Only H → SqL K H a (ns.map V.int) → sp [.ref a] H (fun v _ => v = .bl true) fun _ _ _ => False) :
    codeAny (model P w) callerA (.call (.ref fa) ⟨[.ref a], []⟩) (fun r s' => r = .ok (.ret (.bool true)) ∧ OldK s.heap s'.heap ∧ s'.os = s.os ∧ AllBare s'.gens) s := by
  obtain ⟨H, only, seq, hok, at_⟩ := script_heap (P := P) (w := w) KX ha hi hl
  have hid : ∀ {b : Addr} {o : Obj}, s.heap.get? b = some o → (∀ u, H b ≠ some u) → (hidT s.heap H).get? b = some o := fun {b o} e n => hidT_get e (by
    cases q : H b with
    | none => rfl
    | some u => exact (n u q).elim)
  have nodict : ∀ {b : Addr} {o : Obj} {es : Array DictEntry} {ep : Nat}, s.heap.get? b = some o → o.data = .dict es ep → ∀ u, H b ≠ some u := fun {b o es ep} e d u q => by
    have eb := (at_ b u q).1
    subst eb
    rw [ha] at e
    cases e
    cases (show Data.seq vs.toArray _ = Data.dict es ep from d)
  have names : ∀ {b : Addr} {m : Str → Option Value}, s.heap.Ns b m → (hidT s.heap H).Ns b m := by
    rintro b m ⟨o, es, ep, e, d, r⟩
    exact ⟨o, es, ep, hid e (nodict e d), d, r⟩
  have inK : K.In (hidT s.heap H) := by
    intro b o e
    refine hid (KX b o e) fun u q => ?_
    obtain ⟨eb, ek⟩ := at_ b u q
    rw [← eb, e] at ek
    cases ek
  have md : Mod K mg (hidT s.heap H) := by
    obtain ⟨mc, h1, h2⟩ := hlim
    exact ⟨inK, names hns, ⟨mb, names hb, hbb⟩, mc, names h1, h2⟩
  have env : Env0 P w K mg (hidT s.heap H) callerA [] s H := by
    refine ⟨rfl, md, ?_, Nat.le_of_eq (hidT_size _ _), trivial, fun b hb => absurd hb (List.not_mem_nil (a := b)), hok, .of_eq hg⟩
    exact fun b o e => of_hidT e
  have run := (F _ inK (names hns)).run callerA [] s H ⟨[.ref a], []⟩ [.ref a] [.ref a] _ _ rfl hr env (hbind s (.ref a)) (.cons rfl .nil) (hsp H only seq)
  refine codeAny_mono run ?_
  intro r s' h
  match r, h with
  | .error _, h => exact False.elim h
  | .ok .next, h => exact False.elim h
  | .ok .brk, h => exact False.elim h
  | .ok .cont, h => exact False.elim h
  | .ok (.ret u), h =>
    obtain ⟨v, H', os, bare, un, hok', rel, rfl⟩ := h
    cases (show u = Value.bool true from rel)
    refine ⟨rfl, OldK.of_keep ?_, os, bare⟩
    intro b o e
    cases q : H b with
    | none => exact un.keep b o e q (List.not_mem_nil (a := b)) (List.not_mem_nil (a := b))
    | some u =>
      rcases only b with z | ⟨ob, xs, z⟩
      · rw [q] at z
        cases z
      · have g1 := (hok b _ z).1
        have g2 := (hok' b _ (un.frzs b ob _ z)).1
        rw [g1] at e
        cases e
        exact g2
end
theorem walk_ofG {l : PySem.W.OpenLaw} {n k : Nat} {q : Program} {loose : List Str} {XP : (Str → Option Value) → Heap → Prop} {YP : World → Heap → Prop} {d : DefRec} {K : Params → PySem.W.Frag} {sp : World → Sp} {x : Str} (hn : l.most = some n) (hn2 : n ≤ sizeLine)
    (hdf : d.params.defaults = []) (hr : Room k callerA) (hY : ∀ (w : World) (h : Heap), YP w h → (K w.params).In h)
    (F : ∀ (w : World) (mg : Str → Option Value) (fa : Addr) (h : Heap), (K w.params).In h → h.Ns mainGlobals mg → mg d.name = some (.ref fa) →
      ∃ fd : FuncData, (∀ (s : Shared) (u : Value), BindsTo s fd ⟨[u], []⟩ [(x, u)]) ∧ ∀ base : Heap, (K w.params).In base → base.Ns mainGlobals mg → FnOkG l.prog w (K w.params) mg base k fa fd [x] (sp w))
    (hsp : ∀ (w : World) (H : Hp) (a : Addr) (ns : List Int), ns.length ≤ n → (∀ z ∈ ns, Builtin.Int.intBits z ≤ 1048576) → Only H → SqL (K w.params) H a (ns.map V.int) → sp w [.ref a] H (fun v _ => v = .bl true) fun _ _ _ => False) :
    PySem.W.WalkO q loose XP YP l.row.toRowW d [] (fun f vs => PySem.call f vs) := by
  refine Att.attach_callB hn hdf ?_
  intro w s0 s1 mg mb fa o pm cd doc a vs ns G Y _ _ _ hmg hobj hints hlen hbits hgens
  have KX := hY w _ Y
  obtain ⟨fd, hb, hF⟩ := F w mg fa _ KX G.T.g hmg
  exact law_callG KX G.T.g G.T.b G.T.builtins G.T.nolimit hgens hobj hints (Nat.le_trans hlen hn2) hr hF hb fun H hO hS => hsp w H a ns hlen hbits hO hS
/-! #### repr of data -/
mutual
theorem dp_nodict {K : PySem.W.Frag} {H : Hp} : ∀ (d : PyData) (v : V), Dp K H v d → d.hasDict = false
  | .none, _, _ => by simp only [PyData.hasDict]
  | .bool _, _, _ => by simp only [PyData.hasDict]
  | .int _, _, _ => by simp only [PyData.hasDict]
  | .str _, _, _ => by simp only [PyData.hasDict]
  | .list ds, _, h => by
    cases h with
    | lst _ ha =>
      simp only [PyData.hasDict]
      exact dp_nodictAll ds _ ha
  | .tuple ds, _, h => by
    cases h with
    | tup _ ha =>
      simp only [PyData.hasDict]
      exact dp_nodictAll ds _ ha
  | .dict _, _, h => by cases h
theorem dp_nodictAll {K : PySem.W.Frag} {H : Hp} : ∀ (ds : List PyData) (vs : List V), DpAll K H vs ds → PyData.hasDictAll ds = false
  | [], _, _ => by simp only [PyData.hasDictAll]
  | d :: ds, _, h => by
    cases h with
    | cons h1 h2 => simp only [PyData.hasDictAll, dp_nodict d _ h1, dp_nodictAll ds _ h2, Bool.or_self]
end
def rReprD (K : PySem.W.Frag) : List V → Hp → VK → Prop := fun xs H Q => ∃ v d, xs = [v] ∧ Dp K H v d ∧ d.showable = true ∧ d.depth ≤ 60 ∧ d.shown.length ≤ 10000000 ∧ Q (.str d.shown) H
theorem reprD {X : Cx} {K : PySem.W.Frag} (hK : X.K = K) (hG : X.A.guards = some []) (hu : X.A.units + 64 < cLine) : CallR X (.builtin "repr") (rReprD K) := by
  subst hK
  intro pins s σ H xs us Q I r h
  obtain ⟨v, d, rfl, hd, hs, hdep, hlen, q⟩ := h
  obtain ⟨u, rfl, r1⟩ := vals1 r
  have hlen' : d.shown.length ≤ sizeLine := Nat.le_trans hlen (by decide)
  cases v with
  | ref a =>
    cases (show u = Value.ref a from r1)
    obtain ⟨as, rd⟩ := Dp.reads I d (.ref a) (.ref a) hd rfl
    refine repr_of_reads' rd hs (PyData.noDict_hsm (dp_nodict d _ hd)) hG (by omega) (fun b o e => e) (fun h' u tk keep => ?_) hlen'
    exact ⟨.str _, H, I.kept (t' := tk) keep, ⟨_, rfl⟩, q⟩
  | non =>
    cases hd
    cases (show u = Value.none from r1)
    simp only [PyData.shown] at q
    exact PySem.P.repr_of_none ⟨.str _, H, I.tok _, ⟨_, rfl⟩, q⟩
  | bl b =>
    cases hd
    cases (show u = Value.bool b from r1)
    simp only [PyData.shown] at q
    refine PySem.P.repr_of_bool ⟨.str _, H, I.tok _, ⟨_, rfl⟩, ?_⟩
    cases b <;> exact q
  | int i =>
    cases hd
    obtain ⟨t', rfl⟩ := (show ∃ t, u = Value.int i t from r1)
    simp only [PyData.shown] at q
    simp only [PyData.showable, decide_eq_true_eq] at hs
    exact PySem.P.repr_of_int hs ⟨.str _, H, I.tok _, ⟨_, rfl⟩, q⟩
  | str x =>
    cases hd
    obtain ⟨t', rfl⟩ := (show ∃ t, u = Value.str x t from r1)
    simp only [PyData.shown] at q hlen'
    exact PySem.P.repr_of_str ⟨.str _, H, I.tok _, ⟨_, rfl⟩, q⟩ hlen'
  | byt _ => cases hd
  | flt _ => cases hd
  | ty _ => cases hd
theorem rd_reprD {K : PySem.W.Frag} {H : Hp} {Q : VK} {v : V} {d : PyData} (hd : Dp K H v d) (h1 : d.showable = true) (h2 : d.depth ≤ 60) (h3 : d.shown.length ≤ 10000000) (q : Q (.str d.shown) H) : rReprD K [v] H Q := ⟨v, d, rfl, hd, h1, h2, h3, q⟩
theorem dp_tup {K : PySem.W.Frag} {H : Hp} {p : Addr} {xs : List V} {ds : List PyData} (h : H p = some (.tup xs)) (a : DpAll K H xs ds) : Dp K H (.ref p) (.tuple ds) := .tup (sqT_of h) a
theorem dp_lst {K : PySem.W.Frag} {H : Hp} {p : Addr} {xs : List V} {ds : List PyData} (h : H p = some (.lst xs)) (a : DpAll K H xs ds) : Dp K H (.ref p) (.list ds) := .lst (sqL_of h) a
mutual
theorem dp_same {K : PySem.W.Frag} {H H' : Hp} (e : ∀ b o, H b = some o → H' b = some o) : ∀ (d : PyData) (v : V), Dp K H v d → Dp K H' v d
  | .none, _, h => by cases h; exact .non
  | .bool b, _, h => by cases h; exact .bl b
  | .int i, _, h => by cases h; exact .int i
  | .str x, _, h => by cases h; exact .str x
  | .list ds, _, h => by
    cases h with
    | lst hs ha =>
      refine .lst ?_ (dp_sameAll e ds _ ha)
      rcases hs with (h | ⟨o, h⟩) | h
      · exact .inl (.inl (e _ _ h))
      · exact .inl (.inr ⟨o, e _ _ h⟩)
      · exact .inr h
  | .tuple ds, _, h => by
    cases h with
    | tup hs ha =>
      refine .tup ?_ (dp_sameAll e ds _ ha)
      rcases hs with (h | ⟨o, h⟩) | h
      · exact .inl (.inl (e _ _ h))
      · exact .inl (.inr ⟨o, e _ _ h⟩)
      · exact .inr h
  | .dict _, _, h => by cases h
theorem dp_sameAll {K : PySem.W.Frag} {H H' : Hp} (e : ∀ b o, H b = some o → H' b = some o) : ∀ (ds : List PyData) (vs : List V), DpAll K H vs ds → DpAll K H' vs ds
  | [], _, h => by cases h; exact .nil
  | d :: ds, _, h => by
    cases h with
    | cons h1 h2 => exact .cons (dp_same e d _ h1) (dp_sameAll e ds _ h2)
end
end My

/-! ### P0E: == and != of nested lists, tuples, objects (by identity), flat values: what comes of it, as it comes -/
namespace My
open PySem PySem.Spec PyProof.Rows L2
/-- two sequences -/
def EqS (K : PySem.W.Frag) (H : Hp) (E : V → V → Bool → Prop) (x y : V) (c : Bool) : Prop :=
  (∃ (a b : Addr) (xs ys : List V) (e : Nat → Bool), x = .ref a ∧ y = .ref b ∧ SqL K H a xs ∧ SqL K H b ys ∧ (a ≠ b ∨ c = true) ∧ xs.length = ys.length ∧ (∀ j u v, xs[j]? = some u → ys[j]? = some v → E u v (e j)) ∧ c = (List.range xs.length).all e) ∨
  (∃ (a b : Addr) (xs ys : List V) (e : Nat → Bool), x = .ref a ∧ y = .ref b ∧ SqT K H a xs ∧ SqT K H b ys ∧ (a ≠ b ∨ c = true) ∧ (∀ j u v, xs[j]? = some u → ys[j]? = some v → E u v (e j)) ∧ c = ((List.range (min xs.length ys.length)).all e && xs.length == ys.length)) ∨
  (∃ (a b : Addr) (xs ys : List V), x = .ref a ∧ y = .ref b ∧ SqL K H a xs ∧ SqL K H b ys ∧ a ≠ b ∧ xs.length ≠ ys.length ∧ c = false)
/-- what x == y comes to, of nesting below n -/
def EqQ (K : PySem.W.Frag) (H : Hp) : Nat → V → V → Bool → Prop
  | 0 => fun _ _ _ => False
  | n + 1 => fun x y c => (flatV x = true ∧ flatV y = true ∧ c = eqV x y) ∨ (∃ a, x = .ref a ∧ y = .ref a ∧ c = true) ∨ EqS K H (EqQ K H n) x y c
theorem rc_atQ {prog : Program} {w : World} {A : Around} {s : Shared} {a b : Value} {k : Bool} {E Q : Value → Shared → Prop} (h : SeqAt.RcAt A s a b k) (q : Q (.bool k) s) : wpAny (model prog w) A (compareOp .Eq a b) Q E s := h prog w E Q q
section
variable {X : Cx} {pins : List (Addr × Obj)} {σ : L2.St} {H : Hp} {s : Shared}
theorem vals_at {xs : List V} {us : List Value} (h : Vals xs us) : ∀ (j : Nat) (x : V) (u : Value), xs[j]? = some x → us[j]? = some u → RelV x u := by
  induction h with
  | nil => exact fun _ _ _ e _ => nomatch e
  | cons r _ ih =>
    intro j x u e1 e2
    cases j with
    | zero =>
      cases e1
      cases e2
      exact r
    | succ j => exact ih j x u e1 e2
theorem get_of {α : Type} {l : List α} {j : Nat} (h : j < l.length) : l[j]? = some l[j] := List.getElem?_eq_getElem h
theorem eqS_run (I : Inv X pins σ H s) {A : Around} {F : V → V → Bool → Prop} (hu : A.units < cLine) (ih : ∀ x y v u c, F x y c → RelV x v → RelV y u → SeqAt.EqAt A.in1 s v u c) {x y : V} {v u : Value} {c : Bool} (h : EqS X.K H F x y c) (rx : RelV x v) (ry : RelV y u) :
    SeqAt.RcAt A s v u c ∧ SeqAt.RcNeAt A s v u (!c) := by
  have items : ∀ {xs ys : List V} {us ws : List Value} {e : Nat → Bool}, Vals xs us → Vals ys ws → (∀ j a b, xs[j]? = some a → ys[j]? = some b → F a b (e j)) → ∀ j (h1 : j < us.toArray.size) (h2 : j < ws.toArray.size), SeqAt.EqAt A.in1 s us.toArray[j] ws.toArray[j] (e j) := by
    intro xs ys us ws e r1 r2 hp j h1 h2
    have l1 : j < xs.length := by rw [r1.length]; simpa using h1
    have l2 : j < ys.length := by rw [r2.length]; simpa using h2
    have q1 := vals_at r1 j _ us[j] (get_of l1) (get_of (by simpa using h1))
    have q2 := vals_at r2 j _ ws[j] (get_of l2) (get_of (by simpa using h2))
    exact ih _ _ _ _ _ (hp j _ _ (get_of l1) (get_of l2)) q1 q2
  rcases h with ⟨a, b, xs, ys, e, rfl, rfl, ha, hb, hn, hl, hp, rfl⟩ | ⟨a, b, xs, ys, e, rfl, rfl, ha, hb, hn, hp, rfl⟩ | ⟨a, b, xs, ys, rfl, rfl, ha, hb, hn, hl, rfl⟩
  · cases (show v = Value.ref a from rx)
    cases (show u = Value.ref b from ry)
    obtain ⟨us, r1, p1, _⟩ := I.list ha
    obtain ⟨ws, r2, p2, _⟩ := I.list hb
    have hsz : us.toArray.size = ws.toArray.size := by
      rw [List.size_toArray, List.size_toArray, ← r1.length, ← r2.length]
      exact hl
    have z1 := SeqAt.RcAt.lists p1.isList p2.isList hsz hu (items r1 r2 hp)
    have z2 := SeqAt.RcNeAt.lists p1.isList p2.isList hsz hu (items r1 r2 hp)
    rw [List.size_toArray, ← r1.length] at z1 z2
    exact ⟨z1, z2⟩
  · cases (show v = Value.ref a from rx)
    cases (show u = Value.ref b from ry)
    obtain ⟨us, r1, p1, _⟩ := I.tuple ha
    obtain ⟨ws, r2, p2, _⟩ := I.tuple hb
    have z1 := SeqAt.RcAt.tuples p1 p2 hu (items r1 r2 hp)
    have z2 := SeqAt.RcNeAt.tuples p1 p2 hu (items r1 r2 hp)
    rw [List.size_toArray, List.size_toArray, ← r1.length, ← r2.length] at z1 z2
    exact ⟨z1, z2⟩
  · cases (show v = Value.ref a from rx)
    cases (show u = Value.ref b from ry)
    obtain ⟨us, r1, p1, _⟩ := I.list ha
    obtain ⟨ws, r2, p2, _⟩ := I.list hb
    have hsz : (us.toArray.size != ws.toArray.size) = true := by
      rw [List.size_toArray, List.size_toArray, ← r1.length, ← r2.length]
      simpa using hl
    exact ⟨SeqAt.RcAt.lists_lengths p1.isList p2.isList hsz hu, SeqAt.RcNeAt.lists_lengths p1.isList p2.isList hsz hu⟩
theorem eqQ_run (I : Inv X pins σ H s) : ∀ (n : Nat) (A : Around), A.units + n < cLine → ∀ (x y : V) (v u : Value) (c : Bool), EqQ X.K H n x y c → RelV x v → RelV y u → SeqAt.EqAt A s v u c
  | 0, _, _, _, _, _, _, _, h, _, _ => (show False from h).elim
  | n + 1, A, hu, x, y, v, u, c, h, rx, ry => by
    rcases h with ⟨f1, f2, rfl⟩ | ⟨a, rfl, rfl, rfl⟩ | h
    · exact eqAt_V rx ry f1 f2
    · cases (show v = Value.ref a from rx)
      cases (show u = Value.ref a from ry)
      exact SeqAt.EqAt.same _
    · have step := (eqS_run I (A := A) (by omega) (eqQ_run I n A.in1 (by show A.units + 1 + n < cLine; omega)) h rx ry).1
      obtain ⟨a, b, rfl, rfl, hab⟩ : ∃ a b, x = .ref a ∧ y = .ref b ∧ (a ≠ b ∨ c = true) := by
        rcases h with ⟨a, b, _, _, _, e1, e2, _, _, h, _⟩ | ⟨a, b, _, _, _, e1, e2, _, _, h, _⟩ | ⟨a, b, _, _, e1, e2, _, _, h, _⟩
        · exact ⟨a, b, e1, e2, h⟩
        · exact ⟨a, b, e1, e2, h⟩
        · exact ⟨a, b, e1, e2, .inl h⟩
      cases (show v = Value.ref a from rx)
      cases (show u = Value.ref b from ry)
      by_cases e : a = b
      · subst e
        rcases hab with h | rfl
        · exact absurd rfl h
        · exact SeqAt.EqAt.same _
      · exact SeqAt.EqAt.of_refs e step
end
section
variable {X : Cx} {K : PySem.W.Frag}
def rEqW (K : PySem.W.Frag) : R2 := fun x y H Q => ∃ n c, n ≤ 60 ∧ EqS K H (EqQ K H n) x y c ∧ Q (.bl c) H
def rNeW (K : PySem.W.Frag) : R2 := fun x y H Q => ∃ n c, n ≤ 60 ∧ EqS K H (EqQ K H n) x y c ∧ Q (.bl (!c)) H
theorem eqW (h : X.K = K) (hu : X.A.units + 64 < cLine) : OpR X (compareOp .Eq) (rEqW K) := by
  subst h
  intro pins s σ H x y v u Q I rx ry h
  obtain ⟨n, c, hn, h, q⟩ := h
  exact (eqS_run I (A := X.A) (by omega) (eqQ_run I n X.A.in1 (by show X.A.units + 1 + n < cLine; omega)) h rx ry).1 _ _ _ _ ⟨.bl c, H, I, rfl, q⟩
theorem neW (h : X.K = K) (hu : X.A.units + 64 < cLine) : OpR X (compareOp .NotEq) (rNeW K) := by
  subst h
  intro pins s σ H x y v u Q I rx ry h
  obtain ⟨n, c, hn, h, q⟩ := h
  exact (eqS_run I (A := X.A) (by omega) (eqQ_run I n X.A.in1 (by show X.A.units + 1 + n < cLine; omega)) h rx ry).2 _ _ _ _ ⟨.bl (!c), H, I, rfl, q⟩
end
/-! #### alike: what compares equal -/
/-- equal, of nesting below n -/
def Alk (K : PySem.W.Frag) (H : Hp) (n : Nat) (x y : V) : Prop := EqQ K H n x y true
def AlkAll (K : PySem.W.Frag) (H : Hp) (n : Nat) (xs ys : List V) : Prop := xs.length = ys.length ∧ ∀ (j : Nat) (u v : V), xs[j]? = some u → ys[j]? = some v → Alk K H n u v
section
variable {K : PySem.W.Frag} {H : Hp} {n : Nat}
theorem Alk.flat {x : V} (h : flatV x = true) : Alk K H (n + 1) x x := .inl ⟨h, h, by
  cases x with
  | non => rfl
  | bl b => exact (beq_self_eq_true b).symm
  | int i => exact (beq_self_eq_true i).symm
  | str z => exact (beq_self_eq_true z).symm
  | _ => cases h⟩
theorem Alk.ref {a : Addr} : Alk K H (n + 1) (.ref a) (.ref a) := .inr (.inl ⟨a, rfl, rfl, rfl⟩)
theorem all_true (k : Nat) : true = (List.range k).all fun _ => true := (List.all_eq_true.mpr fun _ _ => rfl).symm
theorem eqS_lst {a b : Addr} {xs ys : List V} (ha : SqL K H a xs) (hb : SqL K H b ys) (h : AlkAll K H n xs ys) : EqS K H (EqQ K H n) (.ref a) (.ref b) true :=
  .inl ⟨a, b, xs, ys, fun _ => true, rfl, rfl, ha, hb, .inr rfl, h.1, h.2, all_true _⟩
theorem eqS_tup {a b : Addr} {xs ys : List V} (ha : SqT K H a xs) (hb : SqT K H b ys) (h : AlkAll K H n xs ys) : EqS K H (EqQ K H n) (.ref a) (.ref b) true :=
  .inr (.inl ⟨a, b, xs, ys, fun _ => true, rfl, rfl, ha, hb, .inr rfl, h.2, by rw [← all_true, h.1, beq_self_eq_true]; rfl⟩)
theorem Alk.lst {a b : Addr} {xs ys : List V} (ha : SqL K H a xs) (hb : SqL K H b ys) (h : AlkAll K H n xs ys) : Alk K H (n + 1) (.ref a) (.ref b) := .inr (.inr (eqS_lst ha hb h))
theorem Alk.tup {a b : Addr} {xs ys : List V} (ha : SqT K H a xs) (hb : SqT K H b ys) (h : AlkAll K H n xs ys) : Alk K H (n + 1) (.ref a) (.ref b) := .inr (.inr (eqS_tup ha hb h))
theorem AlkAll.nil : AlkAll K H n [] [] := ⟨rfl, fun _ _ _ h => nomatch h⟩
theorem AlkAll.cons {x y : V} {xs ys : List V} (h : Alk K H n x y) (r : AlkAll K H n xs ys) : AlkAll K H n (x :: xs) (y :: ys) := ⟨by rw [List.length_cons, List.length_cons, r.1], fun j u v e1 e2 => by
  cases j with
  | zero =>
    cases e1
    cases e2
    exact h
  | succ j => exact r.2 j u v e1 e2⟩
theorem AlkAll.flat {xs : List V} (h : ∀ x ∈ xs, flatV x = true) : AlkAll K H (n + 1) xs xs := ⟨rfl, fun j u v e1 e2 => by
  cases e1.symm.trans e2
  exact Alk.flat (h _ (List.mem_of_getElem? e1))⟩
theorem rd_eqW {Q : VK} {x y : V} (h : EqS K H (EqQ K H n) x y true) (q : Q (.bl true) H) (hn : n ≤ 60 := by decide) : rEqW K x y H Q := ⟨n, true, hn, h, q⟩
theorem rd_neW {Q : VK} {x y : V} (h : EqS K H (EqQ K H n) x y true) (q : Q (.bl false) H) (hn : n ≤ 60 := by decide) : rNeW K x y H Q := ⟨n, true, hn, h, q⟩
theorem rd_eqWF {Q : VK} {x y : V} (h : EqS K H (EqQ K H n) x y false) (q : Q (.bl false) H) (hn : n ≤ 60 := by decide) : rEqW K x y H Q := ⟨n, false, hn, h, q⟩
theorem rd_neWF {Q : VK} {x y : V} (h : EqS K H (EqQ K H n) x y false) (q : Q (.bl true) H) (hn : n ≤ 60 := by decide) : rNeW K x y H Q := ⟨n, false, hn, h, q⟩
/-- lists, tuples of unlike lengths -/
theorem eqS_len {a b : Addr} {xs ys : List V} (ha : SqL K H a xs) (hb : SqL K H b ys) (h : a ≠ b) (l : xs.length ≠ ys.length) : EqS K H (EqQ K H n) (.ref a) (.ref b) false := .inr (.inr ⟨a, b, xs, ys, rfl, rfl, ha, hb, h, l, rfl⟩)
end
end My

/-! ### P0F: comprehensions with a test; zip of a tuple with a list -/
namespace My
open PySem PySem.Spec PyProof.Rows L2
section
variable {K : PySem.W.Frag} {σ : L2.St} {Q : VK}
/-- the list under construction is set aside while an element is evaluated, not while the test is -/
theorem lcgoT {J : It} {n k : Nat} {G : Hp → Prop} {Y : Nat → Hp → V → Hp → Prop} {te : TE} {tt : TT} {vs : List Nat} {H1 : Hp} (w : Walk J n G Y) (hz : n ≤ 100000) (Yx : Nat → V → Prop) (hY : ∀ i H x H', i < n → G H → Y i H x H' → H' = H ∧ Yx i x)
    (hw : ∀ x, wipe ((wipe σ vs).set k (some x)) vs = wipe σ vs) (Pv : Nat → List V → Hp → Prop) (h0 : Pv 0 [] H1) (hG : ∀ i acc H D, i ≤ n → Pv i acc H → H D = none → G (upd H D (.lst acc)))
    (hs : ∀ i x acc H D, i < n → acc.length ≤ i → Pv i acc H → H D = none → Yx i x → ∃ b : Bool, (∀ P : Bool → Hp → Prop, P b (upd H D (.lst acc)) → tt ((wipe σ vs).set k (some x)) (upd H D (.lst acc)) P) ∧ (b = false → Pv (i + 1) acc H) ∧
      (b = true → ∀ Qc : VK, (∀ y H', Pv (i + 1) (acc ++ [y]) H' → Qc y H') → te ((wipe σ vs).set k (some x)) H Qc))
    (hd : ∀ acc H D, acc.length ≤ n → Pv n acc H → H D = none → Q (.ref D) (upd H D (.lst acc))) : LcGo J (gName k) tt (tFrm te) vs σ H1 Q := by
  refine fun D hD => lc_it w (fun i H => ∃ acc H0, acc.length ≤ i ∧ H = upd H0 D (.lst acc) ∧ H0 D = none ∧ Pv i acc H0) ⟨[], H1, Nat.le_refl _, rfl, hD, h0⟩ (fun i H hi ⟨acc, H0, _, e, hn, p⟩ => e ▸ hG i acc H0 D hi p hn) ?_ ?_
  · rintro i x H H' hi ⟨acc, H0, hla, rfl, hn, p⟩ y
    obtain ⟨rfl, yx⟩ := hY i _ x H' hi (hG i acc H0 D (Nat.le_of_lt hi) p hn) y
    refine ⟨hw _, ?_⟩
    obtain ⟨b, ht, hf, hy⟩ := hs i x acc H0 D hi hla p hn yx
    refine ht _ ?_
    cases b with
    | false => exact iteF ⟨acc, H0, by omega, rfl, hn, hf rfl⟩
    | true =>
      refine iteT ⟨D, acc, upd_same, ?_⟩
      rw [wo_upd hn]
      refine hy rfl _ fun y H' p' hD' => ⟨acc, upd_same, Nat.lt_of_lt_of_le (show acc.length < 100000 by omega) (by decide), acc ++ [y], H', by rw [List.length_append]; show acc.length + 1 ≤ i + 1; omega, by rw [upd_upd], hD', p'⟩
  · rintro H ⟨acc, H0, hla, rfl, hn, p⟩
    exact hd acc H0 D hla p hn
/-- .. its test, its element functions of the item -/
theorem lcgo_filt {J : It} {n k : Nat} {G : Hp → Prop} {Y : Nat → Hp → V → Hp → Prop} {te : TE} {tt : TT} {vs : List Nat} {H1 : Hp} {xs : List V} (w : Walk J n G Y) (hn : xs.length = n) (hz : n ≤ 100000) (f : V → Bool) (g : V → V) (hY : ∀ i H x H', i < n → G H → Y i H x H' → H' = H ∧ xs[i]? = some x)
    (hw : ∀ x, wipe ((wipe σ vs).set k (some x)) vs = wipe σ vs) (hG : ∀ acc D, H1 D = none → G (upd H1 D (.lst acc)))
    (ht : ∀ x ∈ xs, ∀ acc D (P : Bool → Hp → Prop), H1 D = none → P (f x) (upd H1 D (.lst acc)) → tt ((wipe σ vs).set k (some x)) (upd H1 D (.lst acc)) P)
    (he : ∀ x ∈ xs, f x = true → ∀ Q' : VK, Q' (g x) H1 → te ((wipe σ vs).set k (some x)) H1 Q')
    (hq : ∀ D, H1 D = none → Q (.ref D) (upd H1 D (.lst ((xs.filter f).map g)))) : LcGo J (gName k) tt (tFrm te) vs σ H1 Q := by
  refine lcgoT w hz (fun i x => xs[i]? = some x) hY hw (fun i acc H => H = H1 ∧ acc = ((xs.take i).filter f).map g) ⟨rfl, rfl⟩ (fun i acc H D _ p hD => by rw [p.1] at hD ⊢; exact hG acc D hD) ?_ ?_
  · rintro i x acc H D hi hla ⟨rfl, rfl⟩ hD hx
    have hm := List.mem_of_getElem? hx
    have e : xs.take (i + 1) = xs.take i ++ [x] := by rw [List.take_add_one, hx]; rfl
    refine ⟨f x, fun P p => ht x hm _ D P hD p, fun hf => ⟨rfl, ?_⟩, fun hf Qc hq' => he x hm hf _ (hq' _ _ ⟨rfl, ?_⟩)⟩
    · rw [e, List.filter_append, List.filter_cons, hf]
      simp
    · rw [e, List.filter_append, List.filter_cons, hf]
      simp
  · rintro acc H D hla ⟨rfl, rfl⟩ hD
    have e : xs.take n = xs := List.take_of_length_le (by omega)
    rw [e]
    exact hq D hD
/-- .. over the signs of a text -/
theorem lcgo_fstr {te : TE} {tt : TT} {vs : List Nat} {k : Nat} {z : Str} {H : Hp} (f : Nat → Bool) (g : Nat → V) (hz : z.length ≤ 100000) (hw : ∀ x, wipe ((wipe σ vs).set k (some x)) vs = wipe σ vs)
    (ht : ∀ (c : Nat) (H' : Hp) (P : Bool → Hp → Prop), c ∈ z.cps.toList → P (f c) H' → tt ((wipe σ vs).set k (some (.str ⟨#[c]⟩))) H' P)
    (he : ∀ (c : Nat) (H' : Hp) (Q' : VK), c ∈ z.cps.toList → f c = true → Q' (g c) H' → te ((wipe σ vs).set k (some (.str ⟨#[c]⟩))) H' Q')
    (hq : ∀ D, H D = none → Q (.ref D) (upd H D (.lst ((z.cps.toList.filter f).map g)))) : LcGo (Its z) (gName k) tt (tFrm te) vs σ H Q := by
  have hl : z.cps.size = z.cps.toList.length := by simp
  refine lcgoT walk_str hz (fun i x => ∃ c, z.cps.toList[i]? = some c ∧ x = .str ⟨#[c]⟩) (fun i H x H' _ _ ⟨e, c, hc, hx⟩ => ⟨e, c, by simpa using hc, hx⟩) hw (fun i acc H' => H' = H ∧ acc = ((z.cps.toList.take i).filter f).map g) ⟨rfl, rfl⟩ (fun _ _ _ _ _ _ _ => trivial) ?_ ?_
  · rintro i x acc H' D hi hla ⟨rfl, rfl⟩ hD ⟨c, hc, rfl⟩
    have hm := List.mem_of_getElem? hc
    have e : z.cps.toList.take (i + 1) = z.cps.toList.take i ++ [c] := by rw [List.take_add_one, hc]; rfl
    refine ⟨f c, fun P p => ht c _ P hm p, fun hf => ⟨rfl, ?_⟩, fun hf Qc hq' => he c _ _ hm hf (hq' _ _ ⟨rfl, ?_⟩)⟩
    · rw [e, List.filter_append, List.filter_cons, hf]
      simp
    · rw [e, List.filter_append, List.filter_cons, hf]
      simp
  · rintro acc H' D hla ⟨rfl, rfl⟩ hD
    have e : z.cps.toList.take z.cps.size = z.cps.toList := List.take_of_length_le (by rw [← hl]; exact Nat.le_refl _)
    rw [e]
    exact hq D hD
end
end My

/-! ### P0Z: zip of two sources, each a list, a tuple or a text -/
namespace My
open PySem PySem.Spec PyProof.Rows L2
inductive Src where
  | L (a : Addr)
  | T (a : Addr)
  | S (z : Str)
def Src.v : Src → V
  | .L a => .ref a
  | .T a => .ref a
  | .S z => .str z
def signsV (z : Str) : List V := z.cps.toList.map fun c => V.str ⟨#[c]⟩
/-- the items of a source -/
def SrcAt (K : PySem.W.Frag) (H : Hp) : Src → List V → Prop
  | .L a, xs => SqL K H a xs
  | .T a, xs => SqT K H a xs
  | .S z, xs => xs = signsV z
/-- an iterator over a source, at its turn k -/
def Iat (t : Tok) (it : Addr) (k : Nat) (h : Heap) : Src → Prop
  | .L a => h.IsListIter it a k
  | .T a => h.IsTupleIter it a k
  | .S z => h.IsStrIter it (strIterType z) z t k
/-- a source stands apart from an address -/
def Src.off (s : Src) (b : Addr) : Prop := ∀ a, s.v = .ref a → a ≠ b
theorem Iat.obj {t : Tok} {it : Addr} {k : Nat} {h : Heap} : ∀ {s : Src}, Iat t it k h s → ∃ o, h.get? it = some o ∧ ∀ v, o.data ≠ .cell v
  | .L _, ⟨o, e, _, d⟩ => ⟨o, e, fun v q => by rw [d] at q; cases q⟩
  | .T _, ⟨o, e, _, d⟩ => ⟨o, e, fun v q => by rw [d] at q; cases q⟩
  | .S _, ⟨o, e, _, d⟩ => ⟨o, e, fun v q => by rw [d] at q; cases q⟩
theorem Iat.at {t : Tok} {it : Addr} {k : Nat} {h h' : Heap} (q : ∀ o, h.get? it = some o → h'.get? it = some o) : ∀ {s : Src}, Iat t it k h s → Iat t it k h' s
  | .L _, i => Heap.IsListIter.at i q
  | .T _, i => Heap.IsTupleIter.at i q
  | .S _, ⟨o, e, r⟩ => ⟨o, q o e, r⟩
section
variable {X : Cx} {pins : List (Addr × Obj)} {σ : L2.St} {H : Hp} {s : Shared}
/-- what such an iterator draws -/
theorem drawsS (I : Inv X pins σ H s) (t : Tok) (it : Addr) {A : Around} (hA : A.handled = none) : ∀ {sr : Src} {xs : List V}, SrcAt X.K H sr xs → sr.off it →
    ∃ (fp : List Addr) (Pd : Nat → Value → Prop) (St : Nat → Heap → Prop), Draws X.prog X.w A it fp xs.length Pd St ∧ it ∈ fp ∧ (∀ b ∈ fp, b = it ∨ sr.v = .ref b) ∧ (∀ k, Iat t it k s.heap sr → St k s.heap) ∧ (∀ k h, St k h → Iat t it k h sr) ∧
      ∀ k u, Pd k u → ∃ x, xs[k]? = some x ∧ RelV x u
  | .L a, xs, h, ho => by
    obtain ⟨us, rv, p, _⟩ := I.list h
    have D := Draws.list (prog := X.prog) (w := X.w) hA it a (ho a rfl) us.toArray
    rw [List.size_toArray, ← rv.length] at D
    refine ⟨_, _, _, D, by simp, fun b hb => ?_, fun k q => ⟨q, p.isList⟩, fun k h q => q.1, fun k u q => ?_⟩
    · rcases List.mem_cons.mp hb with rfl | hb
      · exact .inl rfl
      · exact .inr (by rw [List.mem_singleton.mp hb]; rfl)
    · have hk : us[k]? = some u := by simpa using q
      have hlt : k < xs.length := by
        rw [rv.length]
        exact (List.getElem?_eq_some_iff.mp hk).1
      exact ⟨xs[k], get_of hlt, vals_at rv k _ _ (get_of hlt) hk⟩
  | .T a, xs, h, ho => by
    obtain ⟨us, rv, p, _⟩ := I.tuple h
    have D := Draws.tuple (prog := X.prog) (w := X.w) hA it a (ho a rfl) us.toArray
    rw [List.size_toArray, ← rv.length] at D
    refine ⟨_, _, _, D, by simp, fun b hb => ?_, fun k q => ⟨q, p⟩, fun k h q => q.1, fun k u q => ?_⟩
    · rcases List.mem_cons.mp hb with rfl | hb
      · exact .inl rfl
      · exact .inr (by rw [List.mem_singleton.mp hb]; rfl)
    · have hk : us[k]? = some u := by simpa using q
      have hlt : k < xs.length := by
        rw [rv.length]
        exact (List.getElem?_eq_some_iff.mp hk).1
      exact ⟨xs[k], get_of hlt, vals_at rv k _ _ (get_of hlt) hk⟩
  | .S z, xs, h, ho => by
    cases (show xs = signsV z from h)
    have D := Draws.text (prog := X.prog) (w := X.w) hA it z t
    have e : z.cps.size = (signsV z).length := by simp [signsV]
    rw [e] at D
    refine ⟨_, _, _, D, by simp, fun b hb => .inl (List.mem_singleton.mp hb), fun k q => q, fun k h q => q, fun k u q => ?_⟩
    obtain ⟨c, t1, hc, rfl⟩ := q
    exact ⟨.str ⟨#[c]⟩, by simp [signsV, hc], ⟨_, rfl⟩⟩
/-- how its iterator begins -/
theorem beginsS (I : Inv X pins σ H s) : ∀ {sr : Src} {xs : List V} {u : Value}, SrcAt X.K H sr xs → RelV sr.v u → ∃ (t : Tok) (o : Obj) (B : Heap → Prop), Begins u o B ∧ B s.heap ∧ (∀ h it, h.get? it = some o → Iat t it 0 h sr) ∧ ∀ a, sr.v = .ref a → a < s.heap.objs.size
  | .L a, xs, u, h, r => by
    cases (show u = Value.ref a from r)
    obtain ⟨us, rv, p, _⟩ := I.list h
    exact ⟨0, _, _, begins_list a us.toArray, p.isList, fun h it e => ⟨_, e, rfl, rfl⟩, fun b e => by cases e; exact p.lt⟩
  | .T a, xs, u, h, r => by
    cases (show u = Value.ref a from r)
    obtain ⟨us, rv, p, _⟩ := I.tuple h
    obtain ⟨o1, ho1, _⟩ := id p
    exact ⟨0, _, _, begins_tuple a us.toArray, p, fun h it e => ⟨_, e, rfl, rfl⟩, fun b e => by cases e; exact Heap.lt_size ho1⟩
  | .S z, xs, u, h, r => by
    obtain ⟨t, rfl⟩ := (show ∃ t, u = Value.str z t from r)
    exact ⟨t, _, _, begins_text z t, trivial, fun h it e => ⟨_, e, rfl, rfl⟩, fun b e => nomatch e⟩
theorem SrcAt.inj (I : Inv X pins σ H s) : ∀ {sr : Src} {xs ys : List V}, SrcAt X.K H sr xs → SrcAt X.K H sr ys → xs = ys
  | .L _, _, _, h, h' => I.list_inj h h'
  | .T _, _, _, h, h' => I.tuple_inj h h'
  | .S _, _, _, h, h' => Eq.trans h (Eq.symm h')
end
/-- the two sources as they stand at each turn, the items in new pairs -/
def ItzS (K : PySem.W.Frag) (a b : Src) : It :=
  ⟨fun i H => ∃ (xs ys : List V), SrcAt K H a xs ∧ SrcAt K H b ys ∧ i < xs.length ∧ i < ys.length,
    fun i H v H' => ∃ T x y, v = .ref T ∧ H T = none ∧ H' = upd H T (.tup [x, y]) ∧ (∀ xs, SrcAt K H a xs → xs[i]? = some x) ∧ ∀ ys, SrcAt K H b ys → ys[i]? = some y,
    fun i H => ∃ xs ys : List V, SrcAt K H a xs ∧ SrcAt K H b ys ∧ i ≤ xs.length ∧ i ≤ ys.length ∧ (i = xs.length ∨ i = ys.length)⟩
/-- five cells apart, and from the sources -/
structure Zap (z TI TO i1 i2 : Addr) (a b : Src) : Prop where
  nd : [z, TI, TO, i1, i2].Nodup
  oa : ∀ c ∈ [z, TI, TO, i1, i2], a.off c
  ob : ∀ c ∈ [z, TI, TO, i1, i2], b.off c
theorem Zap.sep {z TI TO i1 i2 : Addr} {a b : Src} (D : Zap z TI TO i1 i2 a b) {fp1 fp2 : List Addr} (m1 : i1 ∈ fp1) (m2 : i2 ∈ fp2) (h1 : ∀ c ∈ fp1, c = i1 ∨ a.v = .ref c) (h2 : ∀ c ∈ fp2, c = i2 ∨ b.v = .ref c) : ZipSep2 z TI TO i1 i2 fp1 fp2 := by
  have nd := D.nd
  simp only [List.nodup_cons, List.mem_cons, List.not_mem_nil, or_false, not_or, List.nodup_nil, and_true, not_false_eq_true] at nd
  obtain ⟨⟨n1, n2, n3, n4⟩, ⟨n5, n6, n7⟩, ⟨n8, n9⟩, n10⟩ := nd
  have f1 : ∀ c, c ∈ [z, TI, TO, i1, i2] → c ≠ i1 → c ∉ fp1 := fun c hc hn hm => (h1 c hm).elim hn fun e => D.oa c hc c e rfl
  have f2 : ∀ c, c ∈ [z, TI, TO, i1, i2] → c ≠ i2 → c ∉ fp2 := fun c hc hn hm => (h2 c hm).elim hn fun e => D.ob c hc c e rfl
  exact ⟨Ne.symm n1, Ne.symm n2, n5, n6, m1, f1 _ (by simp) n3, f1 _ (by simp) n8, n7, m2, f2 _ (by simp) n4, f2 _ (by simp) n9, f2 _ (by simp) n10, f1 _ (by simp) (Ne.symm n10)⟩
def zipTn (z TI TO i1 i2 : Addr) (a b : Src) (t1 t2 : Tok) (i : Nat) (h : Heap) : Prop := IsZip h z TI TO .none ∧ IsTupOf2 h TI (.ref i1) (.ref i2) ∧ (∃ x y, IsTupOf2 h TO x y) ∧ Iat t1 i1 i h a ∧ Iat t2 i2 i h b
theorem turn_zipS {P : Program} {w : World} {K : PySem.W.Frag} {elts : List Expr} {kk : Nat} {tpos : Pos} {a b : Src} {t1 t2 : Tok} {z TI TO i1 i2 : Addr} (D : Zap z TI TO i1 i2 a b) :
    Turn P w K (.Tuple elts kk tpos) (ItzS K a b) [z, TI, TO, i1, i2] z (zipTn z TI TO i1 i2 a b t1 t2) := by
  have nd := D.nd
  simp only [List.nodup_cons, List.mem_cons, List.not_mem_nil, or_false, not_or, List.nodup_nil, and_true, not_false_eq_true] at nd
  obtain ⟨⟨n1, n2, n3, n4⟩, ⟨n5, n6, n7⟩, ⟨n8, n9⟩, n10⟩ := nd
  refine ⟨by simp, ?obj, ?keep, ?item, ?done, fun A i s Q E st h => wpAny_pyIter_zip st.1 h⟩
  case obj =>
    rintro i h ⟨hz, hTI, ⟨x, y, hTO⟩, h1, h2⟩ c hc
    simp only [List.mem_cons, List.not_mem_nil, or_false] at hc
    rcases hc with q | q | q | q | q <;> rw [q]
    · exact ⟨_, hz, fun v q => nomatch q⟩
    · exact ⟨_, hTI, fun v q => nomatch q⟩
    · exact ⟨_, hTO, fun v q => nomatch q⟩
    · exact h1.obj
    · exact h2.obj
  case keep =>
    rintro i h h' ⟨hz, hTI, ⟨x, y, hTO⟩, h1, h2⟩ k
    exact ⟨k z (by simp) _ hz, k TI (by simp) _ hTI, ⟨x, y, k TO (by simp) _ hTO⟩, h1.at fun o q => k i1 (by simp) o q, h2.at fun o q => k i2 (by simp) o q⟩
  case item =>
    intro X hP hw hK hc i pins s σ H E I hf st hg
    subst hP hw hK
    obtain ⟨hz, hTI, ⟨x0, y0, hTO⟩, h1, h2⟩ := st
    obtain ⟨xs, ys, hqx, hqy, lx, ly⟩ := hg
    have hh : X.A.in1.handled = none := I.ok.hd hc
    obtain ⟨fp1, P1, St1, D1, m1, u1, b1, e1, r1⟩ := drawsS I t1 i1 hh hqx (D.oa i1 (by simp))
    obtain ⟨fp2, P2, St2, D2, m2, u2, b2, e2, r2⟩ := drawsS I t2 i2 hh hqy (D.ob i2 (by simp))
    have S := D.sep m1 m2 u1 u2
    have hzl : z < s.heap.objs.size := Heap.lt_size hz
    refine wpAny_pyNext_zipD2_item S D1 D2 hz hTI hTO (b1 i h1) (b2 i h2) lx ly fun w1 w2 hp' tk p1 p2 z' TO' s1' s2' hT hsz hk => ?_
    obtain ⟨x, hx, rx⟩ := r1 i w1 p1
    obtain ⟨y, hy, ry⟩ := r2 i w2 p2
    refine ⟨_, rfl, wpAny_letOwnedTupleGo_zip (s := { s with heap := hp', toks := tk }) z' fun hp2 z2 sb => ?_⟩
    have hT2 : hp2.get? s.heap.objs.size = some { cls := .type "tuple", data := .seq #[w1, w2] } := (sb.2 _ (Nat.ne_of_gt hzl)).trans hT
    have new : ObjOk X.prog X.w (upd H s.heap.objs.size (.tup [x, y])) hp2 s.heap.objs.size (.tup [x, y]) := ⟨(by decide : 2 ≤ sizeLine), [w1, w2], .cons rx (.cons ry .nil), ⟨_, hT2, rfl, _, rfl⟩⟩
    have go : ∀ c o, c ∉ [z, TI, TO, i1, i2] → s.heap.get? c = some o → hp2.get? c = some o := fun c o hb q => by
      simp only [List.mem_cons, List.not_mem_nil, or_false, not_or] at hb
      exact (sb.2 c hb.1).trans (hk c o hb.1 hb.2.2.1 hb.2.2.2.1 hb.2.2.2.2 q)
    have I1 : Inv X pins σ (upd H s.heap.objs.size (.tup [x, y])) { s with heap := hp2, toks := tk } := I.turnedNew (ch := [z, TI, TO, i1, i2]) go hf (Nat.le_refl _) new
    refine ⟨.ref s.heap.objs.size, _, I1, rfl, ⟨_, x, y, rfl, I.hok.fresh (Nat.le_refl _), rfl, fun l hl => by rw [SrcAt.inj I hl hqx]; exact hx, fun l hl => by rw [SrcAt.inj I hl hqy]; exact hy⟩, ⟨z2, ?_, ⟨w1, w2, ?_⟩, ?_, ?_⟩, fun c hcm => ?_⟩
    · exact (sb.2 _ (Ne.symm n1)).trans (hk _ _ (Ne.symm n1) n5 n6 n7 hTI)
    · exact (sb.2 _ (Ne.symm n2)).trans TO'
    · exact (e1 _ _ s1').at fun o q => (sb.2 _ (Ne.symm n3)).trans q
    · exact (e2 _ _ s2').at fun o q => (sb.2 _ (Ne.symm n4)).trans q
    · have hlt : c < s.heap.objs.size := by
        simp only [List.mem_cons, List.not_mem_nil, or_false] at hcm
        rcases hcm with q | q | q | q | q <;> rw [q]
        · exact hzl
        · exact Heap.lt_size hTI
        · exact Heap.lt_size hTO
        · obtain ⟨o, e, _⟩ := h1.obj
          exact Heap.lt_size e
        · obtain ⟨o, e, _⟩ := h2.obj
          exact Heap.lt_size e
      rw [upd_ne (Nat.ne_of_lt hlt)]
      exact (hf c hcm).1
  case done =>
    intro X hP hw hK hc i pins s σ H E I hf st hg
    subst hP hw hK
    obtain ⟨hz, hTI, ⟨x0, y0, hTO⟩, h1, h2⟩ := st
    obtain ⟨xs, ys, hqx, hqy, lx, ly, hend⟩ := hg
    have hh : X.A.in1.handled = none := I.ok.hd hc
    obtain ⟨fp1, P1, St1, D1, m1, u1, b1, e1, r1⟩ := drawsS I t1 i1 hh hqx (D.oa i1 (by simp))
    obtain ⟨fp2, P2, St2, D2, m2, u2, b2, e2, r2⟩ := drawsS I t2 i2 hh hqy (D.ob i2 (by simp))
    refine wpAny_pyNext_zipD2_end (D.sep m1 m2 u1 u2) D1 D2 hz hTI hTO (b1 i h1) (b2 i h2) lx ly hend fun hp' tk hk => ⟨rfl, I.turnedL (ch := [z, TI, TO, i1, i2]) (fun c o hb q => ?_) hf⟩
    simp only [List.mem_cons, List.not_mem_nil, or_false, not_or] at hb
    exact hk c o hb.1 hb.2.2.1 hb.2.2.2.1 hb.2.2.2.2 q
def iZipS (K : PySem.W.Frag) (ta : TA) : TI := fun σ H R => ta σ H fun vs H1 => ∃ (a b : Src) (xs ys : List V), vs = [a.v, b.v] ∧ SrcAt K H1 a xs ∧ SrcAt K H1 b ys ∧ R (ItzS K a b) H1
theorem pi_zipS {X : Cx} {e e2 : Expr} {ta : TA} {p pos tpos : Pos} {elts : List Expr} {kk : Nat} {K : PySem.W.Frag} (hK : X.K = K) (hg : Gl X "zip") (hm : X.mg "zip" = none) (ha : PA X [e, e2] ta)
    (hs : starEach [e, e2] X.env = (false, eval e X.env) :: starEach [e2] X.env := by rfl) (hpl : (backTo pos (starEach [e2] X.env)).any (·.1) = false := by rfl) :
    PI X (.Tuple elts kk tpos) (.Call (.Name "zip" p) [e, e2] [] pos) (iZipS K ta) := by
  subst hK
  refine ⟨fun pins s σ H R I h => ?_⟩
  refine Call_ (ld_blt I hg hm PyProof.Rows.boot_zip (PyProof.Rows.callWith_type1 (thn (ha.run pos pins s σ H _ I h) fun us s1 ⟨vs, H1, I1, r1, q1⟩ => ?_) hs hpl))
  obtain ⟨a, b, xs, ys, ex, hqx, hqy, q⟩ := q1
  subst ex
  obtain ⟨u1, r2, e1, ra, rr⟩ : ∃ u1 r2, us = u1 :: r2 ∧ RelV a.v u1 ∧ Vals [b.v] r2 := by
    cases r1 with
    | cons h1 h2 => exact ⟨_, _, rfl, h1, h2⟩
  obtain ⟨u2, e2, rb⟩ := vals1 rr
  subst e2
  subst e1
  · skip
    obtain ⟨t1, o1, B1, bg1, hb1, it1, lt1⟩ := beginsS I1 hqx ra
    obtain ⟨t2, o2, B2, bg2, hb2, it2, lt2⟩ := beginsS I1 hqy rb
    refine zip_begins2 bg1 bg2 hb1 hb2 fun hp' hz hTI hTO g1 g2 hsz hk => wpAny_pyIter_zip hz ?_
    have I2 : Inv X pins σ H1 { s1 with heap := hp' } := I1.kept (t' := s1.toks) hk
    have fresh : ∀ c, c ∈ [s1.heap.objs.size + 4, s1.heap.objs.size + 2, s1.heap.objs.size + 3, s1.heap.objs.size, s1.heap.objs.size + 1] → s1.heap.objs.size ≤ c := fun c hcm => by
      simp only [List.mem_cons, List.not_mem_nil, or_false] at hcm
      omega
    have Z : Zap (s1.heap.objs.size + 4) (s1.heap.objs.size + 2) (s1.heap.objs.size + 3) s1.heap.objs.size (s1.heap.objs.size + 1) a b := by
      refine ⟨?_, fun c hc d e => ?_, fun c hc d e => ?_⟩
      · simp only [List.nodup_cons, List.mem_cons, List.not_mem_nil, or_false, not_or, List.nodup_nil, and_true, not_false_eq_true]
        refine ⟨⟨?_, ?_, ?_, ?_⟩, ⟨?_, ?_, ?_⟩, ⟨?_, ?_⟩, ?_⟩ <;> exact fun e => absurd (show (_ : Nat) = _ from e) (by omega)
      · exact Nat.ne_of_lt (Nat.lt_of_lt_of_le (lt1 d e) (fresh c hc))
      · exact Nat.ne_of_lt (Nat.lt_of_lt_of_le (lt2 d e) (fresh c hc))
    exact ⟨_, _, _, _, H1, rfl, I2, turn_zipS (t1 := t1) (t2 := t2) Z, ⟨hz, hTI, ⟨_, _, hTO⟩, it1 _ _ g1, it2 _ _ g2⟩, fun c hc => I1.fpOk (fresh c hc) (I1.hok.fresh (fresh c hc)), q⟩
theorem walk_zipS {K : PySem.W.Frag} {a b : Src} {xs ys : List V} {n : Nat} (hn : n = min xs.length ys.length) : Walk (ItzS K a b) n (fun H => SrcAt K H a xs ∧ SrcAt K H b ys) (YPair (fun i => xs[i]?) (fun i => ys[i]?)) := by
  subst hn
  refine ⟨fun i _ hi q => ⟨xs, ys, q.1, q.2, by omega, by omega⟩, fun _ q => ⟨xs, ys, q.1, q.2, by omega, by omega, by omega⟩, fun i H v H' _ q y => ?_⟩
  obtain ⟨T, x, u, e1, e2, e3, e4, e5⟩ := y
  exact ⟨T, x, u, e1, e2, e3, e4 xs q.1, e5 ys q.2⟩
theorem rd_zipS {K : PySem.W.Frag} {tr : TA} {σ : L2.St} {H : Hp} {R : It → Hp → Prop} (h : tr σ H fun vs H1 => ∃ (a b : Src) (xs ys : List V), vs = [a.v, b.v] ∧ SrcAt K H1 a xs ∧ SrcAt K H1 b ys ∧ R (ItzS K a b) H1) : iZipS K tr σ H R := h
/-! #### enumerate of a list, a tuple, a text -/
def ItnS (K : PySem.W.Frag) (a : Src) : It :=
  ⟨fun i H => ∃ xs : List V, SrcAt K H a xs ∧ i < xs.length,
    fun i H v H' => ∃ T x, v = .ref T ∧ H T = none ∧ H' = upd H T (.tup [.int (i : Nat), x]) ∧ ∀ xs, SrcAt K H a xs → xs[i]? = some x,
    fun i H => ∃ xs : List V, SrcAt K H a xs ∧ i = xs.length⟩
def enumTn (e it : Addr) (a : Src) (t : Tok) (i : Nat) (h : Heap) : Prop := (∃ old, IsEnum h e it ((i : Nat) : Int) old) ∧ Iat t it i h a
theorem turn_enumS {P : Program} {w : World} {K : PySem.W.Frag} {elts : List Expr} {kk : Nat} {tpos : Pos} {a : Src} {t : Tok} {e it : Addr} (ne : e ≠ it) (oe : a.off e) (oi : a.off it) :
    Turn P w K (.Tuple elts kk tpos) (ItnS K a) [e, it] e (enumTn e it a t) := by
  refine ⟨by simp, ?obj, ?keep, ?item, ?done, fun A i s Q E st h => st.1.elim fun _ he => wpAny_pyIter_enum he h⟩
  case obj =>
    rintro i h ⟨⟨old, he⟩, h1⟩ c hc
    simp only [List.mem_cons, List.not_mem_nil, or_false] at hc
    rcases hc with q | q <;> rw [q]
    · exact ⟨_, he, fun v q => nomatch q⟩
    · exact h1.obj
  case keep =>
    rintro i h h' ⟨⟨old, he⟩, h1⟩ k
    exact ⟨⟨old, k e (by simp) _ he⟩, h1.at fun o q => k it (by simp) o q⟩
  case item =>
    intro X hP hw hK hc i pins s σ H E I hf st hg
    subst hP hw hK
    obtain ⟨⟨old, he⟩, h1⟩ := st
    obtain ⟨xs, hq, lx⟩ := hg
    have hh : X.A.in1.handled = none := I.ok.hd hc
    obtain ⟨fp, Pd, St, D, m, u, b, back, r⟩ := drawsS I t it hh hq oi
    have hef : e ∉ fp := fun hm => (u e hm).elim ne fun q => oe e q rfl
    have hel : e < s.heap.objs.size := Heap.lt_size he
    refine wpAny_pyNext_enum_itemD D he (b i h1) lx ne hef fun w1 hp' tk p1 out st' hT hsz hk => ?_
    obtain ⟨x, hx, rx⟩ := r i w1 p1
    refine ⟨_, rfl, wpAny_letOwnedTupleGo_enum (s := { s with heap := hp', toks := tk + 1 }) out fun hp2 he2 sb => ?_⟩
    have hT2 : hp2.get? s.heap.objs.size = some { cls := .type "tuple", data := .seq #[.int i tk, w1] } := (sb.2 _ (Nat.ne_of_gt hel)).trans hT
    have new : ObjOk X.prog X.w (upd H s.heap.objs.size (.tup [.int (i : Nat), x])) hp2 s.heap.objs.size (.tup [.int (i : Nat), x]) := ⟨(by decide : 2 ≤ sizeLine), [.int i tk, w1], .cons ⟨_, rfl⟩ (.cons rx .nil), ⟨_, hT2, rfl, _, rfl⟩⟩
    have go : ∀ c o, c ∉ [e, it] → s.heap.get? c = some o → hp2.get? c = some o := fun c o hb q => by
      simp only [List.mem_cons, List.not_mem_nil, or_false, not_or] at hb
      exact (sb.2 c hb.1).trans (hk c o hb.1 hb.2 q)
    have I1 : Inv X pins σ (upd H s.heap.objs.size (.tup [.int (i : Nat), x])) { s with heap := hp2, toks := tk + 1 } := I.turnedNew (ch := [e, it]) go hf (Nat.le_refl _) new
    refine ⟨.ref s.heap.objs.size, _, I1, rfl, ⟨_, x, rfl, I.hok.fresh (Nat.le_refl _), rfl, fun l hl => by rw [SrcAt.inj I hl hq]; exact hx⟩, ⟨⟨w1, ?_⟩, ?_⟩, fun c hcm => ?_⟩
    · rw [show ((i + 1 : Nat) : Int) = (i : Int) + 1 by omega]
      exact he2
    · exact (back _ _ st').at fun o q => (sb.2 _ (Ne.symm ne)).trans q
    · have hlt : c < s.heap.objs.size := by
        simp only [List.mem_cons, List.not_mem_nil, or_false] at hcm
        rcases hcm with q | q <;> rw [q]
        · exact hel
        · obtain ⟨o, e1, _⟩ := h1.obj
          exact Heap.lt_size e1
      rw [upd_ne (Nat.ne_of_lt hlt)]
      exact (hf c hcm).1
  case done =>
    intro X hP hw hK hc i pins s σ H E I hf st hg
    subst hP hw hK
    obtain ⟨⟨old, he⟩, h1⟩ := st
    obtain ⟨xs, hq, rfl⟩ := hg
    have hh : X.A.in1.handled = none := I.ok.hd hc
    obtain ⟨fp, Pd, St, D, m, u, b, back, r⟩ := drawsS I t it hh hq oi
    refine wpAny_pyNext_enum_endD D he (b _ h1) fun hp' hk => ⟨rfl, I.turnedL (t' := s.toks) (ch := [e, it]) (fun c o hb q => ?_) hf⟩
    simp only [List.mem_cons, List.not_mem_nil, or_false, not_or] at hb
    exact hk c o hb.2 q
theorem enum_newB1 {v : Value} {o : Obj} {B : Heap → Prop} (bg : Begins v o B) : Meets (Builtin.«enumerate.__new__» ⟨[.type "enumerate", v], []⟩) (fun _ R s => B s.heap ∧
    R (.ok (.ret (.ref (s.heap.push o).objs.size))) { s with heap := (s.heap.push o).push { cls := .type "enumerate", data := .fields #[.none, .bool false, .ref s.heap.objs.size, rawInt 0, .none, .none] } }) :=
  .of_wp fun prog w A R s h => by
    obtain ⟨hp, g, d, tk, os⟩ := s
    obtain ⟨hB, h⟩ := h
    have hs := sub_enumerate
    have st : ∀ {A' : Around} {E Q : Value → Shared → Prop}, Q (.ref hp.objs.size) ⟨hp.push o, g, d, tk, os⟩ → wpAny (model prog w) A' (pyIter v) Q E ⟨hp, g, d, tk, os⟩ := fun q => bg.iter prog w _ _ ⟨hp, g, d, tk, os⟩ _ hB q
    wp_walk using st
    refine wpAny_stack_any fun st2 => wpAny_pure ?_
    split
    · rename_i c _ _ _ _ _
      cases (c == Value.type "enumerate") <;> (wp_walk using st; exact ⟨_, rfl, h⟩)
    · wp_walk using st
      exact ⟨_, rfl, h⟩
theorem enum_begins1 {prog : Program} {w : World} {A : Around} {E : Value → Shared → Prop} {s : Shared} {v : Value} {o : Obj} {B : Heap → Prop} {Q : Value → Shared → Prop} (bg : Begins v o B) (hB : B s.heap)
    (h : ∀ hp', IsEnum hp' (s.heap.objs.size + 1) s.heap.objs.size 0 .none → hp'.get? s.heap.objs.size = some o → (∀ b ob, s.heap.get? b = some ob → hp'.get? b = some ob) → Q (.ref (s.heap.objs.size + 1)) { s with heap := hp' }) : wpAny (model prog w) A (call (.type "enumerate") [v]) Q E s := by
  refine callType_new F.called_enumerate (by decide) (F.typeCall_enumerate_1 _) (F.newCall_enumerate_1 _) (fun obj => F.args_object_init_2 obj _) F.entry_enumerate_new (enum_newB1 bg) ⟨hB, ?_⟩
  have z1 : (s.heap.push o).objs.size = s.heap.objs.size + 1 := Heap.size_push ..
  have g1 : ((s.heap.push o).push { cls := .type "enumerate", data := .fields #[.none, .bool false, .ref s.heap.objs.size, rawInt 0, .none, .none] }).get? (s.heap.push o).objs.size = some { cls := .type "enumerate", data := .fields #[.none, .bool false, .ref s.heap.objs.size, rawInt 0, .none, .none] } := Heap.get?_push_size _ rfl
  rw [z1] at g1
  show _ ∧ _
  rw [z1]
  exact ⟨⟨_, g1, rfl⟩, h _ g1 (Heap.get?_push_of_some _ (Heap.get?_push_size _ bg.free)) fun b ob x => Heap.get?_push_of_some _ (Heap.get?_push_of_some _ x)⟩
def iEnumS (K : PySem.W.Frag) (ta : TA) : TI := fun σ H R => ta σ H fun vs H1 => ∃ (a : Src) (xs : List V), vs = [a.v] ∧ SrcAt K H1 a xs ∧ R (ItnS K a) H1
theorem pi_enumS {X : Cx} {e : Expr} {ta : TA} {p pos tpos : Pos} {elts : List Expr} {kk : Nat} {K : PySem.W.Frag} (hK : X.K = K) (hg : Gl X "enumerate") (hm : X.mg "enumerate" = none) (ha : PA X [e] ta) (hs : starEach [e] X.env = [(false, eval e X.env)] := by rfl) :
    PI X (.Tuple elts kk tpos) (.Call (.Name "enumerate" p) [e] [] pos) (iEnumS K ta) := by
  subst hK
  refine ⟨fun pins s σ H R I h => ?_⟩
  refine Call_ (ld_blt I hg hm boot_enumerate (PyProof.Rows.callWith_type1 (thn (ha.run pos pins s σ H _ I h) fun us s1 ⟨vs, H1, I1, r1, q1⟩ => ?_) hs rfl))
  obtain ⟨a, xs, ex, hq, q⟩ := q1
  subst ex
  obtain ⟨u1, e1, ra⟩ := vals1 r1
  subst e1
  obtain ⟨t1, o1, B1, bg1, hb1, it1, lt1⟩ := beginsS I1 hq ra
  refine enum_begins1 bg1 hb1 fun hp' he g1 hk => wpAny_pyIter_enum he ?_
  have I2 : Inv X pins σ H1 { s1 with heap := hp' } := I1.kept (t' := s1.toks) hk
  have fresh : ∀ c, c ∈ [s1.heap.objs.size + 1, s1.heap.objs.size] → s1.heap.objs.size ≤ c := fun c hcm => by
    simp only [List.mem_cons, List.not_mem_nil, or_false] at hcm
    omega
  exact ⟨_, _, _, _, H1, rfl, I2, turn_enumS (t := t1) (Nat.succ_ne_self _) (fun d e => Nat.ne_of_lt (Nat.lt_of_lt_of_le (lt1 d e) (fresh _ (by simp)))) (fun d e => Nat.ne_of_lt (lt1 d e)), ⟨⟨.none, he⟩, it1 _ _ g1⟩, fun c hc => I1.fpOk (fresh c hc) (I1.hok.fresh (fresh c hc)), q⟩
theorem walk_enumS {K : PySem.W.Frag} {a : Src} {xs : List V} : Walk (ItnS K a) xs.length (fun H => SrcAt K H a xs) (YPair (fun i => some (.int (i : Nat))) (fun i => xs[i]?)) := by
  refine ⟨fun i _ hi q => ⟨xs, q, hi⟩, fun _ q => ⟨xs, q, rfl⟩, fun i H v H' _ q y => ?_⟩
  obtain ⟨T, x, e1, e2, e3, e4⟩ := y
  exact ⟨T, .int (i : Nat), x, e1, e2, e3, rfl, e4 xs q⟩
theorem rd_enumS {K : PySem.W.Frag} {tr : TA} {σ : L2.St} {H : Hp} {R : It → Hp → Prop} (h : tr σ H fun vs H1 => ∃ (a : Src) (xs : List V), vs = [a.v] ∧ SrcAt K H1 a xs ∧ R (ItnS K a) H1) : iEnumS K tr σ H R := h
end My
local macro_rules | `(tactic| walk_at "rd1") => `(tactic| (with_reducible refine My.rd_zipS ?_))
local macro_rules | `(tactic| walk_at "rd1") => `(tactic| (with_reducible refine My.rd_enumS ?_))

/-! ### P0D: an empty dict: its repr, compared with a text -/
namespace My
open PySem PySem.Spec PyProof.Rows L2
theorem dictE_eq_str {b : Addr} {z : Str} {u : Tok} {prog : Program} {w : World} {A : Around} {E : Value → Shared → Prop} {Q : Value → Shared → Prop} {s : Shared} (hd : s.TypeIs (.ref b) "dict") (h : Q .notImplemented s) :
    wpAny (model prog w) A (call (.builtin "dict.__eq__") [.ref b, .str z u]) Q E s := by
  refine wpAny_call_entry PySem.F.slot_dict_eq hd PySem.F.entry_dict_eq ?_ (PySem.F.args_dict_eq_2 _ _)
  show wpAny _ _ (Builtin.Dict.dictSlotArgs "__eq__" ⟨[.ref b, .str z u], []⟩ >>= _) _ _ s
  refine wpAny_bind ?_
  unfold Builtin.Dict.dictSlotArgs
  refine wpAny_bind (wpAny_notOrdered_dict hd ?_)
  refine wpAny_pure ?_
  refine wpAny_bind (wpAny_isInstance (T := "str") (typeIs_str s z u) PySem.F.sub_str_dict ?_)
  simp only [Bool.not_false, if_true]
  refine wpAny_bind (wpAny_rule ?_)
  exact wpAny_pure ⟨_, rfl, h⟩
theorem str_eq_dictE (z : Str) (u : Tok) (l : Addr) (c : Value) (es : Array DictEntry) (n : Nat) (dd : Option Addr) (sl : Array (Option Value)) :
    Meets (Builtin.«str.__eq__» ⟨[.str z u, .ref l], []⟩) (fun _ R s => s.heap.get? l = some { cls := c, dict := dd, data := .dict es n, slots := sl } ∧ R (.ok (.ret .notImplemented)) s) :=
  .of_wp fun prog w A R s h => by obtain ⟨hp, g, d, tk, os⟩ := s; obtain ⟨hl, h⟩ := h; wp_walk using wpAny_loadPart' hl, wpAny_load hl; exact ⟨_, rfl, h⟩
theorem dictE_rc {l : Addr} {o : Obj} {es : Array DictEntry} {n : Nat} {prog : Program} {w : World} {A : Around} {E : Value → Shared → Prop} {Q : Value → Shared → Prop} {s : Shared} {z : Str} {u : Tok} (ho : s.heap.get? l = some o) (hc : o.cls = .type "dict") (hd : o.data = .dict es n) (hu : A.units < cLine) (h : Q (.bool false) s) :
    wpAny (model prog w) A (compareOp .Eq (.ref l) (.str z u)) Q E s := by
  obtain ⟨cls, dd, data, sl⟩ := o
  simp only at hc hd
  subst hc hd
  exact SeqAt.rc_eq_decline_or (k := false) ⟨_, ho, rfl⟩ (typeIs_str s z u) (by decide) PySem.F.sub_str_dict PySem.F.slot_dict_eq PySem.F.slot_str_eq_refl
    (fun _ hq => dictE_eq_str ⟨_, ho, rfl⟩ hq)
    (fun _ hq => call_meets PySem.F.slot_str_eq_refl (typeIs_str s z u) PySem.F.entry_str_eq (PySem.F.args_str_eq_2 _ _) (str_eq_dictE z u l (.type "dict") es n dd sl) ⟨ho, hq⟩)
    (fun _ hq => wpAny_of_eq (rfl : isSame (.ref l) (.str z u) = pure false) hq) (.inr hu) h
/-- a thing: data, or an empty dict -/
inductive DpE (K : PySem.W.Frag) (H : Hp) : V → PyData → Prop
  | dp {v : V} {d : PyData} : Dp K H v d → DpE K H v d
  | dK {a : Addr} : H a = some (.dK []) → DpE K H (.ref a) (.dict [])
theorem dkE {X : Cx} {pins : List (Addr × Obj)} {σ : L2.St} {H : Hp} {s : Shared} {a : Addr} (I : Inv X pins σ H s) (h : H a = some (.dK [])) : (a == sysModules) = false ∧ ∃ o es n, s.heap.get? a = some o ∧ o.cls = .type "dict" ∧ o.data = .dict es n ∧ es.toList = [] := by
  obtain ⟨_, hs, vs, kv, o, es, ep, ho, hx, hd, _, hp, _⟩ := (show ObjOk X.prog X.w H s.heap a (.dK []) from I.hok a _ h)
  cases kv
  refine ⟨hs, o, es, ep, ho, hx.1, hd, ?_⟩
  match h1 : es.toList, hp with
  | [], _ => rfl
theorem DpE.same {K : PySem.W.Frag} {H H' : Hp} (e : Same H H') {v : V} {d : PyData} (h : DpE K H v d) : DpE K H' v d := by
  cases h with
  | dp h => exact .dp (dp_same e _ _ h)
  | dK h => exact .dK (e _ _ h)
/-- repr of such a thing -/
def rReprE (K : PySem.W.Frag) : List V → Hp → VK → Prop := fun xs H Q => ∃ v d, xs = [v] ∧ DpE K H v d ∧ d.showable = true ∧ d.depth ≤ 60 ∧ d.shown.length ≤ 10000000 ∧ Q (.str d.shown) H
theorem reprE {X : Cx} {K : PySem.W.Frag} (hK : X.K = K) (hG : X.A.guards = some []) (hu : X.A.units + 64 < cLine) : CallR X (.builtin "repr") (rReprE K) := by
  intro pins s σ H xs us Q I r h
  obtain ⟨v, d, hx, hd, hs, hdep, hlen, q⟩ := h
  cases hd with
  | dp h1 => exact reprD hK hG hu pins s σ H xs us Q I r ⟨v, d, hx, h1, hs, hdep, hlen, q⟩
  | @dK a h1 =>
    subst hx
    obtain ⟨u, rfl, r1⟩ := vals1 r
    cases (show u = Value.ref a from r1)
    obtain ⟨hsm, o, es, n, ho, hc, hdt, hes⟩ := dkE I h1
    have rd : Reads s.heap (.ref a) (.dict []) (a :: [] ++ []) := by
      refine Reads.dict ho hc hdt ?_ ?_
      · rw [hes]
        exact ReadsAll.nil
      · rw [hes]
        exact ReadsAll.nil
    refine repr_of_reads' rd hs (fun _ hm => ?_) hG (by omega) (fun b o e => e) (fun h' u tk keep => ?_) (Nat.le_trans hlen (by decide))
    · have : sysModules = a := by simpa using hm
      rw [this, beq_self_eq_true] at hsm
      cases hsm
    · exact ⟨.str _, H, I.kept (t' := tk) keep, ⟨_, rfl⟩, q⟩
theorem rd_reprE {K : PySem.W.Frag} {H : Hp} {Q : VK} {v : V} {d : PyData} (hd : DpE K H v d) (h1 : d.showable = true) (h2 : d.depth ≤ 60) (h3 : d.shown.length ≤ 10000000) (q : Q (.str d.shown) H) : rReprE K [v] H Q := ⟨v, d, rfl, hd, h1, h2, h3, q⟩
/-- such a thing, a text: are they equal -/
def isV (v : V) (z : Str) : Bool := decide (v = .str z)
def rEqZ (K : PySem.W.Frag) : R2 := fun x y H Q => ∃ z d, y = .str z ∧ DpE K H x d ∧ PyData.strOk z = true ∧ (d = .dict [] ∨ SeqAt.shaped d = true) ∧ Q (.bl (isV x z)) H
theorem eqZ {X : Cx} {K : PySem.W.Frag} (hK : X.K = K) (hu : X.A.units + 64 < cLine) : OpR X (compareOp .Eq) (rEqZ K) := by
  subst hK
  intro pins s σ H x y v u Q I rx ry h
  obtain ⟨z, d, rfl, hd, hz, hsh, q⟩ := h
  obtain ⟨t, rfl⟩ := (show ∃ t, u = Value.str z t from ry)
  cases hd with
  | dp h1 =>
    obtain ⟨as, r1⟩ := Dp.reads I d x v h1 rx
    have hsh : SeqAt.shaped d = true := hsh.resolve_left fun e => by
      subst e
      cases h1
    have h2 : SeqAt.shaped (.str z) = true := by
      show (PyData.canLay0 (.str z) && decide (PyData.depth (.str z) ≤ 64)) = true
      simp only [PyData.canLay0, PyData.depth, hz]
      rfl
    refine SeqAt.compareEq_shaped r1 (Reads.str z t) hsh h2 hu ⟨.bl _, H, I, rfl, ?_⟩
    have e : PyData.eqv d (.str z) = isV x z := by
      cases h1 with
      | str w =>
        show (w == z) = decide (V.str w = V.str z)
        rw [dec_str]
      | non => rfl
      | bl b => cases b <;> rfl
      | int i => rfl
      | lst _ _ => rfl
      | tup _ _ => rfl
    rw [e]
    exact q
  | @dK a h1 =>
    cases (show v = Value.ref a from rx)
    obtain ⟨hsm, o, es, n, ho, hc, hdt, hes⟩ := dkE I h1
    exact dictE_rc ho hc hdt (by omega) ⟨.bl _, H, I, rfl, q⟩
theorem rd_eqZ {K : PySem.W.Frag} {H : Hp} {Q : VK} {v : V} {z : Str} {d : PyData} (hd : DpE K H v d) (hz : PyData.strOk z = true) (h : d = .dict [] ∨ SeqAt.shaped d = true) (q : Q (.bl (isV v z)) H) : rEqZ K v (.str z) H Q := ⟨z, d, rfl, hd, hz, h, q⟩
/-! #### how long a shown thing is -/
mutual
def wt : PyData → Nat
  | .none => 4
  | .bool _ => 5
  | .int _ => 1921
  | .str x => 10 * x.length + 2
  | .list xs => wtAll xs + 4
  | .tuple xs => wtAll xs + 4
  | .dict _ => 10
def wtAll : List PyData → Nat
  | [] => 0
  | x :: xs => wt x + 2 + wtAll xs
end
theorem textFrom_le : ∀ (ts : List Str) (k : Nat) (acc : Str), (textFrom k acc ts).length ≤ acc.length + (ts.map fun t => t.length + 2).sum
  | [], k, acc => by show acc.length ≤ _; simp
  | t :: r, k, acc => by
    have h := textFrom_le r (k + 1) (acc ++ (if k > 0 then ", " else "" : String) ++ t)
    have e : (acc ++ (if k > 0 then ", " else "" : String) ++ t : Str).length ≤ acc.length + 2 + t.length := by
      rw [PySem.Str.length_append, PySem.Str.length_append]
      have : (((if k > 0 then ", " else "" : String) : Str)).length ≤ 2 := by split <;> decide +kernel
      omega
    show (textFrom (k + 1) (acc ++ (if k > 0 then ", " else "" : String) ++ t) r).length ≤ _
    rw [List.map_cons, List.sum_cons]
    omega
theorem piled_sum : ∀ ts : List Str, piled ts = (ts.map fun t => t.length + 2).sum
  | [] => rfl
  | t :: r => by
    rw [List.map_cons, List.sum_cons, ← piled_sum r]
    rfl
mutual
theorem shown_wt : ∀ d : PyData, d.showable = true → d.canLay0 = true → d.shown.length ≤ wt d
  | .none, _, _ => by decide +kernel
  | .bool b, _, _ => by cases b <;> decide +kernel
  | .int i, h, _ => by
    simp only [PyData.showable, decide_eq_true_eq] at h
    simp only [PyData.shown, wt]
    exact int_text_len_1921 h
  | .str x, _, h => by
    simp only [PyData.canLay0] at h
    simp only [PyData.shown, wt]
    refine StrLaws.reprText_len x fun c hc => ?_
    have h1 : ∀ (i : Nat) (hi : i < x.cps.size), x.cps[i] < 1114112 := by simpa [PyData.strOk] using h
    obtain ⟨i, hi, rfl⟩ := List.getElem_of_mem hc
    have h2 := h1 i (by simpa using hi)
    rw [Array.getElem_toList]
    exact Nat.lt_trans h2 (by decide)
  | .list xs, h, hl => by
    simp only [PyData.showable] at h
    simp only [PyData.canLay0] at hl
    simp only [PyData.shown, wt]
    have h1 := shown_wtAll xs h hl
    have h2 := textFrom_le (PyData.shownAll xs) 0 "["
    have h3 : (("[" : String) : Str).length = 1 := by decide +kernel
    have h4 : (("]" : String) : Str).length = 1 := by decide +kernel
    show (textFrom 0 "[" (PyData.shownAll xs) ++ "]" : Str).length ≤ _
    rw [PySem.Str.length_append]
    omega
  | .tuple xs, h, hl => by
    simp only [PyData.showable] at h
    simp only [PyData.canLay0] at hl
    simp only [PyData.shown, wt]
    have h1 := shown_wtAll xs h hl
    rw [← piled_sum] at h1
    have h3 : (("(" : String) : Str).length = 1 := by decide +kernel
    have h4 : (((if (PyData.shownAll xs).length == 1 then ",)" else ")" : String)) : Str).length ≤ 2 := by split <;> decide +kernel
    show (("(" : Str) ++ Str.join ", " (PyData.shownAll xs) ++ (if (PyData.shownAll xs).length == 1 then ",)" else ")" : String)).length ≤ _
    rw [PySem.Str.length_append, PySem.Str.length_append]
    by_cases e : PyData.shownAll xs = []
    · rw [e] at h1 ⊢
      have h5 : (Str.join ", " ([] : List Str)).length = 0 := rfl
      rw [e] at h4
      omega
    · have h5 := join_length_add _ e
      omega
  | .dict _, _, h => by simp [PyData.canLay0] at h
theorem shown_wtAll : ∀ ds : List PyData, PyData.showableAll ds = true → PyData.canLayAll0 ds = true → ((PyData.shownAll ds).map fun t => t.length + 2).sum ≤ wtAll ds
  | [], _, _ => by simp [PyData.shownAll, wtAll]
  | d :: ds, h, hl => by
    simp only [PyData.showableAll, Bool.and_eq_true] at h
    simp only [PyData.canLayAll0, Bool.and_eq_true] at hl
    have h1 := shown_wt d h.1 hl.1
    have h2 := shown_wtAll ds h.2 hl.2
    simp only [PyData.shownAll, wtAll, List.map_cons, List.sum_cons]
    omega
end
/-- data that can be shown and compared; or an empty dict -/
def okD (d : PyData) : Prop := d = .dict [] ∨ (d.showable = true ∧ d.canLay0 = true ∧ d.depth ≤ 60 ∧ wt d ≤ 10000000)
theorem okD.shaped {d : PyData} (h : okD d) : d = .dict [] ∨ SeqAt.shaped d = true := h.imp id fun h => by
  rw [SeqAt.shaped, h.2.1, Bool.true_and]
  exact decide_eq_true (by omega)
theorem okD.showable {d : PyData} (h : okD d) : d.showable = true := by
  rcases h with rfl | h
  · rfl
  · exact h.1
theorem okD.depth {d : PyData} (h : okD d) : d.depth ≤ 60 := by
  rcases h with rfl | h
  · decide +kernel
  · exact h.2.2.1
theorem okD.size {d : PyData} (h : okD d) : d.shown.length ≤ 10000000 := by
  rcases h with rfl | h
  · decide +kernel
  · exact Nat.le_trans (shown_wt d h.1 h.2.1) h.2.2.2
/-- repr, briefly -/
theorem rd_rE {K : PySem.W.Frag} {H : Hp} {Q : VK} {v : V} {d : PyData} (hd : DpE K H v d) (h : okD d) (q : Q (.str d.shown) H) : rReprE K [v] H Q := rd_reprE hd h.showable h.depth h.size q
theorem rd_rEg {K : PySem.W.Frag} {H : Hp} {Q : VK} {v : V} {d : PyData} (hd : DpE K H v d) (h : okD d) (q : ∀ z, z = d.shown → Q (.str z) H) : rReprE K [v] H Q := rd_rE hd h (q _ rfl)
theorem rd_eZ {K : PySem.W.Frag} {H : Hp} {Q : VK} {v : V} {z : Str} {d : PyData} (hd : DpE K H v d) (hz : PyData.strOk z = true) (h : okD d) (q : Q (.bl (isV v z)) H) : rEqZ K v (.str z) H Q := rd_eqZ hd hz h.shaped q
end My

/-! ### P0X: own classes and their refusals -/
namespace My
open PySem PySem.Spec PyProof.Rows L2
/-! #### C.m(..), read off a class -/
section
variable {X : Cx} {o e : Expr} {es : List Expr} {ta : TA} {x : Str} {p1 p2 pos : Pos} {C f : Addr} {m : Str}
/-- IceError.__init__(self, ..): the built-in one, found above an own class that has none -/
theorem pe_upinit {pl : Sem Bool} (hg : Gl X x) (hm : X.mg x = some (.ref C)) (rd : PySem.W.readsIn X.K C (.type "type") = true) (ga : PySem.W.specialIn X.K (.ref C) "__getattribute__" = some (some (.builtin "type.__getattribute__")))
    (vi : PySem.W.findCls X.K (.ref C) (.type "type") "__init__" = some (.val (.builtin "ValueError.__init__"))) (ha : PA X (e :: es) ta) (hdb : (x == ("__debug__" : Str)) = false := by decide)
    (hc : eval (.Call (.Attribute (.Name x p1) "__init__" p2) (e :: es) [] pos) X.env = (do
      let ov ← eval (.Name x p1) X.env
      standAt p2.atName
      let (f, first) ← holding [ov] (getMethod ov "__init__" pl)
      callWith pos f first (backTo pos (starEach (e :: es) X.env)) (backToKw pos (keywordEach [] X.env))) := by rfl)
    (he : starEach (e :: es) X.env = (false, eval e X.env) :: starEach es X.env := by rfl) (hpl : (backTo pos (starEach es X.env)).any (·.1) = false := by rfl) :
    PE X (.Call (.Attribute (.Name x p1) "__init__" p2) (e :: es) [] pos) (tVeI X.K ta) := by
  constructor
  intro pins s σ H Q I h
  refine PySem.W.methodCall_KW (ld_glob I hg hm ?_ hdb) hc
  refine PySem.W.method_cls I.kIn ga ?_
  refine PySem.W.cls_value I.kIn rd vi (by decide +kernel) ?_
  show wpAny _ _ (callWith pos (Value.builtin "ValueError.__init__") [] (backTo pos (starEach (e :: es) X.env)) []) _ _ _
  refine PyProof.Rows.callWith_method1 (thn (ha.run pos pins _ σ H _ (I.tok _) h) ?_) he hpl
  rintro us s1 ⟨vs, H1, I1, r1, a, C1, ws, rfl, hl, T, ea, q⟩
  cases r1 with
  | @cons _ u0 _ ur ra rest =>
    cases (show u0 = Value.ref a from ra)
    have hlen : ur.length ≤ sizeLine := by
      rw [← Paired.length rest, sizeLine_eq]
      omega
    exact oinit_ok T I1 ea hlen fun s' J => ⟨.non, H1, J, rfl, q⟩
/-- C.m(e, ..), m a def of the text, found on C or above -/
theorem pe_ccall {pl : Sem Bool} {CX : CXT} {k : Nat} {fd : FuncData} {ps : List Str} {sp : Sp} {E : L2.St → XK} (hg : Gl X x) (hm : X.mg x = some (.ref C)) (rd : PySem.W.readsIn X.K C (.type "type") = true) (ga : PySem.W.specialIn X.K (.ref C) "__getattribute__" = some (some (.builtin "type.__getattribute__")))
    (vi : PySem.W.findCls X.K (.ref C) (.type "type") m = some (.val (.ref f))) (F : FnOk X.prog X.w X.K X.mg X.base CX k f fd ps sp) (hr : Room k X.A) (hk : PySem.W.keepIn X.K (.ref f) = true) (hb : Binds X.K fd ps []) (hx : ∀ σ, PassesAt CX X σ (E σ))
    (ha : PA X (e :: es) ta) (hdb : (x == ("__debug__" : Str)) = false := by decide)
    (hc : eval (.Call (.Attribute (.Name x p1) m p2) (e :: es) [] pos) X.env = (do
      let ov ← eval (.Name x p1) X.env
      standAt p2.atName
      let (f, first) ← holding [ov] (getMethod ov m pl)
      callWith pos f first (backTo pos (starEach (e :: es) X.env)) (backToKw pos (keywordEach [] X.env))) := by rfl)
    (he : starEach (e :: es) X.env = (false, eval e X.env) :: starEach es X.env := by rfl) (hpl : (backTo pos (starEach es X.env)).any (·.1) = false := by rfl) :
    PE X (.Call (.Attribute (.Name x p1) m p2) (e :: es) [] pos) (tCallS sp E ta) := by
  constructor
  intro pins s σ H Q I h
  refine PySem.W.methodCall_KW (ld_glob I hg hm ?_ hdb) hc
  refine PySem.W.method_cls I.kIn ga ?_
  refine PySem.W.cls_value I.kIn rd vi (by rfl) ?_
  refine PySem.W.callWith_K (h₀ := X.base) I.ok.mod.kin hk (thn (ha.run pos pins _ σ H _ (I.tok _) h) ?_) he hpl
  rintro us s1 ⟨vs, H1, I1, r1, q⟩
  exact ⟨I1.kIn, run_fnS F hr hb (hx σ) I1 r1 q⟩
/-- o.m(e, ..) where m may raise: what is raised is wished for at the caller's slots -/
def tMethS (C : Addr) (m : Str) (sp : Sp) (E : L2.St → XK) (to : TE) (t : TA) : TE := fun σ H Q => to σ H fun x H1 => ∃ a dx fs, x = .ref a ∧ H1 a = some (.ins C dx fs) ∧ fs.lookup m = none ∧ t σ H1 fun vs H2 => sp (x :: vs) H2 Q (E σ)
theorem pe_methS {pl : Sem Bool} {apos : Pos} {to : TE} {CX : CXT} {k : Nat} {fd : FuncData} {ps : List Str} {sp : Sp} {E : L2.St → XK} (ho : PE X o to) (c : Cls X.K C) (hm : Meth X.K C m f) (F : FnOk X.prog X.w X.K X.mg X.base CX k f fd ps sp) (hr : Room k X.A)
    (hb : Binds X.K fd ps []) (hx : ∀ σ, PassesAt CX X σ (E σ)) (ha : PA X (e :: es) ta) (hst : starEach (e :: es) X.env = (false, eval e X.env) :: starEach es X.env := by rfl) (hpl : (backTo pos (starEach es X.env)).any (·.1) = false := by rfl)
    (ht : eval (.Call (.Attribute o m apos) (e :: es) [] pos) X.env = (do
      let ov ← eval o X.env
      standAt apos.atName
      let (f, first) ← holding [ov] (getMethod ov m pl)
      callWith pos f first (backTo pos (starEach (e :: es) X.env)) (backToKw pos (keywordEach [] X.env))) := by rfl) : PE X (.Call (.Attribute o m apos) (e :: es) [] pos) (tMethS C m sp E to ta) := by
  constructor
  intro pins s σ H Q I h
  refine PySem.W.methodCall_KW (pl := pl) (thn (ho.run pins s σ H _ I h) ?_) ht
  rintro u s1 ⟨x, H1, I1, rx, a, dx, fs, rfl, ea, l, q⟩
  cases (show u = Value.ref a from rx)
  refine getmeth_ok I1 ea c hm l ?_
  refine PySem.W.callWith_K (first := [.ref a]) (h₀ := X.base) I.ok.mod.kin hm.kp (thn (ha.run pos pins s1 σ H1 _ I1 q) ?_) hst hpl
  rintro us s2 ⟨vs, H2, I2, r, q2⟩
  exact ⟨I2.kIn, run_fnS (us := .ref a :: us) (vs := .ref a :: vs) F hr hb (hx σ) I2 (.cons rfl r) q2⟩
end
/-! #### nothing is raised: a def that might raise, called where it does not -/
theorem passX0 {X : Cx} : Passes (L2.CX X.prog X.w) X E0 := by
  rintro _ _ _ _ _ _ _ ⟨_, _, _, _, _, _, _, _, _, _, _, _, z⟩
  exact z.elim
theorem passX0S {X : Cx} {σ : L2.St} : PassesAt (L2.CX X.prog X.w) X σ E0 := by
  rintro _ _ _ _ _ _ ⟨_, _, _, _, _, _, _, _, _, _, _, _, z⟩
  exact z.elim
theorem refs_ve1 {c : Addr} : PySem.HandSPX.refsVE [.ref c, .type "ValueError", .type "Exception", .type "BaseException", .type "object"] = true := by
  show PySem.HandSPX.refsVE [.type "ValueError", .type "Exception", .type "BaseException", .type "object"] = true
  decide +kernel
/-- is an error of class X what «except Y» names -/
theorem exm_of {K : PySem.W.Frag} {X Y : Addr} {b : Bool} (hb : PySem.W.subIn K (.ref Y) (.type "BaseException") = some true) (hc : PySem.W.isClsIn K Y = true) (ht : PySem.W.typeIn K (.ref Y) = some (.type "type")) (hs : PySem.W.subIn K (.ref X) (.ref Y) = some b) : PySem.W.exmOne K (.ref X) (.ref Y) = some b := by
  unfold PySem.W.exmOne PySem.W.kitCls
  have hc' : (PySem.W.clsIn K Y).isSome = true := hc
  simp only [hb, hc', ht, hs, beq_self_eq_true, Bool.and_self, if_true]
/-- isinstance of an own class, from the subclass facts -/
theorem kit_sub {K : PySem.W.Frag} {t : Value} {D : Addr} {b : Bool} (hc : PySem.W.isClsIn K D = true) (ht : PySem.W.typeIn K (.ref D) = some (.type "type")) (hd : PySem.W.subIn K (.ref D) (.ref D) = some true) (hs : PySem.W.subIn K t (.ref D) = some b) : PySem.W.kitOne K t (.ref D) = some b := by
  unfold PySem.W.kitOne PySem.W.kitCls
  by_cases e : (t == Value.ref D) = true
  · rw [if_pos e]
    have e2 : t = Value.ref D := eq_of_beq e
    rw [e2, hd] at hs
    exact hs
  · rw [if_neg e]
    have hc' : (PySem.W.clsIn K D).isSome = true := hc
    simp only [hc', ht, beq_self_eq_true, Bool.and_self, if_true]
    exact hs
/-- isinstance(x, D), x an own instance -/
theorem rd_isiC {K : PySem.W.Frag} {H : Hp} {Q : VK} {a C D dx : Addr} {fs : List (Str × V)} {b : Bool} (e : H a = some (.ins C dx fs)) (cl : Cls K C) (ha : PySem.W.findIn K (.ref C) "__class__" = some (some (.builtin "object.__class__")))
    (hn : PySem.W.specialIn K (.builtin "object.__class__") "__get__" = some (some (.builtin "getset_descriptor.__get__"))) (htk : PySem.W.takesIn K (.builtin "object.__class__") = some true) (hm : PySem.W.mroIn K C (.type "object") = some true)
    (k : PySem.W.kitOne K (.ref C) (.ref D) = some b) (q : Q (.bl b) H) : rIsi K [.ref a, .ref D] H Q := ⟨_, _, _, _, b, rfl, .own D, .base (.ins e cl ha hn htk hm), k, q⟩
/-- C(e, ..) where __init__ may raise: what is raised is wished for at the caller's slots -/
def tMakeS (C : Addr) (sp : Sp) (E : L2.St → XK) (t : TA) : TE := fun σ H Q => t σ H fun vs H1 => ∀ x dx, H1 x = none → H1 dx = none → dx ≠ x → sp (.ref x :: vs) (upd (upd H1 dx (.own x)) x (.ins C dx [])) (fun v H2 => v = .non ∧ Q (.ref x) H2) (E σ)
section
variable {X : Cx} {e : Expr} {es : List Expr} {t : TA} {x : Str} {p pos : Pos} {C f : Addr} {CX : CXT} {k : Nat} {fd : FuncData} {ps : List Str} {sp : Sp} {E : L2.St → XK}
theorem pe_makeS (M : Mk X.K C f) (F : FnOk X.prog X.w X.K X.mg X.base CX k f fd ps sp) (hr : Room (k + 1) X.A) (hg : Gl X x) (hm : X.mg x = some (.ref C)) (hb : Binds X.K fd ps []) (hx : ∀ σ, PassesAt CX X σ (E σ)) (ha : PA X (e :: es) t)
    (hdb : (x == ("__debug__" : Str)) = false := by decide) (he : starEach (e :: es) X.env = (false, eval e X.env) :: starEach es X.env := by rfl) (hpl : (backTo pos (starEach es X.env)).any (·.1) = false := by rfl) : PE X (.Call (.Name x p) (e :: es) [] pos) (tMakeS C sp E t) := by
  constructor
  intro pins s0 σ H0 Q I0 h0
  refine wpAny_Call_Name_kw (ld_glob I0 hg hm ?_ hdb)
  refine PySem.W.callWith_K (h₀ := X.base) I0.ok.mod.kin M.kp (thn (ha.run pos pins s0 σ H0 _ I0 h0) ?_) he hpl
  rintro us s ⟨vs, H, I, r, h⟩
  refine ⟨I.kIn, ?_⟩
  have fresh0 : H s.heap.objs.size = none := I.hok.fresh (Nat.le_refl _)
  have fresh1 : H (s.heap.objs.size + 1) = none := I.hok.fresh (Nat.le_succ _)
  have start := h _ _ fresh1 fresh0 (Nat.ne_of_lt (Nat.lt_succ_self _))
  have J := Inv.made (C := C) I
  have rel : Vals (V.ref (s.heap.objs.size + 1) :: vs) (Value.ref (s.heap.objs.size + 1) :: us) := .cons rfl r
  have many : (Value.ref (s.heap.objs.size + 1) :: us).length = ps.length := rel.length.symm.trans (F.len _ _ _ _ start)
  have bind := hb _ (Value.ref (s.heap.objs.size + 1) :: us) J.kIn (by rw [List.append_nil]; exact many)
  rw [List.append_nil] at bind
  have body := F.run _ X.stack _ _ ⟨Value.ref (s.heap.objs.size + 1) :: us, []⟩ _ _ _ (E σ) (hr.make C us []) (J.env0.make C us []) bind rel start
  refine wpAny_call (make_map (f := f) I.kIn M.makes M.init (beq_iff_eq.mp M.fn) (codeAny_mono body ?_))
  intro r1 s1 hq
  match r1, hq with
  | .error _, hq => exact hx σ pins _ _ _ s1 J hq
  | .ok .next, hq => exact False.elim hq
  | .ok .brk, hq => exact False.elim hq
  | .ok .cont, hq => exact False.elim hq
  | .ok (.ret u), hq =>
    obtain ⟨v, H', J', rv, rfl, q⟩ := J.after hq
    exact ⟨rv, ⟨V.ref (s.heap.objs.size + 1), H', J', rfl, q⟩⟩
end
/-! #### refusals: an own class with one value -/
/-- __init__ of a refusal keeps its one value as f -/
def spXInit (C : Addr) (f : Str) : Sp := fun vs H Q _ => ∃ a v, vs = [.ref a, v] ∧ H a = some (exo a C none) ∧ ∀ dx, H dx = none → dx ≠ a → Q .non (upd (upd H dx (exd dx [(f, v)])) a (exo a C (some dx)))
def tRaiseX (C : Addr) (f : Str) (W : WX) (ta : TA) : TS := fun _ σ H => tMkO C (spXInit C f) [] ta σ H fun cls d H' => W cls d σ H'
theorem ps_raiseX {X : Cx} {W : WX} {C fI : Addr} {f x : Str} {k : Nat} {fd : FuncData} {ps : List Str} {e : Expr} {es : List Expr} {ta : TA} {p pos pos2 : Pos} (hcalm : X.calm = true) (tk : Takes X W) (T : OexC X.K C) (iC : PySem.W.findIn X.K (.ref C) "__init__" = some (some (.ref fI)))
    (tI : PySem.W.typeIn X.K (.ref fI) = some (.type "function")) (F1 : FnOk X.prog X.w X.K X.mg X.base CX0 k fI fd ps (spXInit C f)) (hr : Room (k + 1) X.A) (hb : Binds X.K fd ps []) (hg : Gl X x) (hm : X.mg x = some (.ref C)) (ha : PA X (e :: es) ta)
    (hdb : (x == ("__debug__" : Str)) = false := by decide) (he : starEach (e :: es) X.env = (false, eval e X.env) :: starEach es X.env := by rfl) (hpl : (backTo pos (starEach es X.env)).any (·.1) = false := by rfl) :
    PS X (.Raise (some (.Call (.Name x p) (e :: es) [] pos)) none pos2) (tRaiseX C f W ta) := ps_raise hcalm tk (pmk_oex T iC tI F1 hr hb .nil (fun _ _ _ _ _ _ _ h => h.elim) hg hm ha hdb he hpl)
/-- what a refusal's making hands on -/
def RaiseA (C : Addr) (f : Str) (W : WX) (σ : L2.St) : List V → Hp → Prop := fun vs H1 => vs.length ≤ 1000 ∧ ∀ a, H1 a = none → spXInit C f (.ref a :: (vs ++ [])) (upd H1 a (exo a C none))
  (fun v H2 => v = .non ∧ ∃ (d : Addr) (fs : List (Str × V)), H2 a = some (exo a C (some d)) ∧ H2 d = some (exd d fs) ∧ H1 d = none ∧ W (.ref C) (some d) σ (upd (del H2 a) d (.xd fs))) (fun _ _ _ => False)
theorem rd_raiseX {C : Addr} {f : Str} {W : WX} {ta : TA} {D : Ends} {σ : L2.St} {H : Hp} (h : ta σ H (RaiseA C f W σ)) : tRaiseX C f W ta D σ H := h
theorem rd_raise1 {C : Addr} {f : Str} {W : WX} {σ : L2.St} {H : Hp} {v : V} (q : ∀ d, H d = none → W (.ref C) (some d) σ (upd H d (.xd [(f, v)]))) : RaiseA C f W σ [v] H := by
  refine ⟨(show 1 ≤ 1000 by decide), fun a ha => ⟨a, v, rfl, upd_same, fun dx hdx hne => ⟨rfl, dx, [(f, v)], upd_same, ?_, ?_, ?_⟩⟩⟩
  · rw [upd_ne hne, upd_same]
  · rw [upd_ne hne] at hdx
    exact hdx
  · rw [upd_ne hne] at hdx
    have e : upd (del (upd (upd (upd H a (exo a C none)) dx (exd dx [(f, v)])) a (exo a C (some dx))) a) dx (.xd [(f, v)]) = upd H dx (.xd [(f, v)]) := by
      funext b
      by_cases h1 : b = dx
      · subst h1
        rw [upd_same, upd_same]
      · rw [upd_ne h1, upd_ne h1]
        by_cases h2 : b = a
        · subst h2
          rw [del_same, ha]
        · rw [del_ne h2, upd_ne h2, upd_ne h1, upd_ne h2]
    rw [e]
    exact q dx hdx
/-- the reading of __init__ itself -/
theorem xinit_rd {K : PySem.W.Frag} {C : Addr} {f z : Str} {Q : VK} {vs : List V} {H : Hp} {E : XK} {N : List Str} (T : OexC K C) (hno : PySem.W.findIn K (.ref C) f = some none) (h : spXInit C f vs H Q E) :
    tSeq (tDrop (tVeI K (tCons (tVar 0) (tCons (tC (.str z)) tNil)))) (tOst K f (tVar 0) (tVar 1)) { nx := fun _ H' => Q .non H', rt := Q } (L2.start N vs) H := by
  obtain ⟨a, v, rfl, ha, q⟩ := h
  refine ⟨_, rfl, a, C, [.str z], rfl, (show 1 ≤ 1000 by decide), T, ha, ?_⟩
  exact ⟨_, rfl, _, rfl, a, C, rfl, T, hno, .inl ⟨ha, fun dx h1 h2 => q dx h1 h2⟩⟩
/-- a field of an own instance is stored -/
def FldS (K : PySem.W.Frag) (f : Str) (y : V) (D : Ends) (σ : L2.St) : VK := fun x H2 => ∃ a C dx fs, x = .ref a ∧ H2 a = some (.ins C dx fs) ∧ Cls K C ∧ NoAttr K C f ∧ fs.length < 1000 ∧ D.nx σ (upd H2 a (.ins C dx (putF f y fs)))
theorem rd_fldS {K : PySem.W.Frag} {ta tv : TE} {f : Str} {D : Ends} {σ : L2.St} {H : Hp} (h : tv σ H fun y H1 => ta σ H1 (FldS K f y D σ)) : sFld K ta tv f D σ H := h
theorem rd_fldSet {K : PySem.W.Frag} {f : Str} {y : V} {D : Ends} {σ : L2.St} {H : Hp} {a C dx : Addr} {fs : List (Str × V)} (h : H a = some (.ins C dx fs)) (c : Cls K C) (n : NoAttr K C f) (hl : fs.length < 1000) (q : D.nx σ (upd H a (.ins C dx (putF f y fs)))) : FldS K f y D σ (.ref a) H :=
  ⟨a, C, dx, fs, rfl, h, c, n, hl, q⟩
/-- .. is read -/
def FldG (K : PySem.W.Frag) (f : Str) (Q : VK) : VK := fun x H1 => ∃ a C dx fs v, x = .ref a ∧ H1 a = some (.ins C dx fs) ∧ Cls K C ∧ NoAttr K C f ∧ fs.lookup f = some v ∧ Q v H1
theorem rd_fldG {K : PySem.W.Frag} {ta : TE} {f : Str} {Q : VK} {σ : L2.St} {H : Hp} (h : ta σ H (FldG K f Q)) : tFld K ta f σ H Q := h
theorem rd_fldGet {K : PySem.W.Frag} {f : Str} {Q : VK} {H : Hp} {a C dx : Addr} {fs : List (Str × V)} {v : V} (h : H a = some (.ins C dx fs)) (c : Cls K C) (n : NoAttr K C f) (l : fs.lookup f = some v) (q : Q v H) : FldG K f Q (.ref a) H := ⟨a, C, dx, fs, v, rfl, h, c, n, l, q⟩
theorem rd_callS {sp : Sp} {E : L2.St → XK} {tr : TA} {Q : VK} {σ : L2.St} {H : Hp} (h : tr σ H fun vs H1 => sp vs H1 Q (E σ)) : tCallS sp E tr σ H Q := h
theorem pe_fldK {X : Cx} {K : PySem.W.Frag} {e : Expr} {f : Str} {pos : Pos} {ta : TE} (h : X.K = K) (he : PE X e ta) (hb : attributeBase e f X.env (eval e X.env) = eval e X.env := by rfl) : PE X (.Attribute e f pos) (tFld K ta f) := by
  subst h
  exact pe_fld he hb
theorem ps_fldK {X : Cx} {K : PySem.W.Frag} {o value : Expr} {f : Str} {pos pos' : Pos} {ta tv : TE} (h : X.K = K) (ho : PE X o ta) (hv : PE X value tv) (hs : swapsWith value (some (.Attribute o f pos')) pos.line X.env = pure false := by rfl) : PS X (.Assign [.Attribute o f pos'] value pos) (sFld K ta tv f) := by
  subst h
  exact ps_fld ho hv hs
/-- a refusal's value, read in the suite that handles it -/
theorem rd_xf {a C dd : Addr} {fs : List (Str × V)} {f : Str} {te : TE} {v : V} {Q : VK} {σ : L2.St} {H : Hp} (h : te σ H fun x H1 => x = .ref a ∧ Value.ref C = .ref C ∧ ∃ (d2 : Addr) (fs : List (Str × V)) (v : V), some dd = some d2 ∧ H1 d2 = some (.xd fs) ∧ fs.lookup f = some v ∧ Q v H1) : tXf a (.ref C) (some dd) C f te σ H Q := h
theorem rd_xf1 {a C dd : Addr} {f : Str} {i : Nat} {v : V} {Q : VK} {σ : L2.St} {H : Hp} (hv : σ[i]? = some (some (.ref a))) (h : H dd = some (.xd [(f, v)])) (q : Q v H) : tXf a (.ref C) (some dd) C f (tVar i) σ H Q := by
  refine rd_xf (dd := dd) (fs := [(f, v)]) (v := v) ⟨_, hv, rfl, rfl, dd, [(f, v)], v, rfl, h, ?_, q⟩
  rw [List.lookup_cons, beq_self_eq_true]
/-- a method of an own instance is called -/
def MethG (C : Addr) (m : Str) (P : V → Hp → Prop) : VK := fun x H1 => ∃ a dx fs, x = .ref a ∧ H1 a = some (.ins C dx fs) ∧ fs.lookup m = none ∧ P x H1
theorem rd_methG {C : Addr} {m : Str} {P : V → Hp → Prop} {H : Hp} {a dx : Addr} {fs : List (Str × V)} (h : H a = some (.ins C dx fs)) (l : fs.lookup m = none) (q : P (.ref a) H) : MethG C m P (.ref a) H := ⟨a, dx, fs, rfl, h, l, q⟩
theorem rd_methS {C : Addr} {m : Str} {sp : Sp} {E : L2.St → XK} {to : TE} {t : TA} {Q : VK} {σ : L2.St} {H : Hp} (h : to σ H (MethG C m fun x H1 => t σ H1 fun vs H2 => sp (x :: vs) H2 Q (E σ))) : tMethS C m sp E to t σ H Q := h
theorem rd_meth {C : Addr} {m : Str} {sp : Sp} {dvs : List V} {E : XK} {to : TE} {t : TA} {Q : VK} {σ : L2.St} {H : Hp} (h : to σ H (MethG C m fun x H1 => t σ H1 fun vs H2 => sp (x :: (vs ++ dvs)) H2 Q E)) : tMeth C m sp dvs E to t σ H Q := h
/-- an own instance is made -/
def MakeG (C : Addr) (sp : Sp) (Q : VK) (E : XK) : List V → Hp → Prop := fun vs H1 => ∀ x dx, H1 x = none → H1 dx = none → dx ≠ x → sp (.ref x :: vs) (upd (upd H1 dx (.own x)) x (.ins C dx [])) (fun v H2 => v = .non ∧ Q (.ref x) H2) E
theorem rd_makeS {C : Addr} {sp : Sp} {E : L2.St → XK} {t : TA} {Q : VK} {σ : L2.St} {H : Hp} (h : t σ H (MakeG C sp Q (E σ))) : tMakeS C sp E t σ H Q := h
theorem rd_make {C : Addr} {sp : Sp} {E : XK} {t : TA} {Q : VK} {σ : L2.St} {H : Hp} (h : t σ H (fun vs H1 => MakeG C sp Q E (vs ++ []) H1)) : tMake C sp [] E t σ H Q := h
/-- what stood ahead of the making stands behind it -/
theorem make_keep {H H' : Hp} {x dx : Addr} {o1 o2 : HO} (hx : H x = none) (hdx : H dx = none) (k : ∀ b o, (upd (upd H dx o1) x o2) b = some o → b ≠ x → H' b = some o) : ∀ b o, H b = some o → H' b = some o := fun b o h => by
  have h1 := ne_of_none h hx
  have h2 := ne_of_none h hdx
  exact k b o (by rw [upd_ne h1, upd_ne h2]; exact h) h1
end My
local macro_rules | `(tactic| walk_at "nolk") => `(tactic| kernel_rfl)
local macro_rules | `(tactic| walk_at "rd1") => `(tactic| first
  | (with_reducible refine My.rd_fldG ?_)
  | (with_reducible refine My.rd_fldS ?_)
  | ((with_reducible refine My.rd_fldGet (C := ?cc) (dx := ?dd) (fs := ?ff) (v := ?vv) ?hH ?hc ?hn ?hl ?_); (case hH => (first | assumption | walk_at "hp")); (case hc => walk_at "cls"); (case hn => walk_at "noattr"); (case hl => walk_at "lk"))
  | ((with_reducible refine My.rd_methG (dx := ?dd) (fs := ?ff) ?hH ?hl ?_); (case hH => (first | assumption | walk_at "hp")); (case hl => walk_at "nolk"))
  | ((with_reducible refine My.rd_xf1 (v := ?vv) ?hvar ?hH ?_); (case hvar => rfl); (case hH => assumption))
  | (with_reducible refine My.rd_raiseX ?_)
  | (with_reducible refine My.rd_callS ?_)
  | (with_reducible refine My.rd_meth ?_)
  | (with_reducible refine My.rd_methS ?_)
  | (with_reducible refine My.rd_make ?_)
  | (with_reducible refine My.rd_makeS ?_))

/-! ### P0T: several except clauses, some of which name what they caught -/
namespace My
open PySem PySem.Spec PyProof.Rows L2
abbrev Hand : Type := Value × Option Nat × (Addr → Value → Option Addr → TS)
/-- behind a named suite its name is gone -/
abbrev goneD (i : Nat) (D : Ends) : Ends := { nx := fun σ H => D.nx (σ.set i none) H, rt := D.rt, bk := fun σ H => D.bk (σ.set i none) H, ct := fun σ H => D.ct (σ.set i none) H }
/-- what a suite wishes: t at the caught one -/
def suiteR (q : Hand) (D : Ends) (a : Addr) (cls : Value) (d : Option Addr) (σ : L2.St) (H : Hp) : Prop := match q.2.1 with
  | none => q.2.2 a cls d D σ H
  | some i => q.2.2 a cls d (goneD i D) (σ.set i (some (.ref a))) H
theorem suite_named {i : Nat} {c : Value} {t : Addr → Value → Option Addr → TS} {D : Ends} {a : Addr} {cls : Value} {d : Option Addr} {σ : L2.St} {H : Hp} (h : t a cls d (goneD i D) (σ.set i (some (.ref a))) H) : suiteR (c, some i, t) D a cls d σ H := h
theorem suite_plain {c : Value} {t : Addr → Value → Option Addr → TS} {D : Ends} {a : Addr} {cls : Value} {d : Option Addr} {σ : L2.St} {H : Hp} (h : t a cls d D σ H) : suiteR (c, none, t) D a cls d σ H := h
def wNamed (K : PySem.W.Frag) (Wo : WX) (D : Ends) : List Hand → WX
  | [] => Wo
  | q :: r => fun cls d σ H => ∃ b, PySem.W.exmOne K cls q.1 = some b ∧ (b = true → ∀ a, H a = none → suiteR q D a cls d σ H) ∧ (b = false → wNamed K Wo D r cls d σ H)
inductive Hands (X : Cx) : List ExceptHandler → List Hand → Prop
  | nil : Hands X [] []
  | plain {x : Str} {c : Value} {t : Addr → Value → Option Addr → TS} {st : Stmt} {sts : List Stmt} {p1 p2 : Pos} {es : List ExceptHandler} {l : List Hand} (hx : Names X x c)
      (hs : ∀ (a : Addr) (oe : Obj) (cls : Value) (d : Option Addr) (pn : List (Addr × Obj)), Zc cls d oe → (∃ us, oe.data = .fields us) → PSs (X.suite a ((a, oe) :: pn)) (st :: sts) (t a cls d)) (hr : Hands X es l) :
      Hands X (.ExceptHandler (some (.Name x p1)) none (st :: sts) p2 :: es) ((c, none, t) :: l)
  | named {x n : Str} {i : Nat} {c : Value} {t : Addr → Value → Option Addr → TS} {st : Stmt} {sts : List Stmt} {p1 p2 : Pos} {es : List ExceptHandler} {l : List Hand} (hi : X.N[i]? = some n) (hk : X.env.kindOf n = some .local) (hx : Names X x c)
      (hs : ∀ (a : Addr) (oe : Obj) (cls : Value) (d : Option Addr) (pn : List (Addr × Obj)), Zc cls d oe → (∃ us, oe.data = .fields us) → PSs (X.suite a ((a, oe) :: pn)) (st :: sts) (t a cls d)) (hr : Hands X es l) :
      Hands X (.ExceptHandler (some (.Name x p1)) (some n) (st :: sts) p2 :: es) ((c, some i, t) :: l)
theorem ps_tryN {X : Cx} {body : List Stmt} {e0 : ExceptHandler} {es : List ExceptHandler} {l : List Hand} {pos : Pos} {tb : WX → TS} {Wo : WX} (stk : X.stack = X.env :: X.outer) (fra : X.env.frame = some X.env.locals) (dup : X.N.Nodup) (tk : Takes X Wo)
    (hb : ∀ (W : WX) (pn : List (Addr × Obj)) (xe : Value → Shared → Prop), Takes (X.tr pn xe) W → PassesOwn (model X.prog X.w) X.A X.env xe → PSs (X.tr pn xe) body (tb W))
    (hh : Hands X (e0 :: es) l) : PS X (.Try body (e0 :: es) [] [] pos) (fun D σ H => tb (wNamed X.K Wo D l) D σ H) := by
  constructor
  intro pins s σ H D I h
  have okI := I.ok
  have frames : X.A.frames = some (X.env :: X.outer) := okI.frames.trans (congrArg some stk)
  let after : Value → Shared → Prop := fun e s₁ => wpAny (model X.prog X.w) X.A (noteFrame e X.env) (fun _ s₂ => wpAny (model X.prog X.w) X.A (setFlight e none)
    (fun _ s₃ => wpAny (model X.prog X.w) X.A (handleBy e X.env (e0 :: es)) (SP X pins D) X.xe s₃) X.xe s₂) X.xe s₁
  have bodyRun := (hb (wNamed X.K Wo D l) (X.pn ++ pins) after ?caught PassesOwn.looking).run [] s σ H D (I.toTry _) h
  case caught =>
    rintro u s' ⟨a, B, sI, pins', σ1, H1, cls, d, rfl, J0, nb, up, sky0, free, os, ag, wish⟩
    have J : Inv X pins σ1 H1 sI := J0.ofTry okI
    have sky : Sky B (X.env :: X.outer) a (Zc cls d) X.env.locals s'.heap := stk ▸ sky0
    show wpAny (model X.prog X.w) X.A (noteFrame (.ref a) X.env) _ _ _
    refine Sky.land Zc.steady frames fra sky fun hp flies up1 => ?_
    have J1 : Inv X pins σ1 H1 { s' with heap := hp } := J.landed nb flies.1 (up.trans up1) os ag
    obtain ⟨oe, us, atA, zc, dat⟩ := flies.there
    have noFrame : a ∉ frs (X.env :: X.outer) := fun hm => by
      obtain ⟨_, o1, at1, nofr⟩ := flies.2.2.1.mem hm
      cases atA.symm.trans at1
      exact nofr _ dat
    have notLoc : a ≠ X.env.locals := fun z => noFrame (List.mem_filterMap.mpr ⟨X.env, List.mem_cons_self, z ▸ fra⟩)
    have notOut : a ∉ X.fs := fun hm => by
      obtain ⟨e1, in1, q1⟩ := List.mem_filterMap.mp hm
      exact noFrame (List.mem_filterMap.mpr ⟨e1, List.mem_cons_of_mem _ in1, q1⟩)
    have inSuite := J1.suite atA dat free notLoc notOut
    have each : ∀ {es1 : List ExceptHandler} {l1 : List Hand}, Hands X es1 l1 → wNamed X.K Wo D l1 cls d σ1 H1 → wpAny (model X.prog X.w) X.A (handleBy (.ref a) X.env es1) (SP X pins D) X.xe { s' with heap := hp } := by
      intro es1 l1 hk1
      have tested : ∀ {x : Str} {c : Value} {p1 : Pos} {Q E : Value → Shared → Prop}, Names X x c → Q c { s' with heap := hp } → wpAny (model X.prog X.w) (X.A.mark (some (.ref a))) (eval (.Name x p1) X.env) Q E { s' with heap := hp } := by
        intro x c p1 Q E nm q
        obtain ⟨gl, nodb, gm | ⟨gm, bv, bn⟩⟩ := nm
        · exact ld_glob (X := X.suite a ((a, oe) :: (X.pn ++ pins))) inSuite gl gm q nodb
        · exact ld_blt (X := X.suite a ((a, oe) :: (X.pn ++ pins))) inSuite gl gm bv q bn nodb
      have looks : PySem.W.Looks (model X.prog X.w) hp (typeOf (.ref a)) cls := fun A Q E s k q => wpAny_typeOf_ref (k _ _ atA) (zc.1.symm ▸ q)
      induction hk1 with
      | nil =>
        intro wish1
        refine wpAny_handleBy_nil ?_
        obtain ⟨_, _, _, oe2, us2, T2, oT2, ts2, at2, zc2, dat2, first2, rest2⟩ := id flies
        unfold PySem.passOn
        refine wpAny_bind (wpAny_field at2 dat2 first2 ?_)
        have isRef : ¬ ((Value.ref T2 == Value.none) = true) := by simp
        rw [if_neg isRef]
        have onward : wpAny (model X.prog X.w) X.A (setFlight (.ref a) X.env.frame) (fun _ s4 => wpAny (model X.prog X.w) X.A (throw (.ref a) : Sem Flow) (SP X pins D) X.xe s4) X.xe { s' with heap := hp } := by
          rw [fra]
          refine HandSPX.setFlight_upZ flies fun h4 sky4 up4 => wpAny_throw (tk _ _ ?_)
          refine ⟨a, B, sI, pins, σ1, H1, cls, d, rfl, J, nb, (up.trans up1).trans up4, .inr (.inr ?_), free, os, ag, wish1⟩
          exact stk.symm ▸ sky4
        first
        | exact wpAny_bind (wpAny_pure (wpAny_bind onward))
        | exact wpAny_bind onward
      | @plain x c t st sts p1 p2 es2 l2 hx hs hr ih =>
        rintro ⟨b, isx, yes, no⟩
        refine wpAny_handleBy_cons (codeAny_handlers_test ?_) (fun q => by cases q)
        refine tested hx ((PySem.W.exm_one (M := model X.prog X.w) J1.kIn looks isx).here ?_)
        cases b with
        | false => exact ih (no rfl)
        | true =>
          refine codeAny_handlers_suite (HandSPX.lands_againZ flies fun h4 flies4 up4 => ?_)
          have J4 : Inv X pins σ1 H1 { s' with heap := h4 } := J.landed nb flies4.1 ((up.trans up1).trans up4) os ag
          obtain ⟨oe4, us4, at4, zc4, dat4⟩ := flies4.there
          have runs := (hs a oe4 cls d (X.pn ++ pins) zc4 ⟨_, dat4⟩).run [] _ _ H1 _ (J4.suite at4 dat4 free notLoc notOut) (yes rfl a free)
          refine wpAny_mono runs (fun f s6 got => ?_) fun _ _ z => False.elim z
          match f, got with
          | .next, ⟨_, _, S6, q6⟩ => exact ⟨_, _, S6.unsuite okI, q6⟩
          | .brk, ⟨_, _, S6, q6⟩ => exact ⟨_, _, S6.unsuite okI, q6⟩
          | .cont, ⟨_, _, S6, q6⟩ => exact ⟨_, _, S6.unsuite okI, q6⟩
          | .ret u, ⟨_, _, _, S6, r6, q6⟩ => exact ⟨_, _, _, S6.unsuite okI, r6, q6⟩
      | @named x n i c t st sts p1 p2 es2 l2 hi hk hx hs hr ih =>
        rintro ⟨b, isx, yes, no⟩
        refine wpAny_handleBy_cons (codeAny_handlers_test ?_) (fun q => by cases q)
        refine tested hx ((PySem.W.exm_one (M := model X.prog X.w) J1.kIn looks isx).here ?_)
        cases b with
        | false => exact ih (no rfl)
        | true =>
          have isLoc : Loc X.env.scope n := .inl hk
          refine codeAny_handlers_suite_as (HandSPX.lands_againZ flies fun h4 flies4 up4 => ?_)
          have J4 : Inv X pins σ1 H1 { s' with heap := h4 } := J.landed nb flies4.1 ((up.trans up1).trans up4) os ag
          obtain ⟨oe4, us4, at4, zc4, dat4⟩ := flies4.there
          refine store_ok (X := X.suite a ((a, oe4) :: (X.pn ++ pins))) (v := .ref a) (J4.suite at4 dat4 free notLoc notOut) dup hi isLoc rfl (fun s5 S5 => ?_) (.inr hk)
          have runs := (hs a oe4 cls d (X.pn ++ pins) zc4 ⟨_, dat4⟩).run [] s5 _ H1 _ S5 (yes rfl a free)
          refine wpAny_mono runs (fun f s6 got => ?_) fun _ _ z => False.elim z
          have unnamed : ∀ {σ6 : L2.St} {H6 : Hp} {Q : Shared → Prop}, Inv (X.suite a ((a, oe4) :: (X.pn ++ pins))) [] σ6 H6 s6 → (∀ s7, Inv X pins (σ6.set i none) H6 s7 → Q s7) →
              wpAny (model X.prog X.w) X.A (do bindName X.env n .none; unbindBehindTheSuite X.env n p2) (fun _ s7 => Q s7) X.xe s6 := fun S6 hq => gone_ok (S6.unsuite okI) dup hi hk hq
          match f, got with
          | .next, ⟨_, _, S6, q6⟩ => exact unnamed S6 fun s7 J7 => ⟨_, _, J7, q6⟩
          | .brk, ⟨_, _, S6, q6⟩ => exact unnamed S6 fun s7 J7 => ⟨_, _, J7, q6⟩
          | .cont, ⟨_, _, S6, q6⟩ => exact unnamed S6 fun s7 J7 => ⟨_, _, J7, q6⟩
          | .ret u, ⟨_, _, _, S6, r6, q6⟩ => exact unnamed S6 fun s7 J7 => ⟨_, _, _, J7, r6, q6⟩
    exact each hh wish
  refine wpAny_Try_except (wpAny_mono bodyRun (fun f s1 got => ?_) fun e s1 he => he)
  match f, got with
  | .next, ⟨_, _, J1, q⟩ => exact wpAny_execs_nil ⟨_, _, J1.ofTry okI, q⟩
  | .brk, ⟨_, _, J1, q⟩ => exact ⟨_, _, J1.ofTry okI, q⟩
  | .cont, ⟨_, _, J1, q⟩ => exact ⟨_, _, J1.ofTry okI, q⟩
  | .ret u, ⟨_, _, _, J1, r, q⟩ => exact ⟨_, _, _, J1.ofTry okI, r, q⟩
/-- two ways to read one expression: a call whose receiver may be of either class -/
def tAlt (t u : TE) : TE := fun σ H Q => t σ H Q ∨ u σ H Q
theorem pe_alt {X : Cx} {e : Expr} {t u : TE} (h1 : PE X e t) (h2 : PE X e u) : PE X e (tAlt t u) := by
  constructor
  intro pins s σ H Q I h
  rcases h with h | h
  · exact h1.run pins s σ H Q I h
  · exact h2.run pins s σ H Q I h
theorem rd_altL {t u : TE} {σ : L2.St} {H : Hp} {Q : VK} (h : t σ H Q) : tAlt t u σ H Q := .inl h
theorem rd_altR {t u : TE} {σ : L2.St} {H : Hp} {Q : VK} (h : u σ H Q) : tAlt t u σ H Q := .inr h
end My

namespace My
open PySem PySem.Spec PyProof.Rows L2
/-! ### heaps: all but p stands; a draw's box -/
def KeepB (p : Addr) (H H' : Hp) : Prop := ∀ b o, H b = some o → b ≠ p → H' b = some o
theorem KeepB.refl (p : Addr) (H : Hp) : KeepB p H H := fun _ _ h _ => h
theorem KeepB.trans {p : Addr} {H H1 H2 : Hp} (a : KeepB p H H1) (b : KeepB p H1 H2) : KeepB p H H2 := fun c o h n => b c o (a c o h n) n
theorem Same.keepB {p : Addr} {H H' : Hp} (a : Same H H') : KeepB p H H' := fun c o h _ => a c o h
theorem KeepB.same {p : Addr} {H H1 H2 : Hp} (a : KeepB p H1 H2) (e : Same H H1) (hp : H p = none) : Same H H2 := fun c o h => a c o (e c o h) (ne_of_none h hp)
theorem same_new {H : Hp} {p : Addr} {o : HO} (h : H p = none) : Same H (upd H p o) := fun b x e => by
  rw [upd_ne (ne_of_none e h)]
  exact e
theorem keepB_upd {H : Hp} {p : Addr} {o : HO} : KeepB p H (upd H p o) := fun b x e n => by
  rw [upd_ne n]
  exact e
/-- a box: what is left of the cell, its seed, its count, at most n -/
def BoxAt (H : Hp) (p : Addr) (n : Nat) : Prop := ∃ a b c : Int, H p = some (.lst [.int a, .int b, .int c]) ∧ 0 ≤ a ∧ 0 ≤ b ∧ b < 2147483629 ∧ 0 ≤ c ∧ c ≤ (n : Int)
theorem BoxAt.mono {H : Hp} {p : Addr} {n m : Nat} (h : BoxAt H p n) (l : n ≤ m) : BoxAt H p m := by
  obtain ⟨a, b, c, e, h1, h2, h3, h4, h5⟩ := h
  exact ⟨a, b, c, e, h1, h2, h3, h4, by omega⟩
theorem BoxAt.keep {H H' : Hp} {p : Addr} {n : Nat} (h : BoxAt H p n) (s : Same H H') : BoxAt H' p n := by
  obtain ⟨a, b, c, e, r⟩ := h
  exact ⟨a, b, c, s _ _ e, r⟩
theorem BoxAt.ne {H : Hp} {p q : Addr} {n : Nat} (h : BoxAt H p n) (e : H q = none) : q ≠ p := by
  obtain ⟨a, b, c, e1, r⟩ := h
  exact (ne_of_none e1 e).symm
theorem log2_small {j : Int} (h0 : 0 < j) (h : j < 2 ^ 200) : j.natAbs.log2 < 9000 := by
  have : j.natAbs < 2 ^ 200 := by omega
  exact Nat.lt_of_lt_of_le (PySem.Flt.log2_lt_of (by decide) this) (by decide)
theorem KeepB.seqL {K : PySem.W.Frag} {H H' : Hp} {p a : Addr} {xs : List V} (e : KeepB p H H') (h : SqL K H a xs) (n : a ≠ p) : SqL K H' a xs := by
  rcases h with (h | ⟨o, h⟩) | h
  · exact .inl (.inl (e _ _ h n))
  · exact .inl (.inr ⟨o, e _ _ h n⟩)
  · exact .inr h
theorem BoxAt.new {H : Hp} {p q : Addr} {n : Nat} {o : HO} (h : BoxAt H p n) (e : p ≠ q) : BoxAt (upd H q o) p n := by
  obtain ⟨a, b, c, e1, r⟩ := h
  exact ⟨a, b, c, by rw [upd_ne e]; exact e1, r⟩
theorem KeepB.new {p q : Addr} {H H1 : Hp} {o : HO} (k : KeepB p H H1) (e : H q = none) : KeepB p H (upd H1 q o) := fun b x h n => by
  rw [upd_ne (ne_of_none h e)]
  exact k b x h n
theorem wo_sub {l : Addr} {H : Hp} : Same (Wo l H) H := fun b o e => by
  by_cases h : b = l
  · subst h
    rw [wo_same] at e
    cases e
  · rw [wo_ne h] at e
    exact e
theorem Same.seqT {K : PySem.W.Frag} {H H' : Hp} {a : Addr} {xs : List V} (e : Same H H') (h : SqT K H a xs) : SqT K H' a xs := by
  rcases h with (h | ⟨o, h⟩) | h
  · exact .inl (.inl (e _ _ h))
  · exact .inl (.inr ⟨o, e _ _ h⟩)
  · exact .inr h
theorem same_wo {l : Addr} {H H' : Hp} (e : Same H H') : Same (Wo l H) (Wo l H') := fun b o h => by
  by_cases hb : b = l
  · subst hb
    rw [wo_same] at h
    cases h
  · rw [wo_ne hb] at h ⊢
    exact e _ _ h
theorem wo_none {l p : Addr} {H : Hp} (h : H p = none) : Wo l H p = none := by
  by_cases hb : p = l
  · subst hb
    exact wo_same
  · rw [wo_ne hb]
    exact h
theorem BoxAt.wo {l p : Addr} {H : Hp} {n : Nat} (h : BoxAt H p n) (e : p ≠ l) : BoxAt (Wo l H) p n := by
  obtain ⟨a, b, c, e1, r⟩ := h
  exact ⟨a, b, c, by rw [wo_ne e]; exact e1, r⟩
theorem same_to_wo {l : Addr} {H H' : Hp} (e : Same H H') (h : H l = none) : Same H (Wo l H') := fun b o hb => by
  rw [wo_ne (ne_of_none hb h)]
  exact e _ _ hb
/-! ### solvers: what stands where -/
/-- q is free in H -/
structure Nn (H : Hp) (q : Addr) : Prop where
  e : H q = none
theorem iteTd {b : Bool} {A B : Prop} (h : b = true) (a : A) : if b = true then A else B := by rw [if_pos h]; exact a
theorem iteFd {b : Bool} {A B : Prop} (h : b = false) (a : B) : if b = true then A else B := by rw [if_neg (by rw [h]; decide)]; exact a
theorem hp_same {H H' : Hp} {p : Addr} {o : HO} (s : Same H H') (h : H p = some o) : H' p = some o := s _ _ h
theorem hp_kb {H H' : Hp} {p q : Addr} {o : HO} (s : KeepB p H H') (n : q ≠ p) (h : H q = some o) : H' q = some o := s _ _ h n
theorem hp_upd {H : Hp} {p q : Addr} {o u : HO} (n : q ≠ p) (h : H q = some o) : upd H p u q = some o := by
  rw [upd_ne n]
  exact h
theorem ne_nn {H : Hp} {a b : Addr} {o : HO} (n : Nn H b) (h : H a = some o) : a ≠ b := ne_of_none h n.e
theorem ne_box {H : Hp} {p a : Addr} {n : Nat} (f : Nn H a) (h : BoxAt H p n) : a ≠ p := h.ne f.e
theorem kb_same {p : Addr} {H H1 H2 : Hp} (s : Same H1 H2) (g : KeepB p H H1) : KeepB p H H2 := g.trans (Same.keepB s)
theorem kb_kb {p : Addr} {H H1 H2 : Hp} (s : KeepB p H1 H2) (g : KeepB p H H1) : KeepB p H H2 := g.trans s
theorem kb_skip {p q : Addr} {H H1 H2 : Hp} (s : KeepB q H1 H2) (n : H q = none) (g : KeepB p H H1) : KeepB p H H2 := fun b o h hn => s b o (g b o h hn) (ne_of_none h n)
theorem kb_put {p : Addr} {H H1 : Hp} {o : HO} (g : KeepB p H H1) : KeepB p H (upd H1 p o) := fun b x h n => by
  rw [upd_ne n]
  exact g b x h n
theorem kb_new {p q : Addr} {H H1 : Hp} {o : HO} (n : H q = none) (g : KeepB p H H1) : KeepB p H (upd H1 q o) := fun b x h hn => by
  rw [upd_ne (ne_of_none h n)]
  exact g b x h hn
theorem sm_same {H H1 H2 : Hp} (s : Same H1 H2) (g : Same H H1) : Same H H2 := g.trans s
theorem sm_skip {q : Addr} {H H1 H2 : Hp} (s : KeepB q H1 H2) (n : H q = none) (g : Same H H1) : Same H H2 := fun b o h => s b o (g b o h) (ne_of_none h n)
theorem sm_new {q : Addr} {H H1 : Hp} {o : HO} (n : H q = none) (g : Same H H1) : Same H (upd H1 q o) := fun b x h => by
  rw [upd_ne (ne_of_none h n)]
  exact g b x h
theorem nn_same {q : Addr} {H H1 : Hp} (n : Nn H1 q) (s : Same H H1) : H q = none := by
  cases e : H q with
  | none => rfl
  | some o => exact absurd ((s _ _ e).symm.trans n.e) nofun
theorem nn_box {p q : Addr} {m : Nat} {H H1 : Hp} (n : Nn H1 q) (hB : BoxAt H1 p m) (k : KeepB p H H1) : H q = none := by
  cases e : H q with
  | none => rfl
  | some o => exact absurd ((k _ _ e (hB.ne n.e)).symm.trans n.e) nofun
theorem bx_kb {p q : Addr} {n : Nat} {H H' : Hp} (s : KeepB q H H') (ne : p ≠ q) (h : BoxAt H p n) : BoxAt H' p n := by
  obtain ⟨a, b, c, e, r⟩ := h
  exact ⟨a, b, c, s _ _ e ne, r⟩
theorem bx_nn {p q : Addr} {n : Nat} {H : Hp} (h : BoxAt H p n) (f : Nn H q) : p ≠ q := (h.ne f.e).symm
local macro_rules | `(tactic| walk_at "hp") => `(tactic| first
  | assumption
  | exact L2.upd_same
  | ((with_reducible refine My.hp_upd (o := ?ho) ?hn ?hh); (case hh => walk_at "hp"); (case hn => walk_at "ne"))
  | ((with_reducible refine My.hp_same (H := ?hH) (o := ?ho) ?hs ?hh); (case hs => assumption); (case hh => walk_at "hp"))
  | ((with_reducible refine My.hp_kb (H := ?hH) (p := ?hq) (o := ?ho) ?hs ?hn ?hh); (case hs => assumption); (case hh => walk_at "hp"); (case hn => walk_at "ne")))
local macro_rules | `(tactic| walk_at "bx0") => `(tactic| first
  | assumption
  | ((with_reducible refine My.BoxAt.keep (H := ?hH) (n := ?hm) ?hh ?hs); (case hs => assumption); (case hh => walk_at "bx0"))
  | ((with_reducible refine My.bx_kb (H := ?hH) (q := ?hq) (n := ?hm) ?hs ?hn ?hh); (case hs => assumption); (case hh => walk_at "bx0"); (case hn => walk_at "ne"))
  | ((with_reducible refine My.BoxAt.new (n := ?hm) ?hh ?hn); (case hh => walk_at "bx0"); (case hn => walk_at "ne")))
local macro_rules | `(tactic| walk_at "bx") => `(tactic| first
  | walk_at "bx0"
  | ((with_reducible refine My.BoxAt.mono (n := ?hm) ?hh ?hl); (case hh => walk_at "bx0"); (case hl => omega)))
local macro_rules | `(tactic| walk_at "ne") => `(tactic| first
  | assumption
  | (refine Ne.symm ?_; assumption)
  | ((with_reducible refine My.ne_nn (H := ?hH) (o := ?ho) ?hn ?hh); (case hn => assumption); (case hh => walk_at "hp"))
  | ((with_reducible refine Ne.symm (My.ne_nn (H := ?hH) (o := ?ho) ?hn ?hh)); (case hn => assumption); (case hh => walk_at "hp"))
  | ((with_reducible refine My.ne_box (H := ?hH) (n := ?hm) ?hn ?hh); (case hn => assumption); (case hh => walk_at "bx0"))
  | ((with_reducible refine Ne.symm (My.ne_box (H := ?hH) (n := ?hm) ?hn ?hh)); (case hn => assumption); (case hh => walk_at "bx0"))
  | ((refine L2.ne_of (H := ?hH) (o := L2.HO.tup ?ho) (u := L2.HO.lst ?hu) ?h1 ?h2 nofun); (case h1 => assumption); (case h2 => walk_at "hp"))
  | ((refine L2.ne_of (H := ?hH) (o := L2.HO.lst ?ho) (u := L2.HO.tup ?hu) ?h1 ?h2 nofun); (case h1 => assumption); (case h2 => walk_at "hp")))
local macro_rules | `(tactic| walk_at "nn") => `(tactic| first
  | assumption
  | exact My.Nn.e (by assumption)
  | ((with_reducible refine My.nn_same (H1 := ?hH) ?hn ?hs); (case hn => assumption); (case hs => walk_at "sm"))
  | ((with_reducible refine My.nn_box (H1 := ?hH) (p := ?hp) (m := ?hm) ?hn ?hb ?hs); (case hn => assumption); (case hb => walk_at "bx0"); (case hs => walk_at "kb")))
local macro_rules | `(tactic| walk_at "kb") => `(tactic| first
  | assumption
  | (with_reducible exact My.KeepB.refl _ _)
  | ((with_reducible refine My.kb_put ?hg); (case hg => walk_at "kb"))
  | ((with_reducible refine My.kb_new ?hn ?hg); (case hg => walk_at "kb"); (case hn => walk_at "nn"))
  | ((with_reducible refine My.kb_same (H1 := ?hH) ?hs ?hg); (case hs => assumption); (case hg => walk_at "kb"))
  | ((with_reducible refine My.kb_kb (H1 := ?hH) ?hs ?hg); (case hs => assumption); (case hg => walk_at "kb"))
  | ((with_reducible refine My.kb_skip (q := ?hq) (H1 := ?hH) ?hs ?hn ?hg); (case hs => assumption); (case hg => walk_at "kb"); (case hn => walk_at "nn")))
local macro_rules | `(tactic| walk_at "sm") => `(tactic| first
  | assumption
  | (with_reducible exact L2.Same.refl _)
  | ((with_reducible refine My.sm_new ?hn ?hg); (case hg => walk_at "sm"); (case hn => walk_at "nn"))
  | ((with_reducible refine My.sm_same (H1 := ?hH) ?hs ?hg); (case hs => assumption); (case hg => walk_at "sm"))
  | ((with_reducible refine My.sm_skip (q := ?hq) (H1 := ?hH) ?hs ?hn ?hg); (case hs => assumption); (case hg => walk_at "sm"); (case hn => walk_at "nn")))
/-- what else is kept (a law of one's own adds rows ahead) -/
local macro_rules | `(tactic| walk_at "at") => `(tactic| first | assumption | fail "at")
local macro_rules | `(tactic| walk_at "sl") => `(tactic| first
  | assumption
  | ((refine My.sqL_of (xs := ?hx) ?hh); (case hh => walk_at "hp"))
  | ((with_reducible refine L2.Same.seq (H := ?hH) (xs := ?hx) ?hs ?hh); (case hh => assumption); (case hs => walk_at "sm"))
  | ((with_reducible refine My.KeepB.seqL (H := ?hH) (p := ?hq) (xs := ?hx) ?hs ?hh ?hn); (case hs => assumption); (case hh => walk_at "sl"); (case hn => walk_at "ne")))
local macro_rules | `(tactic| walk_at "st") => `(tactic| first
  | assumption
  | ((refine My.sqT_of (xs := ?hx) ?hh); (case hh => walk_at "hp"))
  | ((with_reducible refine My.Same.seqT (H := ?hH) (xs := ?hx) ?hs ?hh); (case hh => assumption); (case hs => walk_at "sm")))
local macro_rules | `(tactic| walk_at "sql") => `(tactic| walk_at "sl")
local macro_rules | `(tactic| walk_at "sqt") => `(tactic| walk_at "st")
/-- of numbers -/
local macro_rules | `(tactic| walk_at "ar") => `(tactic| first | assumption | omega | (simp only [List.length_map, List.length_cons, List.length_nil]; omega) | decide | (simp only [List.length_map, List.length_cons, List.length_nil] at *; omega))
/-- any side goal -/
local macro_rules | `(tactic| walk_at "sd") => `(tactic| first
  | assumption
  | rfl
  | omega
  | ((with_reducible show My.Same _ _); walk_at "sm")
  | ((with_reducible show L2.Same _ _); walk_at "sm")
  | ((with_reducible show My.KeepB _ _ _); walk_at "kb")
  | ((with_reducible show My.BoxAt _ _ _); walk_at "bx")
  | ((with_reducible show L2.SqL _ _ _ _); walk_at "sl")
  | ((with_reducible show L2.SqT _ _ _ _); walk_at "st")
  | ((with_reducible show _ ≠ _); walk_at "ne")
  | ((with_reducible show _ = Option.none); walk_at "nn")
  | walk_at "at"
  | walk_at "hp"
  | (simp; done)
  | trivial)
section
variable {K : PySem.W.Frag} {σ : L2.St} {H : Hp} {i : Nat} {v x y : V} {Q : VK}
theorem rd_lstB {xs : List V} (q : ∀ p H', Nn H p → Same H H' → H' p = some (.lst xs) → Q (.ref p) H') (hz : xs.length ≤ 100000 := by (first | exact Nat.zero_le _ | decide | (simp; done) | (simp; omega))) : LstK Q xs H := rd_lstA hz fun p H' n => q p H' ⟨n⟩
theorem rd_tupB {xs : List V} (q : ∀ p H', Nn H p → Same H H' → H' p = some (.tup xs) → Q (.ref p) H') (hz : xs.length ≤ 100000 := by (first | exact Nat.zero_le _ | decide | (simp; done) | (simp; omega))) : TupK Q xs H := rd_tupA hz fun p H' n => q p H' ⟨n⟩
theorem rd_revB {p : Addr} {xs : List V} (q : ∀ p H', Nn H p → Same H H' → H' p = some (.lst xs.reverse) → Q (.ref p) H') (h : SqL K H p xs := by walk_at "sl") : RevK K Q (.ref p) H := rd_revK h fun p H' n => q p H' ⟨n⟩
theorem rd_catB {l b : Addr} {xs zs : List V} (q : ∀ p H', Nn H p → Same H H' → H' p = some (.lst (xs ++ zs)) → Q (.ref p) H') (h1 : H l = some (.lst xs) := by walk_at "hp") (h2 : H b = some (.lst zs) := by walk_at "hp") (hz : xs.length + zs.length ≤ 100000 := by (first | exact Nat.zero_le _ | decide | (simp; done) | (simp; omega))) : rCat (.ref l) (.ref b) H Q := rd_cat h1 h2 hz fun p H' n => q p H' ⟨n⟩
theorem rd_catT {a b : Addr} {x y : V} {xs ys : List V} (q : ∀ p H', Nn H p → Same H H' → H' p = some (.tup ((x :: xs) ++ (y :: ys))) → Q (.ref p) H') (h1 : SqT K H a (x :: xs) := by walk_at "st") (h2 : SqT K H b (y :: ys) := by walk_at "st") (hz : (x :: xs).length + (y :: ys).length ≤ 100000 := by (first | exact Nat.zero_le _ | decide | (simp; done) | (simp; omega))) : rCatA K (.ref a) (.ref b) H Q := rd_catA h1 h2 hz fun p H' n => q p H' ⟨n⟩
theorem rd_dnewB (q : ∀ p H', Nn H p → Same H H' → H' p = some (.dK []) → Q (.ref p) H') : tDNewK σ H Q := rd_dnew fun p H' n => q p H' ⟨n⟩
theorem rd_ilB {R : It → Hp → Prop} {p : Addr} {xs : List V} (q : R (Itl K p) H) (h : SqL K H p xs := by walk_at "sl") : LstIt K R (.ref p) H := rd_il h q
theorem rd_itB {R : It → Hp → Prop} {p : Addr} {xs : List V} (q : R (Itt K p) H) (h : SqT K H p xs := by walk_at "st") : TupIt K R (.ref p) H := rd_it h q
end
/-! ### data: how big, and solvers -/
structure Sm (n w : Nat) (d : PyData) : Prop where
  s : d.showable = true
  c : d.canLay0 = true
  p : d.depth ≤ n
  w : wt d ≤ w
theorem Sm.ok {n w : Nat} {d : PyData} (h : Sm n w d) (hn : n ≤ 60 := by decide) (hw : w ≤ 10000000 := by decide) : okD d := .inr ⟨h.s, h.c, Nat.le_trans h.p hn, Nat.le_trans h.w hw⟩
theorem Sm.mono {n w n' w' : Nat} {d : PyData} (h : Sm n w d) (hn : n ≤ n') (hw : w ≤ w') : Sm n' w' d := ⟨h.s, h.c, Nat.le_trans h.p hn, Nat.le_trans h.w hw⟩
theorem Sm.non : Sm 0 2000 .none := ⟨rfl, rfl, by decide +kernel, by decide +kernel⟩
theorem Sm.bl {b : Bool} : Sm 0 2000 (.bool b) := by cases b <;> exact ⟨rfl, rfl, by decide +kernel, by decide +kernel⟩
theorem int_log {i : Int} (h : i.natAbs ≤ 10000000000000000000000000000000000000000000000000000000000000000000000) : i.natAbs.log2 < 1920 := Nat.lt_of_lt_of_le (PySem.Flt.log2_lt_of (k := 240) (by decide) (Nat.lt_of_le_of_lt h (by decide))) (by decide)
theorem Sm.int {i : Int} (h : i.natAbs ≤ 10000000000000000000000000000000000000000000000000000000000000000000000) : Sm 0 2000 (.int i) := ⟨decide_eq_true (int_log h), rfl, by simp [PyData.depth], by simp [wt]⟩
theorem Sm.str {z : Str} (h : PyData.strOk z = true) (l : z.length ≤ 199) : Sm 0 2000 (.str z) := ⟨rfl, by simp only [PyData.canLay0, h], by simp [PyData.depth], by simp only [wt]; omega⟩
theorem sm_all {n w : Nat} : ∀ {ds : List PyData}, (∀ d ∈ ds, Sm n w d) → PyData.showableAll ds = true ∧ PyData.canLayAll0 ds = true ∧ PyData.depthAll ds ≤ n ∧ wtAll ds ≤ ds.length * (w + 2)
  | [], _ => by simp [PyData.showableAll, PyData.canLayAll0, PyData.depthAll, wtAll]
  | d :: ds, h => by
    obtain ⟨a, b, c, e⟩ := sm_all fun x hx => h x (List.mem_cons_of_mem _ hx)
    obtain ⟨a1, b1, c1, e1⟩ := h d List.mem_cons_self
    refine ⟨?_, ?_, ?_, ?_⟩
    · simp only [PyData.showableAll, a, a1, Bool.and_self]
    · simp only [PyData.canLayAll0, b, b1, Bool.and_self]
    · simp only [PyData.depthAll]
      omega
    · simp only [wtAll, List.length_cons, Nat.add_mul]
      omega
theorem Sm.tup {n w m : Nat} {ds : List PyData} (h : ∀ d ∈ ds, Sm n w d) (l : ds.length ≤ m) : Sm (n + 1) (m * (w + 2) + 4) (.tuple ds) := by
  obtain ⟨a, b, c, e⟩ := sm_all h
  have := Nat.mul_le_mul_right (w + 2) l
  refine ⟨by simp only [PyData.showable, a], by simp only [PyData.canLay0, b], by simp only [PyData.depth]; omega, by simp only [wt]; omega⟩
theorem Sm.lst {n w m : Nat} {ds : List PyData} (h : ∀ d ∈ ds, Sm n w d) (l : ds.length ≤ m) : Sm (n + 1) (m * (w + 2) + 4) (.list ds) := by
  obtain ⟨a, b, c, e⟩ := sm_all h
  have := Nat.mul_le_mul_right (w + 2) l
  refine ⟨by simp only [PyData.showable, a], by simp only [PyData.canLay0, b], by simp only [PyData.depth]; omega, by simp only [wt]; omega⟩
theorem sm_nil {n w : Nat} : ∀ d ∈ ([] : List PyData), Sm n w d := fun _ h => nomatch h
theorem sm_cons {n w : Nat} {d : PyData} {ds : List PyData} (h : Sm n w d) (r : ∀ d ∈ ds, Sm n w d) : ∀ x ∈ d :: ds, Sm n w x := fun x hx => by
  rcases List.mem_cons.mp hx with rfl | hx
  · exact h
  · exact r x hx
/-- a leaf -/
local macro_rules | `(tactic| walk_at "sm0") => `(tactic| first
  | exact My.Sm.non
  | exact My.Sm.bl
  | (refine My.Sm.int ?_; omega)
  | (refine My.Sm.int ?_; decide)
  | (refine My.Sm.str ?_ ?_ <;> walk_at "txt"))
local macro_rules | `(tactic| walk_at "txt") => `(tactic| first | assumption | omega | decide +kernel)
local macro_rules | `(tactic| walk_at "sml") => `(tactic| first
  | exact My.sm_nil
  | (refine My.sm_cons ?_ ?_; walk_at "smd"; walk_at "sml"))
local macro_rules | `(tactic| walk_at "smd") => `(tactic| first
  | assumption
  | walk_at "sm0"
  | ((refine My.Sm.mono (My.Sm.tup (n := 0) (w := 2000) (m := 12) ?_ ?_) (by decide) (by decide)); walk_at "sml"; (simp; done))
  | ((refine My.Sm.mono (My.Sm.lst (n := 0) (w := 2000) (m := 12) ?_ ?_) (by decide) (by decide)); walk_at "sml"; (simp; done)))
/-- data that is not too big: a leaf; leaves; rows of leaves -/
local macro_rules | `(tactic| walk_at "ok") => `(tactic| first
  | assumption
  | exact .inl rfl
  | (refine My.Sm.ok (n := 0) (w := 2000) ?_; walk_at "sm0")
  | (refine My.Sm.ok (My.Sm.tup (n := 0) (w := 2000) (m := 50) ?_ ?_); walk_at "sml"; (simp; done))
  | (refine My.Sm.ok (My.Sm.lst (n := 0) (w := 2000) (m := 50) ?_ ?_); walk_at "sml"; (simp; done))
  | (refine My.Sm.ok (My.Sm.tup (n := 1) (w := 26000) (m := 50) ?_ ?_); walk_at "sml"; (simp; done))
  | (refine My.Sm.ok (My.Sm.lst (n := 1) (w := 26000) (m := 50) ?_ ?_); walk_at "sml"; (simp; done)))
/-- what a value is as data -/
local macro_rules | `(tactic| walk_at "dq") => `(tactic| first
  | assumption
  | exact L2.Dp.non
  | exact L2.Dp.bl _
  | exact L2.Dp.int _
  | exact L2.Dp.str _
  | ((refine L2.Dp.tup (xs := ?hx) (ds := ?hd) ?hh ?ha); (case hh => walk_at "st"); (case ha => walk_at "da"))
  | ((refine L2.Dp.lst (xs := ?hx) (ds := ?hd) ?hh ?ha); (case hh => walk_at "sl"); (case ha => walk_at "da"))
  | ((refine My.dp_same (H := ?hH) ?hs ?hd _ ?hh); (case hh => assumption); (case hs => walk_at "sm")))
local macro_rules | `(tactic| walk_at "da") => `(tactic| first
  | assumption
  | exact L2.DpAll.nil
  | ((refine L2.DpAll.cons (d := ?hd) (ds := ?he) ?h1 ?h2); (case h1 => walk_at "dq"); (case h2 => walk_at "da")))
local macro_rules | `(tactic| walk_at "dp") => `(tactic| first
  | assumption
  | ((refine My.DpE.dp (d := ?hd) ?hh); (case hh => walk_at "dq"))
  | (refine My.DpE.dK ?hh; walk_at "hp")
  | ((refine My.DpE.same (H := ?hH) (d := ?hd) ?hs ?hh); (case hh => assumption); (case hs => walk_at "sm")))
theorem rd_rZ {K : PySem.W.Frag} {H : Hp} {Q : VK} {v : V} {d : PyData} (q : ∀ z, z = d.shown → Q (.str z) H) (hd : DpE K H v d := by walk_at "dp") (h : okD d := by walk_at "ok") : rReprE K [v] H Q := rd_rEg hd h q
theorem rd_neB {K : PySem.W.Frag} {H : Hp} {Q : VK} {x y : V} {d e : PyData} (q : Q (.bl (!PyData.eqv d e)) H) (hd : Dp K H x d := by walk_at "dq") (he : Dp K H y e := by walk_at "dq") (sd : SeqAt.shaped d = true := by walk_at "shp") (se : SeqAt.shaped e = true := by walk_at "shp") : rNeD K x y H Q := rd_neD hd he sd se q
theorem rd_eqB {K : PySem.W.Frag} {H : Hp} {Q : VK} {x y : V} {d e : PyData} (q : Q (.bl (PyData.eqv d e)) H) (hd : Dp K H x d := by walk_at "dq") (he : Dp K H y e := by walk_at "dq") (sd : SeqAt.shaped d = true := by walk_at "shp") (se : SeqAt.shaped e = true := by walk_at "shp") : rEqD K x y H Q := rd_eqD hd he sd se q
theorem okD.shp {d : PyData} (h : okD d) (n : d ≠ .dict []) : SeqAt.shaped d = true := h.shaped.resolve_left n
local macro_rules | `(tactic| walk_at "shp") => `(tactic| first
  | assumption
  | decide +kernel
  | (refine My.okD.shp ?_ nofun; walk_at "ok"))
/-- shown texts of one datum are one -/
theorem ite_same {a b : Str} {A B : Prop} (h : a = b) (q : B) : if (!decide (V.str a = V.str b)) = true then A else B := by
  subst h
  exact iteFd (by simp) q
theorem ite_sameP {a b : Str} {A B : Prop} (h : a = b) (q : A) : if decide (V.str a = V.str b) = true then A else B := by
  subst h
  exact iteTd (by simp) q
theorem rd_intD {H : Hp} {Q : VK} {b : Bool} {i : Int} (h : (if b then 1 else 0) = i) (q : Q (.int i) H) : rInt1 [.bl b] H Q := .inr ⟨b, rfl, h ▸ q⟩
theorem rd_slB {K : PySem.W.Frag} {H : Hp} {Q : VK} {a : Addr} {xs ys : List V} {lo hi : Option Int} (q : ∀ p H', Same H H' → H' p = some (.tup ys) → Q (.ref p) H') (h : H a = some (.tup xs) := by walk_at "hp") (e : cutV xs lo hi = ys := by rfl) : rSlA K (.ref a) lo hi H Q := rd_slA h fun p H' s e' => q p H' s (e ▸ e')
theorem rd_catX {K : PySem.W.Frag} {H : Hp} {Q : VK} {a b : Addr} {xs ys : List V} (q : ∀ p H', Same H H' → H' p = some (.tup (xs ++ ys)) → Q (.ref p) H') (h1 : H a = some (.tup xs) := by walk_at "hp") (h2 : H b = some (.tup ys) := by walk_at "hp") (hz : xs.length + ys.length ≤ 100000 := by (first | decide | omega | (simp; done) | (simp; omega))) : rCatA K (.ref a) (.ref b) H Q :=
  ⟨a, b, xs, ys, rfl, rfl, sqT_of h1, sqT_of h2, Nat.le_trans hz (by decide), fun e => q b H (Same.refl H) (by rw [e]; exact h2), fun _ e => q a H (Same.refl H) (by rw [e, List.append_nil]; exact h1), fun _ _ p hp => q p _ (fun b x e => by rw [upd_ne (ne_of_none e hp)]; exact e) upd_same⟩
theorem cutV_to {xs : List V} {n : Nat} : cutV xs none (some (n : Int)) = xs.take n := by
  show ((xs.drop 0).take (HT.sIx xs.length xs.length (some (n : Int)) - 0)) = _
  rw [HT.sIx_nat, List.drop_zero, Nat.sub_zero, List.take_eq_take_iff]
  omega
theorem cutV_from {xs : List V} {n : Nat} : cutV xs (some (n : Int)) none = xs.drop n := by
  show ((xs.drop (HT.sIx xs.length 0 (some (n : Int)))).take (xs.length - HT.sIx xs.length 0 (some (n : Int)))) = _
  rw [HT.sIx_nat]
  by_cases h : n ≤ xs.length
  · rw [Nat.min_eq_left h, List.take_of_length_le (by rw [List.length_drop]; exact Nat.le_refl _)]
  · rw [List.drop_eq_nil_of_le (by omega : xs.length ≤ n), List.drop_eq_nil_of_le (by omega), List.take_nil]

/-- a thing: a text, not long; a number, a truth, None; a list, a tuple, a dict -/
def ThingAt (K : PySem.W.Frag) (H : Hp) : V → Prop
  | .str z => z.length ≤ 2000
  | .int _ => True
  | .bl _ => True
  | .non => True
  | .ref a => ∃ t, TyOf K H (.ref a) (.type t) ∧ (t = "list" ∨ t = "tuple" ∨ t = "dict")
  | _ => False
theorem tyof_keep {K : PySem.W.Frag} {H H' : Hp} {v : V} {t : Value} (b : TyOf K H v t) (e : Same H H') : TyOf K H' v t := by
  cases b with
  | non => exact .non
  | bl x => exact .bl x
  | int i => exact .int i
  | str x => exact .str x
  | flt x => exact .flt x
  | lst h => exact .lst (e _ _ h)
  | frz h => exact .frz (e _ _ h)
  | tup h => exact .tup (e _ _ h)
  | dK h => exact .dK (e _ _ h)
  | dT h => exact .dT (e _ _ h)
  | ins h a b c d m => exact .ins (e _ _ h) a b c d m
theorem ThingAt.keep {K : PySem.W.Frag} {H H' : Hp} {v : V} (h : ThingAt K H v) (e : Same H H') : ThingAt K H' v := by
  cases v with
  | ref a =>
    obtain ⟨t, h1, h2⟩ := h
    exact ⟨t, tyof_keep h1 e, h2⟩
  | _ => exact h
def isIB : V → Bool
  | .int _ => true
  | .bl _ => true
  | _ => false
def isBl : V → Bool
  | .bl _ => true
  | _ => false
def isStr : V → Bool
  | .str _ => true
  | _ => false
def wholeV : V → Bool
  | .int _ => true
  | _ => false
def withinV (v : V) (lo hi : Int) : Bool := match v with
  | .int i => decide (lo ≤ i) && decide (i ≤ hi)
  | _ => false
theorem thing_ty {K : PySem.W.Frag} {H : Hp} {v : V} (h : ThingAt K H v) : ∃ t, TyX K H v (.type t) ∧ kitB t "int" = some (isIB v) ∧ kitB t "bool" = some (isBl v) ∧ kitB t "str" = some (isStr v) := by
  cases v with
  | non => exact ⟨_, .base .non, by decide +kernel, by decide +kernel, by decide +kernel⟩
  | bl b => exact ⟨_, .base (.bl b), by show kitB "bool" "int" = some true; decide +kernel, by show kitB "bool" "bool" = some true; decide +kernel, by show kitB "bool" "str" = some false; decide +kernel⟩
  | int i => exact ⟨_, .base (.int i), by show kitB "int" "int" = some true; decide +kernel, by show kitB "int" "bool" = some false; decide +kernel, by show kitB "int" "str" = some false; decide +kernel⟩
  | str z => exact ⟨_, .base (.str z), by show kitB "str" "int" = some false; decide +kernel, by show kitB "str" "bool" = some false; decide +kernel, by show kitB "str" "str" = some true; decide +kernel⟩
  | ref a =>
    obtain ⟨t, h1, h2⟩ := h
    refine ⟨t, .base h1, ?_, ?_, ?_⟩
    · show kitB t "int" = some false
      rcases h2 with rfl | rfl | rfl <;> decide +kernel
    · show kitB t "bool" = some false
      rcases h2 with rfl | rfl | rfl <;> decide +kernel
    · show kitB t "str" = some false
      rcases h2 with rfl | rfl | rfl <;> decide +kernel
  | byt _ => exact h.elim
  | flt _ => exact h.elim
  | ty _ => exact h.elim
def isLet (c : Nat) : Bool := decide (97 ≤ c ∧ c ≤ 122)
def nameS (z : Str) : Bool := decide (1 ≤ z.length ∧ z.length ≤ 8) && z.cps.toList.all isLet
def nameV : V → Bool
  | .str z => nameS z
  | _ => false
theorem lets_list : (Str.ofString "abcdefghijklmnopqrstuvwxyz").cps.toList = (List.range 26).map (97 + ·) := by decide +kernel
theorem isLet_in (c : Nat) : decide (c ∈ (Str.ofString "abcdefghijklmnopqrstuvwxyz").cps.toList) = isLet c := by
  rw [lets_list]
  unfold isLet
  congr 1
  rw [eq_iff_iff, List.mem_map]
  constructor
  · rintro ⟨a, ha, rfl⟩
    have := List.mem_range.mp ha
    omega
  · intro h
    exact ⟨c - 97, List.mem_range.mpr (by omega), by omega⟩
def sg (c : Nat) : Str := ⟨#[c]⟩
theorem joinL_one (cs : List Nat) : TL.joinL [] (cs.map fun c => [c]) = cs := by
  induction cs with
  | nil => rfl
  | cons a r ih =>
    cases r with
    | nil => rfl
    | cons b r =>
      show [a] ++ ([] ++ TL.joinL [] ((b :: r).map fun c => [c])) = a :: b :: r
      rw [ih]
      rfl
theorem join_sg (cs : List Nat) : (Txt.join (Str.ofString "") (cs.map sg)).cps.toList = cs := by
  have h := TL.tl_join (Str.ofString "") (cs.map sg)
  have e : TL.tl (Str.ofString "") = [] := by decide +kernel
  rw [e, List.map_map] at h
  rw [TL.join_eq]
  exact h.trans (joinL_one cs)
theorem lett_len : (Str.ofString "abcdefghijklmnopqrstuvwxyz").length = 26 := by decide +kernel
theorem lett_at {k : Nat} (h : k < 26) : atI (Str.ofString "abcdefghijklmnopqrstuvwxyz").cps.toList (k : Int) = some (97 + k) := by
  refine atI_nat ?_
  rw [lets_list, List.getElem?_map, List.getElem?_range h]
  rfl
theorem cut_to {z : Str} {n : Nat} : (cutS z none (some (n : Int))).cps.toList = z.cps.toList.take n := by
  show ((z.cps.toList.drop 0).take (HT.sIx z.length z.length (some (n : Int)) - 0)) = _
  rw [HT.sIx_nat, List.drop_zero, Nat.sub_zero]
  have : z.length = z.cps.toList.length := by simp [Str.length]
  rw [this, List.take_eq_take_iff]
  omega
theorem cut_ft {z : Str} {m n : Nat} : (cutS z (some (m : Int)) (some (n : Int))).cps.toList = (z.cps.toList.take n).drop m := by
  show ((z.cps.toList.drop (HT.sIx z.length 0 (some (m : Int)))).take (HT.sIx z.length z.length (some (n : Int)) - HT.sIx z.length 0 (some (m : Int)))) = _
  have : z.length = z.cps.toList.length := by simp [Str.length]
  rw [HT.sIx_nat, HT.sIx_nat, this, List.drop_take]
  by_cases h : m ≤ z.cps.toList.length
  · rw [Nat.min_eq_left h, List.take_eq_take_iff, List.length_drop]
    omega
  · rw [List.drop_eq_nil_of_le (by omega), List.drop_eq_nil_of_le (by omega), List.take_nil, List.take_nil]
theorem len_list (z : Str) : z.length = z.cps.toList.length := by simp [Str.length]
theorem toList_app (a b : Str) : (a ++ b).cps.toList = a.cps.toList ++ b.cps.toList := by
  show (a.cps ++ b.cps).toList = _
  rw [Array.toList_append]
theorem name_of {z : Str} (h1 : 1 ≤ z.cps.toList.length) (h8 : z.cps.toList.length ≤ 8) (h : ∀ c ∈ z.cps.toList, isLet c = true) : nameS z = true := by
  unfold nameS
  rw [len_list, decide_eq_true ⟨h1, h8⟩, Bool.true_and]
  exact List.all_eq_true.mpr h
theorem isLet_at (k : Nat) (h : k < 26) : isLet (97 + k) = true := decide_eq_true (by omega)
theorem nodup_map {f : Nat → Str} {m : Nat} (h : ∀ i j, i < m → j < m → i ≠ j → f i ≠ f j) : ((List.range m).map f).Nodup := by
  unfold List.Nodup
  rw [List.pairwise_map]
  exact List.Pairwise.imp_of_mem (fun {a b} ha hb hab => h a b (List.mem_range.mp ha) (List.mem_range.mp hb) hab) List.nodup_range
/-- a comprehension over 0 .. n - 1, its element a function of the number -/
theorem lcgo_rng {σ : L2.St} {Q : VK} {te : TE} {vs : List Nat} {k : Nat} {f : Nat → V} {n : Nat} {H : Hp} (hz : n ≤ 100000) (hw : ∀ x, wipe ((wipe σ vs).set k (some x)) vs = wipe σ vs)
    (he : ∀ (i : Nat) (H' : Hp) (Q' : VK), i < n → Q' (f i) H' → te ((wipe σ vs).set k (some (.int i))) H' Q')
    (hq : ∀ D, H D = none → Q (.ref D) (upd H D (.lst ((List.range n).map f)))) : LcGo (Itr 0 n) (gName k) tYes (tFrm te) vs σ H Q := by
  refine lcgoF walk_range hz (fun i x => x = .int (i : Nat)) (fun i H x H' _ _ y => ⟨y.1, y.2.trans (congrArg V.int (Int.zero_add _))⟩) hw (fun i acc H' => H' = H ∧ acc = (List.range i).map f) ⟨rfl, rfl⟩ (fun _ _ _ _ _ _ _ => trivial) ?_ ?_
  · rintro i x acc H' Qc hin hla ⟨rfl, ha⟩ rfl hq'
    refine he i _ _ hin (hq' _ _ ⟨rfl, ?_⟩)
    rw [List.range_succ, List.map_append, ← ha]
    rfl
  · rintro acc H' D hla ⟨rfl, ha⟩ hD
    subst ha
    exact hq D hD
/-- a channel's numbers and names -/
structure Ch where
  name : Str
  one : Str
  other : Str
  hours : Int
  depth : Int
  first : Int
  growth : Int
  most : Int
def chOk (c : Ch) : Prop := 0 ≤ c.first ∧ c.first ≤ 1000000 ∧ 1 ≤ c.hours ∧ c.hours ≤ 1000 ∧ 0 ≤ c.depth ∧ c.depth ≤ 1000 ∧ 0 ≤ c.growth ∧ c.growth ≤ 1000 ∧ c.first ≤ c.most ∧ c.most ≤ 1000000
def chV (c : Ch) : List V := [.str c.name, .str c.one, .str c.other, .int c.hours, .int c.depth, .int c.first, .int c.growth, .int c.most]
def chF (c : Ch) : List (Str × V) := [("name", .str c.name), ("one", .str c.one), ("other", .str c.other), ("hours", .int c.hours), ("depth", .int c.depth), ("first", .int c.first), ("growth", .int c.growth), ("most", .int c.most)]
theorem chl_name (c : Ch) : (chF c).lookup ("name" : Str) = some (.str c.name) := by kernel_rfl
theorem chl_one (c : Ch) : (chF c).lookup ("one" : Str) = some (.str c.one) := by kernel_rfl
theorem chl_other (c : Ch) : (chF c).lookup ("other" : Str) = some (.str c.other) := by kernel_rfl
theorem chl_hours (c : Ch) : (chF c).lookup ("hours" : Str) = some (.int c.hours) := by kernel_rfl
theorem chl_depth (c : Ch) : (chF c).lookup ("depth" : Str) = some (.int c.depth) := by kernel_rfl
theorem chl_first (c : Ch) : (chF c).lookup ("first" : Str) = some (.int c.first) := by kernel_rfl
theorem chl_growth (c : Ch) : (chF c).lookup ("growth" : Str) = some (.int c.growth) := by kernel_rfl
theorem chl_most (c : Ch) : (chF c).lookup ("most" : Str) = some (.int c.most) := by kernel_rfl
local macro_rules | `(tactic| walk_at "lk") => `(tactic| with_reducible first | exact My.chl_name _ | exact My.chl_one _ | exact My.chl_other _ | exact My.chl_hours _ | exact My.chl_depth _ | exact My.chl_first _ | exact My.chl_growth _ | exact My.chl_most _)
def putAll : List (Str × V) → List (Str × V) → List (Str × V)
  | [], fs => fs
  | (f, v) :: r, fs => putAll r (putF f v fs)
theorem ch_put (c : Ch) : putF "most" (.int c.most) (putF "growth" (.int c.growth) (putF "first" (.int c.first) (putF "depth" (.int c.depth) (putF "hours" (.int c.hours) (putF "other" (.str c.other) (putF "one" (.str c.one) (putF "name" (.str c.name) []))))))) = chF c := by kernel_rfl
theorem putF_len (f : Str) (v : V) : ∀ fs : List (Str × V), (putF f v fs).length ≤ fs.length + 1
  | [] => by simp [putF]
  | (g, x) :: r => by
    unfold putF
    split
    · simp
    · have := putF_len f v r
      simp only [List.length_cons]
      omega
/-- the first of a list that is not so -/
theorem find_step {α : Type} {f : α → Bool} {xs : List α} {i : Nat} {x : α} (h : (xs.take i).find? f = none) (hx : xs[i]? = some x) : (f x = false → (xs.take (i + 1)).find? f = none) ∧ (f x = true → xs.find? f = some x) := by
  have e : xs.take (i + 1) = xs.take i ++ [x] := by rw [List.take_add_one, hx]; rfl
  have e2 : (xs.take (i + 1)).find? f = [x].find? f := by rw [e, List.find?_append, h, Option.none_or]
  refine ⟨fun hf => ?_, fun hf => ?_⟩
  · rw [e2, List.find?_cons, hf]
    rfl
  · rw [← List.take_append_drop (i + 1) xs, List.find?_append, e2, List.find?_cons, hf]
    rfl
/-- the first refusal that is due of the eight things of a channel: which (0 NoName, 1 Doubled, 2 NoNumber), and of what -/
def intOf : V → Int
  | .int i => i
  | _ => 0
def badN (r : V × Int × Int) : Bool := !withinV r.1 r.2.1 r.2.2
def chanRef (nm one oth h d f g m : V) : Option (Nat × V) :=
  match [nm, one, oth].find? (fun v => !nameV v) with
  | some v => some (0, v)
  | none => if one = oth then some (1, one) else
    match [(h, 1, 1000), (d, 0, 1000), (f, 0, 1000000)].find? badN with
    | some r => some (2, r.1)
    | none => match [(g, 0, 1000), (m, intOf f, 1000000)].find? badN with
      | some r => some (2, r.1)
      | none => none
theorem KeepB.put {a : Addr} {H H' : Hp} {o : HO} (k : KeepB a H H') : KeepB a H (upd H' a o) := fun b x h n => by
  rw [upd_ne n]
  exact k b x h n
theorem name_str {v : V} (h : nameV v = true) : ∃ z : Str, v = .str z := by
  cases v with
  | str z => exact ⟨z, rfl⟩
  | _ => cases h
theorem in_int {v : V} {lo hi : Int} (h : badN (v, lo, hi) = false) : ∃ i : Int, v = .int i := by
  cases v with
  | int i => exact ⟨i, rfl⟩
  | _ => cases h
/-- a vessel (kind 0), a breaker (1), a ship (2) -/
structure Ve where
  kind : Nat
  name : Str
  port : Str
  goal : Str
  hour : Int
  strength : Int
  draught : Int
  cut : Int
def veB (v : Ve) : List (Str × V) := [("name", .str v.name), ("port", .str v.port), ("hour", .int v.hour), ("strength", .int v.strength), ("draught", .int v.draught)]
def veF (v : Ve) : List (Str × V) := match v.kind with
  | 0 => veB v
  | 1 => veB v ++ [(("cut" : Str), V.int v.cut)]
  | _ => veB v ++ [(("goal" : Str), V.str v.goal)]
/-- its row -/
def veV (v : Ve) : List V := match v.kind with
  | 0 => [.str v.name, .str v.port, .int v.hour, .int v.strength, .int v.draught]
  | 1 => [.str v.name, .str v.port, .int v.hour, .int v.strength, .int v.draught, .int v.cut]
  | _ => [.str v.name, .str v.port, .str v.goal, .int v.hour, .int v.strength, .int v.draught]
def veKind : Nat → Str
  | 0 => Str.ofString "vessel"
  | 1 => Str.ofString "breaker"
  | _ => Str.ofString "ship"
def veThins (v : Ve) : Int := if v.kind = 1 then v.cut else 0
/-- the first refusal that is due: (0 NoName | 2 NoNumber), of what -/
def veRef (nm po ho st dr : V) : Option (Nat × V) :=
  match [nm, po].find? (fun v => !nameV v) with
  | some v => some (0, v)
  | none => match [(ho, 0, 1000000), (st, 0, 1000000), (dr, 0, 1000)].find? badN with
    | some r => some (2, r.1)
    | none => none
def brRef (nm po ho st dr cu : V) : Option (Nat × V) := match veRef nm po ho st dr with
  | some r => some r
  | none => if badN (cu, 1, 1000000) = true then some (2, cu) else none
def shRef (nm po go ho st dr : V) : Option (Nat × V) := match [nm, po, go].find? (fun v => !nameV v) with
  | some v => some (0, v)
  | none => veRef nm po ho st dr
def veOk (v : Ve) : Prop := v.kind < 3 ∧ 0 ≤ v.hour ∧ v.hour ≤ 1000000 ∧ 0 ≤ v.strength ∧ v.strength ≤ 1000000 ∧ 0 ≤ v.draught ∧ v.draught ≤ 1000 ∧ 1 ≤ v.cut ∧ v.cut ≤ 1000000
def veNames (v : Ve) : Prop := nameS v.name = true ∧ nameS v.port = true ∧ nameS v.goal = true
theorem veV_0 {v : Ve} (h : v.kind = 0) : veV v = [.str v.name, .str v.port, .int v.hour, .int v.strength, .int v.draught] := by unfold veV; rw [h]; rfl
theorem veV_1 {v : Ve} (h : v.kind = 1) : veV v = [.str v.name, .str v.port, .int v.hour, .int v.strength, .int v.draught, .int v.cut] := by unfold veV; rw [h]; rfl
theorem veV_2 {v : Ve} (h : v.kind = 2) : veV v = [.str v.name, .str v.port, .str v.goal, .int v.hour, .int v.strength, .int v.draught] := by unfold veV; rw [h]; rfl
theorem name_ok {z : Str} (h : nameS z = true) : PyData.strOk z = true := by
  unfold nameS at h
  have h2 := (Bool.and_eq_true_iff.mp h).2
  unfold PyData.strOk
  rw [← Array.all_toList, List.all_eq_true]
  intro c hc
  have h3 : decide (97 ≤ c ∧ c ≤ 122) = true := List.all_eq_true.mp h2 c hc
  have h4 := of_decide_eq_true h3
  exact decide_eq_true (by omega)
theorem name_len {z : Str} (h : nameS z = true) : 1 ≤ z.length ∧ z.length ≤ 8 := by
  unfold nameS at h
  exact of_decide_eq_true (Bool.and_eq_true_iff.mp h).1
theorem mem_map_str {v : V} {ys : List Str} (h : v ∈ ys.map V.str) : ∃ y, v = .str y ∧ y ∈ ys := by
  obtain ⟨y, hy, rfl⟩ := List.mem_map.mp h
  exact ⟨y, rfl, hy⟩
/-! ### things: flat values, lists and tuples of texts, the empty dict -/
def okS (s : Str) : Prop := PyData.strOk s = true ∧ s.length ≤ 199
def Thg (H : Hp) : V → PyData → Prop
  | .non, d => d = .none
  | .bl b, d => d = .bool b
  | .int i, d => d = .int i ∧ i.natAbs ≤ 10000000000000000000000000000000000000000000000000000000000000000000000
  | .str z, d => d = .str z ∧ okS z
  | .ref a, d => (∃ ss : List Str, H a = some (.lst (ss.map V.str)) ∧ d = .list (ss.map PyData.str) ∧ ss.length ≤ 12 ∧ ∀ s ∈ ss, okS s) ∨ (∃ ss : List Str, H a = some (.tup (ss.map V.str)) ∧ d = .tuple (ss.map PyData.str) ∧ ss.length ≤ 12 ∧ ∀ s ∈ ss, okS s) ∨ (H a = some (.dK []) ∧ d = .dict [])
  | _, _ => False
theorem map_str_inj : ∀ {xs ys : List Str}, xs.map V.str = ys.map V.str → xs = ys
  | [], [], _ => rfl
  | [], _ :: _, h => by simp at h
  | _ :: _, [], h => by simp at h
  | x :: xs, y :: ys, h => by
    rw [List.map_cons, List.map_cons, List.cons.injEq] at h
    rw [V.str.inj h.1, map_str_inj h.2]
theorem Thg.inj {H : Hp} {v : V} {d e : PyData} (h : Thg H v d) (h' : Thg H v e) : d = e := by
  cases v with
  | non => exact Eq.trans h (Eq.symm h')
  | bl b => exact Eq.trans h (Eq.symm h')
  | int i => exact h.1.trans h'.1.symm
  | str z => exact h.1.trans h'.1.symm
  | ref a =>
    rcases h with ⟨ss, e1, rfl, _⟩ | ⟨ss, e1, rfl, _⟩ | ⟨e1, rfl⟩ <;> rcases h' with ⟨tt, e2, rfl, _⟩ | ⟨tt, e2, rfl, _⟩ | ⟨e2, rfl⟩ <;> rw [e1] at e2 <;> first | rfl | (cases e2; done) | (have e3 := map_str_inj (HO.lst.inj (Option.some.inj e2)); rw [e3]) | (have e3 := map_str_inj (HO.tup.inj (Option.some.inj e2)); rw [e3])
  | _ => exact h.elim
theorem Thg.keep {H H' : Hp} {v : V} {d : PyData} (s : Same H H') (h : Thg H v d) : Thg H' v d := by
  cases v with
  | ref a =>
    rcases h with ⟨ss, e1, r⟩ | ⟨ss, e1, r⟩ | ⟨e1, r⟩
    · exact .inl ⟨ss, s _ _ e1, r⟩
    · exact .inr (.inl ⟨ss, s _ _ e1, r⟩)
    · exact .inr (.inr ⟨s _ _ e1, r⟩)
  | _ => exact h
theorem Thg.thing {K : PySem.W.Frag} {H : Hp} {v : V} {d : PyData} (h : Thg H v d) : ThingAt K H v := by
  cases v with
  | non => trivial
  | bl b => trivial
  | int i => trivial
  | str z =>
    have := h.2.2
    show z.length ≤ 2000
    omega
  | ref a =>
    rcases h with ⟨ss, e1, _⟩ | ⟨ss, e1, _⟩ | ⟨e1, _⟩
    · exact ⟨_, .lst e1, .inl rfl⟩
    · exact ⟨_, .tup e1, .inr (.inl rfl)⟩
    · exact ⟨_, .dK e1, .inr (.inr rfl)⟩
  | _ => exact h.elim
theorem dpAll_str {K : PySem.W.Frag} {H : Hp} : ∀ ss : List Str, DpAll K H (ss.map V.str) (ss.map PyData.str)
  | [] => .nil
  | s :: ss => .cons (.str s) (dpAll_str ss)
theorem Thg.dp {K : PySem.W.Frag} {H : Hp} {v : V} {d : PyData} (h : Thg H v d) : DpE K H v d := by
  cases v with
  | non => cases (show d = .none from h); exact .dp .non
  | bl b => cases (show d = .bool b from h); exact .dp (.bl b)
  | int i => cases h.1; exact .dp (.int i)
  | str z => cases h.1; exact .dp (.str z)
  | ref a =>
    rcases h with ⟨ss, e1, rfl, _⟩ | ⟨ss, e1, rfl, _⟩ | ⟨e1, rfl⟩
    · exact .dp (dp_lst e1 (dpAll_str ss))
    · exact .dp (dp_tup e1 (dpAll_str ss))
    · exact .dK e1
  | _ => exact h.elim
theorem sm_strs {ss : List Str} (h : ∀ s ∈ ss, okS s) : ∀ d ∈ ss.map PyData.str, Sm 0 2000 d := fun d hd => by
  obtain ⟨s, hs, rfl⟩ := List.mem_map.mp hd
  exact Sm.str (h s hs).1 (h s hs).2
theorem Thg.ok {H : Hp} {v : V} {d : PyData} (h : Thg H v d) : okD d := by
  cases v with
  | non => cases (show d = .none from h); exact Sm.ok (n := 0) (w := 2000) Sm.non
  | bl b => cases (show d = .bool b from h); exact Sm.ok (n := 0) (w := 2000) Sm.bl
  | int i => cases h.1; exact Sm.ok (n := 0) (w := 2000) (Sm.int h.2)
  | str z => cases h.1; exact Sm.ok (n := 0) (w := 2000) (Sm.str h.2.1 h.2.2)
  | ref a =>
    rcases h with ⟨ss, e1, rfl, l, o⟩ | ⟨ss, e1, rfl, l, o⟩ | ⟨e1, rfl⟩
    · exact Sm.ok (Sm.lst (n := 0) (w := 2000) (m := 12) (sm_strs o) (by simpa using l))
    · exact Sm.ok (Sm.tup (n := 0) (w := 2000) (m := 12) (sm_strs o) (by simpa using l))
    · exact .inl rfl
  | _ => exact h.elim
/-- it is such a thing -/
def IsT (H : Hp) (v : V) : Prop := ∃ d, Thg H v d
theorem IsT.keep {H H' : Hp} {v : V} (s : Same H H') (h : IsT H v) : IsT H' v := h.imp fun _ t => t.keep s
theorem IsT.thing {K : PySem.W.Frag} {H : Hp} {v : V} (h : IsT H v) : ThingAt K H v := h.elim fun _ t => t.thing
theorem IsT.int {H : Hp} {i : Int} (h : i.natAbs ≤ 10000000000000000000000000000000000000000000000000000000000000000000000) : IsT H (.int i) := ⟨_, rfl, h⟩
theorem isT_nil {H : Hp} : ∀ v ∈ ([] : List V), IsT H v := fun _ h => nomatch h
theorem isT_cons {H : Hp} {x : V} {xs : List V} (h : IsT H x) (r : ∀ v ∈ xs, IsT H v) : ∀ v ∈ x :: xs, IsT H v := fun v hv => by
  rcases List.mem_cons.mp hv with rfl | hv
  · exact h
  · exact r v hv
theorem IsT.name {H : Hp} {z : Str} (h : nameS z = true) : IsT H (.str z) := by
  refine ⟨_, rfl, ?_, ?_⟩
  · unfold nameS at h
    have h2 := (Bool.and_eq_true_iff.mp h).2
    unfold PyData.strOk
    rw [← Array.all_toList, List.all_eq_true]
    intro c hc
    have h3 : decide (97 ≤ c ∧ c ≤ 122) = true := List.all_eq_true.mp h2 c hc
    have h4 := of_decide_eq_true h3
    exact decide_eq_true (by omega)
  · unfold nameS at h
    have := of_decide_eq_true (Bool.and_eq_true_iff.mp h).1
    omega
theorem IsT.kb {H H' : Hp} {v : V} {p : Addr} {n : Nat} (hB : BoxAt H p n) (k : KeepB p H H') (h : IsT H v) : IsT H' v := by
  obtain ⟨x, y, z, hp, _⟩ := hB
  cases v with
  | ref a =>
    obtain ⟨d, ⟨ss, e1, r⟩ | ⟨ss, e1, r⟩ | ⟨e1, r⟩⟩ := h
    · refine ⟨d, .inl ⟨ss, k _ _ e1 (fun e => ?_), r⟩⟩
      rw [e, hp] at e1
      match ss, e1 with
      | [], e1 => cases e1
      | _ :: _, e1 =>
        rw [List.map_cons] at e1
        cases e1
    · refine ⟨d, .inr (.inl ⟨ss, k _ _ e1 (fun e => ?_), r⟩)⟩
      rw [e, hp] at e1
      cases e1
    · refine ⟨d, .inr (.inr ⟨k _ _ e1 (fun e => ?_), r⟩)⟩
      rw [e, hp] at e1
      cases e1
  | _ => exact h
local macro_rules | `(tactic| walk_at "its") => `(tactic| first
  | exact My.isT_nil
  | ((refine My.isT_cons ?ha ?hb); (case ha => walk_at "it1"); (case hb => walk_at "its")))
local macro_rules | `(tactic| walk_at "it1") => `(tactic| first
  | assumption
  | exact My.IsT.int (by decide +kernel)
  | exact My.IsT.int (by omega)
  | exact My.IsT.name (by assumption)
  | walk_at "at")
/-- what is told of a refusal: a word, and the shown thing -/
def Told (H : Hp) (r : Option (Nat × V)) (tag z : Str) : Prop := match r with
  | none => tag = Str.ofString "made" ∧ z = Str.ofString ""
  | some (k, v) => tag = (match k with | 0 => Str.ofString "name" | 1 => Str.ofString "doubled" | _ => Str.ofString "number") ∧ ∃ d, Thg H v d ∧ z = d.shown
theorem Told.keep {H H' : Hp} {r : Option (Nat × V)} {tag z : Str} (s : Same H H') (h : Told H r tag z) : Told H' r tag z := by
  match r, h with
  | none, h => exact h
  | some (k, v), ⟨h1, d, h2, h3⟩ => exact ⟨h1, d, h2.keep s, h3⟩
theorem Told.det {H : Hp} {r : Option (Nat × V)} {tag z tag' z' : Str} (h : Told H r tag z) (h' : Told H r tag' z') : tag = tag' ∧ z = z' := by
  match r, h, h' with
  | none, h, h' => exact ⟨h.1.trans h'.1.symm, h.2.trans h'.2.symm⟩
  | some (k, v), ⟨h1, d, h2, h3⟩, ⟨h1', d', h2', h3'⟩ =>
    cases h2.inj h2'
    exact ⟨h1.trans h1'.symm, h3.trans h3'.symm⟩
local macro_rules | `(tactic| walk_at "at") => `(tactic| ((with_reducible refine My.Thg.keep (H := ?hH) ?hs ?hh); (case hh => assumption); (case hs => walk_at "sm")))
local macro_rules | `(tactic| walk_at "at") => `(tactic| ((with_reducible refine My.IsT.keep (H := ?hH) ?hs ?hh); (case hh => assumption); (case hs => walk_at "sm")))
theorem rd_rT {K : PySem.W.Frag} {H : Hp} {Q : VK} {v : V} {d : PyData} (h : Thg H v d) (q : ∀ z, z = d.shown → Q (.str z) H) : rReprE K [v] H Q := rd_rEg h.dp h.ok q
/-- the first refusal that is due: names ahead of numbers -/
def dueRef (ns : List V) (rs : List (V × Int × Int)) : Option (Nat × V) := match ns.find? (fun v => !nameV v) with
  | some v => some (0, v)
  | none => match rs.find? badN with
    | some r => some (2, r.1)
    | none => none
def bnds : List (Int × Int) := [(0, 1000000), (0, 1000000), (0, 1000), (1, 1000000)]
def rsOf (nums : List V) : List (V × Int × Int) := List.zipWith (fun v b => (v, b.1, b.2)) nums bnds
def nmN (k : Nat) : Nat := if k = 2 then 3 else 2
def rowN (k : Nat) : Nat := if k = 0 then 5 else 6
def kRef (k : Nat) (xs : List V) : Option (Nat × V) := dueRef (xs.take (nmN k)) (rsOf (xs.drop (nmN k)))
theorem due_0 {ns : List V} {rs : List (V × Int × Int)} {v : V} (h : ns.find? (fun v => !nameV v) = some v) : dueRef ns rs = some (0, v) := by
  unfold dueRef
  rw [h]
theorem due_2 {ns : List V} {rs : List (V × Int × Int)} {r : V × Int × Int} (h : ns.find? (fun v => !nameV v) = none) (h2 : rs.find? badN = some r) : dueRef ns rs = some (2, r.1) := by
  unfold dueRef
  rw [h]
  simp only [h2]
theorem due_4 {ns : List V} {rs : List (V × Int × Int)} (h : ns.find? (fun v => !nameV v) = none) (h2 : rs.find? badN = none) : dueRef ns rs = none := by
  unfold dueRef
  rw [h]
  simp only [h2]
theorem kRef_0 {nm po ho st dr : V} : kRef 0 [nm, po, ho, st, dr] = veRef nm po ho st dr := rfl
theorem find_snoc {α : Type} {p : α → Bool} {l : List α} {x : α} : (l ++ [x]).find? p = (l.find? p).or (if p x = true then some x else none) := by
  rw [List.find?_append, List.find?_cons]
  cases p x <;> rfl
theorem kRef_1 {nm po ho st dr cu : V} : kRef 1 [nm, po, ho, st, dr, cu] = brRef nm po ho st dr cu := by
  show dueRef [nm, po] [(ho, 0, 1000000), (st, 0, 1000000), (dr, 0, 1000), (cu, 1, 1000000)] = _
  unfold brRef veRef dueRef
  cases [nm, po].find? (fun v => !nameV v) with
  | some v => rfl
  | none =>
    rw [show [(ho, (0 : Int), (1000000 : Int)), (st, 0, 1000000), (dr, 0, 1000), (cu, 1, 1000000)] = [(ho, 0, 1000000), (st, 0, 1000000), (dr, 0, 1000)] ++ [(cu, 1, 1000000)] from rfl, find_snoc]
    cases [(ho, (0 : Int), (1000000 : Int)), (st, 0, 1000000), (dr, 0, 1000)].find? badN with
    | some r => rfl
    | none =>
      simp only [Option.none_or]
      cases badN (cu, 1, 1000000) <;> rfl
theorem kRef_2 {nm po go ho st dr : V} : kRef 2 [nm, po, go, ho, st, dr] = shRef nm po go ho st dr := by
  show dueRef [nm, po, go] [(ho, 0, 1000000), (st, 0, 1000000), (dr, 0, 1000)] = _
  unfold shRef dueRef
  cases e : [nm, po, go].find? (fun v => !nameV v) with
  | some v => rfl
  | none =>
    have e2 : [nm, po].find? (fun v => !nameV v) = none := by
      rw [show [nm, po, go] = [nm, po] ++ [go] from rfl, find_snoc, Option.or_eq_none_iff] at e
      exact e.1
    unfold veRef
    simp only [e2]
theorem kRef_mem {k : Nat} {xs : List V} {i : Nat} {v : V} (h : kRef k xs = some (i, v)) : v ∈ xs := by
  unfold kRef dueRef at h
  cases e : (xs.take (nmN k)).find? (fun v => !nameV v) with
  | some u =>
    rw [e] at h
    cases h
    exact List.mem_of_mem_take (List.mem_of_find?_eq_some e)
  | none =>
    rw [e] at h
    simp only at h
    cases e2 : (rsOf (xs.drop (nmN k))).find? badN with
    | some r =>
      rw [e2] at h
      cases h
      have hm := List.mem_of_find?_eq_some e2
      unfold rsOf at hm
      obtain ⟨j, hj, rfl⟩ := List.getElem_of_mem hm
      rw [List.getElem_zipWith]
      exact List.mem_of_mem_drop (List.getElem_mem _)
    | none =>
      rw [e2] at h
      cases h
/-! ### the text -/
def topS (i : Nat) : Stmt := PySem.Challenge.pw_iceopened_k09_vessels_refused.main.body.getD i (.Pass ⟨0, 0, 0, 0⟩)
abbrev s_wall : Stmt := (topS 0)
abbrev N_wall : List Str := ["k"]
theorem sc_wall : FnScope N_wall ["k"] (defScope s_wall) := ⟨rfl, rfl, rfl, by decide +kernel, rfl, by decide +kernel, by decide +kernel⟩
abbrev s_NoName___init__ : Stmt := (inClass (topS 3) 0)
abbrev N_NoName___init__ : List Str := ["self", "found"]
theorem sc_NoName___init__ : FnScope N_NoName___init__ ["self", "found"] (defScope s_NoName___init__) := ⟨rfl, rfl, rfl, by decide +kernel, rfl, by decide +kernel, by decide +kernel⟩
abbrev s_NoNumber___init__ : Stmt := (inClass (topS 4) 0)
abbrev N_NoNumber___init__ : List Str := ["self", "found"]
theorem sc_NoNumber___init__ : FnScope N_NoNumber___init__ ["self", "found"] (defScope s_NoNumber___init__) := ⟨rfl, rfl, rfl, by decide +kernel, rfl, by decide +kernel, by decide +kernel⟩
abbrev s_is_whole : Stmt := (topS 8)
abbrev N_is_whole : List Str := ["thing"]
theorem sc_is_whole : FnScope N_is_whole ["thing"] (defScope s_is_whole) := ⟨rfl, rfl, rfl, by decide +kernel, rfl, by decide +kernel, by decide +kernel⟩
abbrev s_is_within : Stmt := (topS 9)
abbrev N_is_within : List Str := ["thing", "low", "high"]
theorem sc_is_within : FnScope N_is_within ["thing", "low", "high"] (defScope s_is_within) := ⟨rfl, rfl, rfl, by decide +kernel, rfl, by decide +kernel, by decide +kernel⟩
abbrev s_is_name : Stmt := (topS 10)
abbrev N_is_name : List Str := ["thing", "sign"]
theorem sc_is_name : FnScope N_is_name ["thing"] (defScope s_is_name) := ⟨rfl, rfl, rfl, by decide +kernel, rfl, by decide +kernel, by decide +kernel⟩
abbrev s_need_names : Stmt := (topS 15)
abbrev N_need_names : List Str := ["things", "thing"]
theorem sc_need_names : FnScope N_need_names ["things"] (defScope s_need_names) := ⟨rfl, rfl, rfl, by decide +kernel, rfl, by decide +kernel, by decide +kernel⟩
abbrev s_need_numbers : Stmt := (topS 16)
abbrev N_need_numbers : List Str := ["rows", "thing", "low", "high"]
theorem sc_need_numbers : FnScope N_need_numbers ["rows"] (defScope s_need_numbers) := ⟨rfl, rfl, rfl, by decide +kernel, rfl, by decide +kernel, by decide +kernel⟩
abbrev s_Vessel___init__ : Stmt := (inClass (topS 17) 0)
abbrev N_Vessel___init__ : List Str := ["self", "name", "port", "hour", "strength", "draught"]
theorem sc_Vessel___init__ : FnScope N_Vessel___init__ ["self", "name", "port", "hour", "strength", "draught"] (defScope s_Vessel___init__) := ⟨rfl, rfl, rfl, by decide +kernel, rfl, by decide +kernel, by decide +kernel⟩
abbrev s_Vessel_settle : Stmt := (inClass (topS 17) 1)
abbrev N_Vessel_settle : List Str := ["self", "name", "port", "hour", "strength", "draught"]
theorem sc_Vessel_settle : FnScope N_Vessel_settle ["self", "name", "port", "hour", "strength", "draught"] (defScope s_Vessel_settle) := ⟨rfl, rfl, rfl, by decide +kernel, rfl, by decide +kernel, by decide +kernel⟩
abbrev s_Vessel_thins : Stmt := (inClass (topS 17) 3)
abbrev N_Vessel_thins : List Str := ["self"]
theorem sc_Vessel_thins : FnScope N_Vessel_thins ["self"] (defScope s_Vessel_thins) := ⟨rfl, rfl, rfl, by decide +kernel, rfl, by decide +kernel, by decide +kernel⟩
abbrev s_Breaker___init__ : Stmt := (inClass (topS 18) 0)
abbrev N_Breaker___init__ : List Str := ["self", "name", "port", "hour", "strength", "draught", "cut"]
theorem sc_Breaker___init__ : FnScope N_Breaker___init__ ["self", "name", "port", "hour", "strength", "draught", "cut"] (defScope s_Breaker___init__) := ⟨rfl, rfl, rfl, by decide +kernel, rfl, by decide +kernel, by decide +kernel⟩
abbrev s_Breaker_thins : Stmt := (inClass (topS 18) 2)
abbrev N_Breaker_thins : List Str := ["self"]
theorem sc_Breaker_thins : FnScope N_Breaker_thins ["self"] (defScope s_Breaker_thins) := ⟨rfl, rfl, rfl, by decide +kernel, rfl, by decide +kernel, by decide +kernel⟩
abbrev s_Ship___init__ : Stmt := (inClass (topS 19) 0)
abbrev N_Ship___init__ : List Str := ["self", "name", "port", "goal", "hour", "strength", "draught"]
theorem sc_Ship___init__ : FnScope N_Ship___init__ ["self", "name", "port", "goal", "hour", "strength", "draught"] (defScope s_Ship___init__) := ⟨rfl, rfl, rfl, by decide +kernel, rfl, by decide +kernel, by decide +kernel⟩
abbrev s_law_cell : Stmt := (topS 21)
abbrev N_law_cell : List Str := ["_law_script", "_law_k"]
theorem sc_law_cell : FnScope N_law_cell ["_law_script", "_law_k"] (defScope s_law_cell) := ⟨rfl, rfl, rfl, by decide +kernel, rfl, by decide +kernel, by decide +kernel⟩
abbrev s_law_box : Stmt := (topS 22)
abbrev N_law_box : List Str := ["_law_cell_here"]
theorem sc_law_box : FnScope N_law_box ["_law_cell_here"] (defScope s_law_box) := ⟨rfl, rfl, rfl, by decide +kernel, rfl, by decide +kernel, by decide +kernel⟩
abbrev s_law_take : Stmt := (topS 23)
abbrev N_law_take : List Str := ["_law_box_here", "_law_many", "_law_digit", "_law_one", "_law_other"]
theorem sc_law_take : FnScope N_law_take ["_law_box_here", "_law_many"] (defScope s_law_take) := ⟨rfl, rfl, rfl, by decide +kernel, rfl, by decide +kernel, by decide +kernel⟩
abbrev s_law_names : Stmt := (topS 24)
abbrev N_law_names : List Str := ["_law_box_here", "_law_many", "_law_letters", "_law_way", "_law_first", "_law_step", "_law_at", "_law_size", "_law_stem", "_law_k"]
theorem sc_law_names : FnScope N_law_names ["_law_box_here", "_law_many"] (defScope s_law_names) := ⟨rfl, rfl, rfl, by decide +kernel, rfl, by decide +kernel, by decide +kernel⟩
abbrev s_law_number : Stmt := (topS 25)
abbrev N_law_number : List Str := ["_law_box_here", "_law_low", "_law_high", "_law_way"]
theorem sc_law_number : FnScope N_law_number ["_law_box_here", "_law_low", "_law_high"] (defScope s_law_number) := ⟨rfl, rfl, rfl, by decide +kernel, rfl, by decide +kernel, by decide +kernel⟩
abbrev s_law_odd : Stmt := (topS 26)
abbrev N_law_odd : List Str := ["_law_box_here", "_law_some"]
theorem sc_law_odd : FnScope N_law_odd ["_law_box_here"] (defScope s_law_odd) := ⟨rfl, rfl, rfl, by decide +kernel, rfl, by decide +kernel, by decide +kernel⟩
abbrev s_law_vessel_row : Stmt := (topS 27)
abbrev N_law_vessel_row : List Str := ["_law_box_here", "_law_kind", "_law_name", "_law_ports", "_law_names_here", "_law_numbers"]
theorem sc_law_vessel_row : FnScope N_law_vessel_row ["_law_box_here", "_law_kind", "_law_name", "_law_ports"] (defScope s_law_vessel_row) := ⟨rfl, rfl, rfl, by decide +kernel, rfl, by decide +kernel, by decide +kernel⟩
abbrev s_law_vessel : Stmt := (topS 28)
abbrev N_law_vessel : List Str := ["_law_kind", "_law_row"]
theorem sc_law_vessel : FnScope N_law_vessel ["_law_kind", "_law_row"] (defScope s_law_vessel) := ⟨rfl, rfl, rfl, by decide +kernel, rfl, by decide +kernel, by decide +kernel⟩
abbrev s_law_is_name : Stmt := (topS 29)
abbrev N_law_is_name : List Str := ["_law_thing", "_law_sign"]
theorem sc_law_is_name : FnScope N_law_is_name ["_law_thing"] (defScope s_law_is_name) := ⟨rfl, rfl, rfl, by decide +kernel, rfl, by decide +kernel, by decide +kernel⟩
abbrev s_law_is_number : Stmt := (topS 30)
abbrev N_law_is_number : List Str := ["_law_thing", "_law_low", "_law_high"]
theorem sc_law_is_number : FnScope N_law_is_number ["_law_thing", "_law_low", "_law_high"] (defScope s_law_is_number) := ⟨rfl, rfl, rfl, by decide +kernel, rfl, by decide +kernel, by decide +kernel⟩
abbrev s_law_due : Stmt := (topS 31)
abbrev N_law_due : List Str := ["_law_kind", "_law_row", "_law_many", "_law_thing", "_law_bounds", "_law_at"]
theorem sc_law_due : FnScope N_law_due ["_law_kind", "_law_row"] (defScope s_law_due) := ⟨rfl, rfl, rfl, by decide +kernel, rfl, by decide +kernel, by decide +kernel⟩
abbrev s_law_found : Stmt := (topS 32)
abbrev N_law_found : List Str := ["_law_kind", "_law_row", "e"]
theorem sc_law_found : FnScope N_law_found ["_law_kind", "_law_row"] (defScope s_law_found) := ⟨rfl, rfl, rfl, by decide +kernel, rfl, by decide +kernel, by decide +kernel⟩
abbrev s_law_spoilt : Stmt := (topS 33)
abbrev N_law_spoilt : List Str := ["_law_box_here", "_law_kind", "_law_row", "_law_many", "_law_at", "_law_way", "_law_thing", "_law_above"]
theorem sc_law_spoilt : FnScope N_law_spoilt ["_law_box_here", "_law_kind", "_law_row"] (defScope s_law_spoilt) := ⟨rfl, rfl, rfl, by decide +kernel, rfl, by decide +kernel, by decide +kernel⟩
abbrev s_law : Stmt := (topS 34)
abbrev N_law : List Str := ["_law_script", "_law_k", "_law_box_here", "_law_many", "_law_kind", "_law_names_here", "_law_row", "_law_turn"]
theorem sc_law : FnScope N_law ["_law_script"] (defScope s_law) := ⟨rfl, rfl, rfl, by decide +kernel, rfl, by decide +kernel, by decide +kernel⟩
/-- what the top has written -/
structure Tx (K : PySem.W.Frag) (mg : Str → Option Value) where
  a_IceError : Addr
  g_IceError : mg "IceError" = some (.ref a_IceError)
  a_NoName : Addr
  g_NoName : mg "NoName" = some (.ref a_NoName)
  a_NoNumber : Addr
  g_NoNumber : mg "NoNumber" = some (.ref a_NoNumber)
  a_Vessel : Addr
  g_Vessel : mg "Vessel" = some (.ref a_Vessel)
  a_Breaker : Addr
  g_Breaker : mg "Breaker" = some (.ref a_Breaker)
  a_Ship : Addr
  g_Ship : mg "Ship" = some (.ref a_Ship)
  a_wall : Addr
  d_wall : FuncData
  F_wall : Fun K "_wall" "_wall" s_wall a_wall d_wall
  g_wall : mg "_wall" = some (.ref a_wall)
  b_wall : Binds K d_wall ["k"] []
  a_NoName___init__ : Addr
  d_NoName___init__ : FuncData
  F_NoName___init__ : Fun K "__init__" "NoName.__init__" s_NoName___init__ a_NoName___init__ d_NoName___init__
  b_NoName___init__ : Binds K d_NoName___init__ ["self", "found"] []
  a_NoNumber___init__ : Addr
  d_NoNumber___init__ : FuncData
  F_NoNumber___init__ : Fun K "__init__" "NoNumber.__init__" s_NoNumber___init__ a_NoNumber___init__ d_NoNumber___init__
  b_NoNumber___init__ : Binds K d_NoNumber___init__ ["self", "found"] []
  a_is_whole : Addr
  d_is_whole : FuncData
  F_is_whole : Fun K "is_whole" "is_whole" s_is_whole a_is_whole d_is_whole
  g_is_whole : mg "is_whole" = some (.ref a_is_whole)
  b_is_whole : Binds K d_is_whole ["thing"] []
  a_is_within : Addr
  d_is_within : FuncData
  F_is_within : Fun K "is_within" "is_within" s_is_within a_is_within d_is_within
  g_is_within : mg "is_within" = some (.ref a_is_within)
  b_is_within : Binds K d_is_within ["thing", "low", "high"] []
  a_is_name : Addr
  d_is_name : FuncData
  F_is_name : Fun K "is_name" "is_name" s_is_name a_is_name d_is_name
  g_is_name : mg "is_name" = some (.ref a_is_name)
  b_is_name : Binds K d_is_name ["thing"] []
  a_need_names : Addr
  d_need_names : FuncData
  F_need_names : Fun K "need_names" "need_names" s_need_names a_need_names d_need_names
  g_need_names : mg "need_names" = some (.ref a_need_names)
  b_need_names : Binds K d_need_names ["things"] []
  a_need_numbers : Addr
  d_need_numbers : FuncData
  F_need_numbers : Fun K "need_numbers" "need_numbers" s_need_numbers a_need_numbers d_need_numbers
  g_need_numbers : mg "need_numbers" = some (.ref a_need_numbers)
  b_need_numbers : Binds K d_need_numbers ["rows"] []
  a_Vessel___init__ : Addr
  d_Vessel___init__ : FuncData
  F_Vessel___init__ : Fun K "__init__" "Vessel.__init__" s_Vessel___init__ a_Vessel___init__ d_Vessel___init__
  b_Vessel___init__ : Binds K d_Vessel___init__ ["self", "name", "port", "hour", "strength", "draught"] []
  a_Vessel_settle : Addr
  d_Vessel_settle : FuncData
  F_Vessel_settle : Fun K "settle" "Vessel.settle" s_Vessel_settle a_Vessel_settle d_Vessel_settle
  b_Vessel_settle : Binds K d_Vessel_settle ["self", "name", "port", "hour", "strength", "draught"] []
  a_Vessel_thins : Addr
  d_Vessel_thins : FuncData
  F_Vessel_thins : Fun K "thins" "Vessel.thins" s_Vessel_thins a_Vessel_thins d_Vessel_thins
  b_Vessel_thins : Binds K d_Vessel_thins ["self"] []
  a_Breaker___init__ : Addr
  d_Breaker___init__ : FuncData
  F_Breaker___init__ : Fun K "__init__" "Breaker.__init__" s_Breaker___init__ a_Breaker___init__ d_Breaker___init__
  b_Breaker___init__ : Binds K d_Breaker___init__ ["self", "name", "port", "hour", "strength", "draught", "cut"] []
  a_Breaker_thins : Addr
  d_Breaker_thins : FuncData
  F_Breaker_thins : Fun K "thins" "Breaker.thins" s_Breaker_thins a_Breaker_thins d_Breaker_thins
  b_Breaker_thins : Binds K d_Breaker_thins ["self"] []
  a_Ship___init__ : Addr
  d_Ship___init__ : FuncData
  F_Ship___init__ : Fun K "__init__" "Ship.__init__" s_Ship___init__ a_Ship___init__ d_Ship___init__
  b_Ship___init__ : Binds K d_Ship___init__ ["self", "name", "port", "goal", "hour", "strength", "draught"] []
  a_law_cell : Addr
  d_law_cell : FuncData
  F_law_cell : Fun K "_law_cell" "_law_cell" s_law_cell a_law_cell d_law_cell
  g_law_cell : mg "_law_cell" = some (.ref a_law_cell)
  b_law_cell : Binds K d_law_cell ["_law_script", "_law_k"] []
  a_law_box : Addr
  d_law_box : FuncData
  F_law_box : Fun K "_law_box" "_law_box" s_law_box a_law_box d_law_box
  g_law_box : mg "_law_box" = some (.ref a_law_box)
  b_law_box : Binds K d_law_box ["_law_cell_here"] []
  a_law_take : Addr
  d_law_take : FuncData
  F_law_take : Fun K "_law_take" "_law_take" s_law_take a_law_take d_law_take
  g_law_take : mg "_law_take" = some (.ref a_law_take)
  b_law_take : Binds K d_law_take ["_law_box_here", "_law_many"] []
  a_law_names : Addr
  d_law_names : FuncData
  F_law_names : Fun K "_law_names" "_law_names" s_law_names a_law_names d_law_names
  g_law_names : mg "_law_names" = some (.ref a_law_names)
  b_law_names : Binds K d_law_names ["_law_box_here", "_law_many"] []
  a_law_number : Addr
  d_law_number : FuncData
  F_law_number : Fun K "_law_number" "_law_number" s_law_number a_law_number d_law_number
  g_law_number : mg "_law_number" = some (.ref a_law_number)
  b_law_number : Binds K d_law_number ["_law_box_here", "_law_low", "_law_high"] []
  a_law_odd : Addr
  d_law_odd : FuncData
  F_law_odd : Fun K "_law_odd" "_law_odd" s_law_odd a_law_odd d_law_odd
  g_law_odd : mg "_law_odd" = some (.ref a_law_odd)
  b_law_odd : Binds K d_law_odd ["_law_box_here"] []
  a_law_vessel_row : Addr
  d_law_vessel_row : FuncData
  F_law_vessel_row : Fun K "_law_vessel_row" "_law_vessel_row" s_law_vessel_row a_law_vessel_row d_law_vessel_row
  g_law_vessel_row : mg "_law_vessel_row" = some (.ref a_law_vessel_row)
  b_law_vessel_row : Binds K d_law_vessel_row ["_law_box_here", "_law_kind", "_law_name", "_law_ports"] []
  a_law_vessel : Addr
  d_law_vessel : FuncData
  F_law_vessel : Fun K "_law_vessel" "_law_vessel" s_law_vessel a_law_vessel d_law_vessel
  g_law_vessel : mg "_law_vessel" = some (.ref a_law_vessel)
  b_law_vessel : Binds K d_law_vessel ["_law_kind", "_law_row"] []
  a_law_is_name : Addr
  d_law_is_name : FuncData
  F_law_is_name : Fun K "_law_is_name" "_law_is_name" s_law_is_name a_law_is_name d_law_is_name
  g_law_is_name : mg "_law_is_name" = some (.ref a_law_is_name)
  b_law_is_name : Binds K d_law_is_name ["_law_thing"] []
  a_law_is_number : Addr
  d_law_is_number : FuncData
  F_law_is_number : Fun K "_law_is_number" "_law_is_number" s_law_is_number a_law_is_number d_law_is_number
  g_law_is_number : mg "_law_is_number" = some (.ref a_law_is_number)
  b_law_is_number : Binds K d_law_is_number ["_law_thing", "_law_low", "_law_high"] []
  a_law_due : Addr
  d_law_due : FuncData
  F_law_due : Fun K "_law_due" "_law_due" s_law_due a_law_due d_law_due
  g_law_due : mg "_law_due" = some (.ref a_law_due)
  b_law_due : Binds K d_law_due ["_law_kind", "_law_row"] []
  a_law_found : Addr
  d_law_found : FuncData
  F_law_found : Fun K "_law_found" "_law_found" s_law_found a_law_found d_law_found
  g_law_found : mg "_law_found" = some (.ref a_law_found)
  b_law_found : Binds K d_law_found ["_law_kind", "_law_row"] []
  a_law_spoilt : Addr
  d_law_spoilt : FuncData
  F_law_spoilt : Fun K "_law_spoilt" "_law_spoilt" s_law_spoilt a_law_spoilt d_law_spoilt
  g_law_spoilt : mg "_law_spoilt" = some (.ref a_law_spoilt)
  b_law_spoilt : Binds K d_law_spoilt ["_law_box_here", "_law_kind", "_law_row"] []
  a_law : Addr
  d_law : FuncData
  F_law : Fun K "law" "law" s_law a_law d_law
  g_law : mg "law" = some (.ref a_law)
  b_law : Binds K d_law ["_law_script"] []
  cl_Vessel : Cls K a_Vessel
  n_Vessel_name : NoAttr K a_Vessel "name"
  n_Vessel_port : NoAttr K a_Vessel "port"
  n_Vessel_hour : NoAttr K a_Vessel "hour"
  n_Vessel_strength : NoAttr K a_Vessel "strength"
  n_Vessel_draught : NoAttr K a_Vessel "draught"
  cl_Breaker : Cls K a_Breaker
  n_Breaker_name : NoAttr K a_Breaker "name"
  n_Breaker_port : NoAttr K a_Breaker "port"
  n_Breaker_hour : NoAttr K a_Breaker "hour"
  n_Breaker_strength : NoAttr K a_Breaker "strength"
  n_Breaker_draught : NoAttr K a_Breaker "draught"
  n_Breaker_cut : NoAttr K a_Breaker "cut"
  cl_Ship : Cls K a_Ship
  n_Ship_name : NoAttr K a_Ship "name"
  n_Ship_port : NoAttr K a_Ship "port"
  n_Ship_hour : NoAttr K a_Ship "hour"
  n_Ship_strength : NoAttr K a_Ship "strength"
  n_Ship_draught : NoAttr K a_Ship "draught"
  n_Ship_goal : NoAttr K a_Ship "goal"
  mk_Breaker : Mk K a_Breaker a_Breaker___init__
  mk_Ship : Mk K a_Ship a_Ship___init__
  mk_Vessel : Mk K a_Vessel a_Vessel___init__
  me_Breaker_settle : Meth K a_Breaker "settle" a_Vessel_settle
  me_Ship_settle : Meth K a_Ship "settle" a_Vessel_settle
  me_Vessel_settle : Meth K a_Vessel "settle" a_Vessel_settle
  rd_Vessel : PySem.W.readsIn K a_Vessel (.type "type") = true
  ga_Vessel : PySem.W.specialIn K (.ref a_Vessel) "__getattribute__" = some (some (.builtin "type.__getattribute__"))
  rd_IceError : PySem.W.readsIn K a_IceError (.type "type") = true
  ga_IceError : PySem.W.specialIn K (.ref a_IceError) "__getattribute__" = some (some (.builtin "type.__getattribute__"))
  vi_IceError : PySem.W.findCls K (.ref a_IceError) (.type "type") "__init__" = some (.val (.builtin "ValueError.__init__"))
  cm_Vessel___init__ : PySem.W.findCls K (.ref a_Vessel) (.type "type") "__init__" = some (.val (.ref a_Vessel___init__))
  ox_NoName : OexC K a_NoName
  ix_NoName : PySem.W.findIn K (.ref a_NoName) "__init__" = some (some (.ref a_NoName___init__))
  tx_NoName : PySem.W.typeIn K (.ref a_NoName___init__) = some (.type "function")
  xf_NoName : XfC K a_NoName
  n_NoName_found : PySem.W.findIn K (.ref a_NoName) "found" = some none
  ox_NoNumber : OexC K a_NoNumber
  ix_NoNumber : PySem.W.findIn K (.ref a_NoNumber) "__init__" = some (some (.ref a_NoNumber___init__))
  tx_NoNumber : PySem.W.typeIn K (.ref a_NoNumber___init__) = some (.type "function")
  xf_NoNumber : XfC K a_NoNumber
  n_NoNumber_found : PySem.W.findIn K (.ref a_NoNumber) "found" = some none
  te_NoName_IceError : PySem.W.exmOne K (.ref a_NoName) (.ref a_IceError) = some true
  te_NoNumber_IceError : PySem.W.exmOne K (.ref a_NoNumber) (.ref a_IceError) = some true
  te_NoName_NoName : PySem.W.exmOne K (.ref a_NoName) (.ref a_NoName) = some true
  te_NoNumber_NoName : PySem.W.exmOne K (.ref a_NoNumber) (.ref a_NoName) = some false
  te_NoName_NoNumber : PySem.W.exmOne K (.ref a_NoName) (.ref a_NoNumber) = some false
  te_NoNumber_NoNumber : PySem.W.exmOne K (.ref a_NoNumber) (.ref a_NoNumber) = some true
  m_all : mg "all" = none
  m_bool : mg "bool" = none
  m_enumerate : mg "enumerate" = none
  m_int : mg "int" = none
  m_isinstance : mg "isinstance" = none
  m_len : mg "len" = none
  m_max : mg "max" = none
  m_min : mg "min" = none
  m_range : mg "range" = none
  m_repr : mg "repr" = none
  m_str : mg "str" = none
  c_LETTERS : ∃ u, mg "LETTERS" = some u ∧ RelV (.str "abcdefghijklmnopqrstuvwxyz") u
  c_LONGEST_NAME : ∃ u, mg "LONGEST_NAME" = some u ∧ RelV (.int 8) u
  c_MOST_HOUR : ∃ u, mg "MOST_HOUR" = some u ∧ RelV (.int 1000000) u
  c_MOST_ICE : ∃ u, mg "MOST_ICE" = some u ∧ RelV (.int 1000000) u
  c_MOST_DEPTH : ∃ u, mg "MOST_DEPTH" = some u ∧ RelV (.int 1000) u
local macro_rules | `(tactic| walk_at "cls") => `(tactic| first | exact My.Tx.cl_Vessel (by assumption) | exact My.Tx.cl_Breaker (by assumption) | exact My.Tx.cl_Ship (by assumption))
local macro_rules | `(tactic| walk_at "noattr") => `(tactic| first | exact My.Tx.n_Vessel_name (by assumption) | exact My.Tx.n_Vessel_port (by assumption) | exact My.Tx.n_Vessel_hour (by assumption) | exact My.Tx.n_Vessel_strength (by assumption) | exact My.Tx.n_Vessel_draught (by assumption) | exact My.Tx.n_Breaker_name (by assumption) | exact My.Tx.n_Breaker_port (by assumption) | exact My.Tx.n_Breaker_hour (by assumption) | exact My.Tx.n_Breaker_strength (by assumption) | exact My.Tx.n_Breaker_draught (by assumption) | exact My.Tx.n_Breaker_cut (by assumption) | exact My.Tx.n_Ship_name (by assumption) | exact My.Tx.n_Ship_port (by assumption) | exact My.Tx.n_Ship_hour (by assumption) | exact My.Tx.n_Ship_strength (by assumption) | exact My.Tx.n_Ship_draught (by assumption) | exact My.Tx.n_Ship_goal (by assumption))
section
variable {P : Program} {w : World} {K : PySem.W.Frag} {mg : Str → Option Value} {base : Heap}
def veC (T : Tx K mg) : Nat → Addr
  | 0 => T.a_Vessel
  | 1 => T.a_Breaker
  | _ => T.a_Ship
def VeAt (T : Tx K mg) (H : Hp) (a : Addr) (v : Ve) : Prop := v.kind < 3 ∧ ∃ dx, H a = some (.ins (veC T v.kind) dx (veF v))
theorem ve_cl (T : Tx K mg) : ∀ k, Cls K (veC T k)
  | 0 => T.cl_Vessel
  | 1 => T.cl_Breaker
  | _ + 2 => T.cl_Ship
theorem ve_n_name (T : Tx K mg) : ∀ k, NoAttr K (veC T k) "name"
  | 0 => T.n_Vessel_name
  | 1 => T.n_Breaker_name
  | _ + 2 => T.n_Ship_name
theorem ve_n_port (T : Tx K mg) : ∀ k, NoAttr K (veC T k) "port"
  | 0 => T.n_Vessel_port
  | 1 => T.n_Breaker_port
  | _ + 2 => T.n_Ship_port
theorem ve_n_hour (T : Tx K mg) : ∀ k, NoAttr K (veC T k) "hour"
  | 0 => T.n_Vessel_hour
  | 1 => T.n_Breaker_hour
  | _ + 2 => T.n_Ship_hour
theorem ve_n_strength (T : Tx K mg) : ∀ k, NoAttr K (veC T k) "strength"
  | 0 => T.n_Vessel_strength
  | 1 => T.n_Breaker_strength
  | _ + 2 => T.n_Ship_strength
theorem ve_n_draught (T : Tx K mg) : ∀ k, NoAttr K (veC T k) "draught"
  | 0 => T.n_Vessel_draught
  | 1 => T.n_Breaker_draught
  | _ + 2 => T.n_Ship_draught
theorem ve_put (v : Ve) : putF "draught" (.int v.draught) (putF "strength" (.int v.strength) (putF "hour" (.int v.hour) (putF "port" (.str v.port) (putF "name" (.str v.name) [])))) = veB v := by kernel_rfl
theorem none_same {H H' : Hp} {p : Addr} (e : Same H H') (h : H' p = none) : H p = none := by
  cases h1 : H p with
  | none => rfl
  | some o => exact absurd ((e _ _ h1).symm.trans h) nofun
theorem vel_name (v : Ve) : (veF v).lookup ("name" : Str) = some (.str v.name) := by
  unfold veF
  split <;> kernel_rfl
theorem vel_port (v : Ve) : (veF v).lookup ("port" : Str) = some (.str v.port) := by
  unfold veF
  split <;> kernel_rfl
theorem vel_hour (v : Ve) : (veF v).lookup ("hour" : Str) = some (.int v.hour) := by
  unfold veF
  split <;> kernel_rfl
theorem vel_strength (v : Ve) : (veF v).lookup ("strength" : Str) = some (.int v.strength) := by
  unfold veF
  split <;> kernel_rfl
theorem vel_draught (v : Ve) : (veF v).lookup ("draught" : Str) = some (.int v.draught) := by
  unfold veF
  split <;> kernel_rfl
theorem vel_cut {v : Ve} (h : v.kind = 1) : (veF v).lookup ("cut" : Str) = some (.int v.cut) := by
  unfold veF
  rw [h]
  kernel_rfl
theorem vel_goal {v : Ve} (h : v.kind = 2) : (veF v).lookup ("goal" : Str) = some (.str v.goal) := by
  unfold veF
  rw [h]
  kernel_rfl
theorem ven_kind (v : Ve) : (veF v).lookup ("kind" : Str) = none := by
  unfold veF
  split <;> kernel_rfl
theorem ven_thins (v : Ve) : (veF v).lookup ("thins" : Str) = none := by
  unfold veF
  split <;> kernel_rfl
theorem ven_lets (v : Ve) : (veF v).lookup ("lets" : Str) = none := by
  unfold veF
  split <;> kernel_rfl
theorem ven_row (v : Ve) : (veF v).lookup ("row" : Str) = none := by
  unfold veF
  split <;> kernel_rfl
local macro_rules | `(tactic| walk_at "nolk") => `(tactic| with_reducible first | exact My.ven_kind _ | exact My.ven_row _ | exact My.ven_thins _ | exact My.ven_lets _)
local macro_rules | `(tactic| walk_at "lk") => `(tactic| with_reducible first | exact My.vel_name _ | exact My.vel_port _ | exact My.vel_hour _ | exact My.vel_strength _ | exact My.vel_draught _ | exact My.vel_cut (by assumption) | exact My.vel_goal (by assumption))
local macro_rules | `(tactic| walk_at "cls") => `(tactic| exact My.ve_cl (by assumption) _)
local macro_rules | `(tactic| walk_at "noattr") => `(tactic| first | exact My.ve_n_name (by assumption) _ | exact My.ve_n_port (by assumption) _ | exact My.ve_n_hour (by assumption) _ | exact My.ve_n_strength (by assumption) _ | exact My.ve_n_draught (by assumption) _)
-- no reading of _wall yet
theorem ok_NoName___init__ (T : Tx K mg) : FnOk P w K mg base CX0 1 T.a_NoName___init__ T.d_NoName___init__ ["self", "found"] (spXInit T.a_NoName "found") := by
  refine T.F_NoName___init__.ok sc_NoName___init__ (fun vs H Q E h => ?_) (fun cdv A outer s H vs Q E hr h => ?_)
  · obtain ⟨a, v, rfl, _⟩ := h
    rfl
  · refine ⟨_, (pss_cons (ps_expr (pe_upinit rfl T.g_IceError T.rd_IceError T.ga_IceError T.vi_IceError (pa_cons (pv 0) (pa_cons pe_str pa_nil))))
        (pss_one (ps_ost (pv 0) (pv 1)))), ?_⟩
    exact xinit_rd T.ox_NoName T.n_NoName_found h
theorem ok_NoNumber___init__ (T : Tx K mg) : FnOk P w K mg base CX0 1 T.a_NoNumber___init__ T.d_NoNumber___init__ ["self", "found"] (spXInit T.a_NoNumber "found") := by
  refine T.F_NoNumber___init__.ok sc_NoNumber___init__ (fun vs H Q E h => ?_) (fun cdv A outer s H vs Q E hr h => ?_)
  · obtain ⟨a, v, rfl, _⟩ := h
    rfl
  · refine ⟨_, (pss_cons (ps_expr (pe_upinit rfl T.g_IceError T.rd_IceError T.ga_IceError T.vi_IceError (pa_cons (pv 0) (pa_cons pe_str pa_nil))))
        (pss_one (ps_ost (pv 0) (pv 1)))), ?_⟩
    exact xinit_rd T.ox_NoNumber T.n_NoNumber_found h
def sp_is_whole (K : PySem.W.Frag) : Sp := fun vs H Q _ => ∃ v, vs = [v] ∧ ThingAt K H v ∧ Q (.bl (wholeV v)) H
theorem ok_is_whole (T : Tx K mg) : FnOk P w K mg base CX0 1 T.a_is_whole T.d_is_whole ["thing"] (sp_is_whole K) := by
  refine T.F_is_whole.ok sc_is_whole (fun vs H Q E h => ?_) (fun cdv A outer s H vs Q E hr h => ?_)
  · obtain ⟨v, rfl, _⟩ := h
    rfl
  · refine ⟨_, (pss_one (ps_ret (pe_and (pe_callB (isiK (K := K) rfl) (by rfl) T.m_isinstance (by decide +kernel) (pa_cons (pv 0) (pa_cons (pe_bltn (v := .ty "int") rfl T.m_int (by decide +kernel) rfl) pa_nil))) (pe_one (pe_not (pe_callB (isiK (K := K) rfl) (by rfl) T.m_isinstance (by decide +kernel) (pa_cons (pv 0) (pa_cons (pe_bltn (v := .ty "bool") rfl T.m_bool (by decide +kernel) rfl) pa_nil)))))))), ?_⟩
    obtain ⟨v, rfl, hT, q⟩ := h
    obtain ⟨t, ht, h1, h2, h3⟩ := thing_ty hT
    walk_at "rd"
    refine rd_isi ht h1 ?_
    walk_at "rd"
    cases v with
    | int i =>
      refine iteT ?_
      walk_at "rd"
      refine rd_isi ht h2 ?_
      walk_at "rd"
      exact q
    | bl b =>
      refine iteT ?_
      walk_at "rd"
      refine rd_isi ht h2 ?_
      walk_at "rd"
      exact q
    | _ => first | exact iteF q | exact hT.elim
def sp_is_within (K : PySem.W.Frag) : Sp := fun vs H Q _ => ∃ v lo hi, vs = [v, .int lo, .int hi] ∧ ThingAt K H v ∧ Q (.bl (withinV v lo hi)) H
theorem ok_is_within (T : Tx K mg) : FnOk P w K mg base CX0 2 T.a_is_within T.d_is_within ["thing", "low", "high"] (sp_is_within K) := by
  refine T.F_is_within.ok sc_is_within (fun vs H Q E h => ?_) (fun cdv A outer s H vs Q E hr h => ?_)
  · obtain ⟨v, lo, hi, rfl, _⟩ := h
    rfl
  · refine ⟨_, (pss_one (ps_ret (pe_and (pe_call (ok_is_whole T) (hr.mono (by decide)) (by rfl) T.g_is_whole T.F_is_whole.kp T.b_is_whole .nil pass0 (pa_cons (pv 0) pa_nil)) (pe_one (pe_chain op_le op_le (pv 1) (pv 0) (pv 2)))))), ?_⟩
    obtain ⟨v, lo, hi, rfl, hT, q⟩ := h
    walk_at "rd"
    refine ⟨v, rfl, hT, ?_⟩
    walk_at "rd"
    cases v with
    | int i =>
      refine iteT ?_
      walk_at "rd"
      refine rd_iteD (fun h1 => ?_) (fun h1 => ?_)
      · walk_at "rd"
        rw [withinV, decide_eq_true h1, Bool.true_and] at q
        exact q
      · walk_at "rd"
        rw [withinV, decide_eq_false h1, Bool.false_and] at q
        exact q
    | _ => first | exact iteF q | exact hT.elim
def sp_is_name (K : PySem.W.Frag) : Sp := fun vs H Q _ => ∃ v, vs = [v] ∧ ThingAt K H v ∧ ∀ H', Same H H' → Q (.bl (nameV v)) H'
theorem ok_is_name (T : Tx K mg) : FnOk P w K mg base CX0 1 T.a_is_name T.d_is_name ["thing"] (sp_is_name K) := by
  refine T.F_is_name.ok sc_is_name (fun vs H Q E h => ?_) (fun cdv A outer s H vs Q E hr h => ?_)
  · obtain ⟨v, rfl, _⟩ := h
    rfl
  · refine ⟨_, (pss_cons (ps_if (PW.pt (pw_or (pt_not (pt_val (pe_callB (isiK (K := K) rfl) (by rfl) T.m_isinstance (by decide +kernel) (pa_cons (pv 0) (pa_cons (pe_bltn (v := .ty "str") rfl T.m_str (by decide +kernel) rfl) pa_nil))))) (pw_or1 (pt_not (pt_chain op_le op_le pe_int (pe_callB (lenK (K := K) rfl) (by rfl) T.m_len (by decide +kernel) (pa_cons (pv 0) pa_nil)) (C8.pe_gc rfl T.c_LONGEST_NAME))))))
        (pss_one (ps_ret pe_bl))
        pss_nil)
        (pss_one (ps_ret (pe_callB (allK (K := K) rfl rfl) (by rfl) T.m_all (by decide +kernel) (pa_cons (pe_lc (own := [("sign", 1)]) (g := gName 1) (tt := tYes) rfl sc_is_name.nd (pi_str (pv 0)) (blkOk_by (own := [("sign", 1)]) (N := N_is_name) (sc := defScope s_is_name) (by decide +kernel)) (fun _ _ _ _ _ => (pg_name (i := 1) sc_is_name.nd rfl (Or.inl rfl))) (fun _ _ _ _ _ => pts_nil) (fun _ _ _ _ _ => (pe_frm (pe_cmpR inSg (pv 1) (C8.pe_gc rfl T.c_LETTERS) rfl)))) pa_nil))))), ?_⟩
    obtain ⟨v, rfl, hT, q⟩ := h
    obtain ⟨t, ht, h1, h2, h3⟩ := thing_ty hT
    walk_at "rd"
    refine rd_isi ht h3 ?_
    walk_at "rd"
    cases v with
    | str z =>
      have hz : z.length ≤ 2000 := hT
      refine iteT ?_
      walk_at "rd"
      refine rd_iteD (fun h4 => ?_) (fun h4 => ?_)
      · walk_at "rd"
        refine rd_iteD (fun h5 => ?_) (fun h5 => ?_)
        · walk_at "rd"
          refine lcgo_str (f := fun c => .bl (isLet c)) (by omega) (fun _ => rfl) (fun c H' Q' hc q' => ?_) (fun D hD => ?_)
          · walk_at "rd"
            rw [isLet_in]
            exact q'
          · walk_at "rd"
            refine rd_all (bs := z.cps.toList.map isLet) (sqL_of (by rw [upd_same, List.map_map]; rfl)) ?_
            have eall : (z.cps.toList.map isLet).all id = z.cps.toList.all isLet := by rw [List.all_map]; rfl
            rw [eall]
            walk_at "rd"
            have e : nameV (.str z) = z.cps.toList.all isLet := by rw [nameV, nameS, decide_eq_true (show 1 ≤ z.length ∧ z.length ≤ 8 by omega), Bool.true_and]
            rw [← e]
            exact q _ (same_new hD)
        · walk_at "rd"
          have := q _ (Same.refl H)
          rw [nameV, nameS, decide_eq_false (show ¬ (1 ≤ z.length ∧ z.length ≤ 8) by omega), Bool.false_and] at this
          exact this
      · walk_at "rd"
        have := q _ (Same.refl H)
        rw [nameV, nameS, decide_eq_false (show ¬ (1 ≤ z.length ∧ z.length ≤ 8) by omega), Bool.false_and] at this
        exact this
    | _ =>
      first
      | (refine iteF ?_
         walk_at "rd"
         exact q _ (Same.refl H))
      | exact hT.elim

def sp_need_names (T : Tx K mg) : Sp := fun vs H Q E => ∃ p xs, vs = [.ref p] ∧ SqL K H p xs ∧ (∀ x ∈ xs, ThingAt K H x) ∧ xs.length ≤ 1000 ∧ (xs.find? (fun v => !nameV v) = none → ∀ H', Same H H' → Q .non H') ∧
  ∀ v, xs.find? (fun v => !nameV v) = some v → ∀ d H', Same H H' → H' d = some (.xd [("found", v)]) → E (.ref T.a_NoName) (some d) H'
theorem ok_need_names (T : Tx K mg) : FnOk P w K mg base (L2.CX P w) 3 T.a_need_names T.d_need_names ["things"] (sp_need_names T) := by
  refine T.F_need_names.okX sc_need_names (fun vs H Q E h => ?_) (fun cdv A outer s H vs Q E hr h => ?_)
  · obtain ⟨p, xs, rfl, _⟩ := h
    rfl
  · refine ⟨_, (pss_one (ps_for (passes_of rfl) rfl (pi_listK (K := K) rfl (pv 0)) (pg_name (i := 1) sc_need_names.nd rfl (Or.inl rfl))
        (pss_one (ps_if (pt_not (pt_val (pe_call (ok_is_name T) (hr.mono (by decide)) (by rfl) T.g_is_name T.F_is_name.kp T.b_is_name .nil pass0 (pa_cons (pv 1) pa_nil))))
        (pss_one (ps_raiseX rfl (takes_of rfl rfl rfl rfl) T.ox_NoName T.ix_NoName T.tx_NoName (ok_NoName___init__ T) (hr.mono (by decide)) T.b_NoName___init__ rfl T.g_NoName (pa_cons (pv 1) pa_nil)))
        pss_nil)))), ?_⟩
    obtain ⟨p, xs, rfl, hS, hT, hl, q1, q2⟩ := h
    walk_at "rd"
    refine rd_il hS ?_
    refine forgo walk_list (fun i σ' H' => Same H H' ∧ (xs.take i).find? (fun v => !nameV v) = none ∧ ∃ x1, σ' = [some (.ref p), x1]) ⟨Same.refl _, rfl, _, rfl⟩ (fun i σ' H' _ p => (p.1).seq hS) ?_ ?_
    · rintro i x σ' Ha Hb hi ⟨sa, hn, x1, rfl⟩ ⟨e0, hx⟩
      subst e0
      walk_at "rd"
      refine ⟨x, rfl, (hT x (List.mem_of_getElem? hx)).keep sa, fun Hc sc => ?_⟩
      walk_at "rd"
      cases hv : nameV x with
      | true =>
        walk_at "rd"
        exact ⟨sa.trans sc, (find_step hn hx).1 (by rw [hv]; rfl), _, rfl⟩
      | false =>
        walk_at "rd"
        refine rd_raise1 fun d hd => ?_
        exact q2 x ((find_step hn hx).2 (by rw [hv]; rfl)) d _ ((sa.trans sc).trans (same_new hd)) upd_same
    · rintro σ' Ha ⟨sa, hn, x1, rfl⟩
      walk_at "rd"
      rw [List.take_length] at hn
      exact q1 hn _ sa
def sp_need_numbers (T : Tx K mg) : Sp := fun vs H Q E => ∃ p, ∃ rs : List (Addr × V × Int × Int), vs = [.ref p] ∧ SqL K H p (rs.map fun r => .ref r.1) ∧ (∀ r ∈ rs, SqT K H r.1 [r.2.1, .int r.2.2.1, .int r.2.2.2] ∧ ThingAt K H r.2.1) ∧ rs.length ≤ 1000 ∧
  ((rs.map (·.2)).find? badN = none → ∀ H', Same H H' → Q .non H') ∧
  ∀ r, (rs.map (·.2)).find? badN = some r → ∀ d H', Same H H' → H' d = some (.xd [("found", r.1)]) → E (.ref T.a_NoNumber) (some d) H'
theorem ok_need_numbers (T : Tx K mg) : FnOk P w K mg base (L2.CX P w) 3 T.a_need_numbers T.d_need_numbers ["rows"] (sp_need_numbers T) := by
  refine T.F_need_numbers.okX sc_need_numbers (fun vs H Q E h => ?_) (fun cdv A outer s H vs Q E hr h => ?_)
  · obtain ⟨p, rs, rfl, _⟩ := h
    rfl
  · refine ⟨_, (pss_one (ps_for (passes_of rfl) rfl (pi_listK (K := K) rfl (pv 0)) (pg_tup rfl (pgs_cons (pg_name (i := 1) sc_need_numbers.nd rfl (Or.inl rfl)) (pgs_cons (pg_name (i := 2) sc_need_numbers.nd rfl (Or.inl rfl)) (pgs_cons (pg_name (i := 3) sc_need_numbers.nd rfl (Or.inl rfl)) pgs_nil))))
        (pss_one (ps_if (pt_not (pt_val (pe_call (ok_is_within T) (hr.mono (by decide)) (by rfl) T.g_is_within T.F_is_within.kp T.b_is_within .nil pass0 (pa_cons (pv 1) (pa_cons (pv 2) (pa_cons (pv 3) pa_nil))))))
        (pss_one (ps_raiseX rfl (takes_of rfl rfl rfl rfl) T.ox_NoNumber T.ix_NoNumber T.tx_NoNumber (ok_NoNumber___init__ T) (hr.mono (by decide)) T.b_NoNumber___init__ rfl T.g_NoNumber (pa_cons (pv 1) pa_nil)))
        pss_nil)))), ?_⟩
    obtain ⟨p, rs, rfl, hS, hT, hl, q1, q2⟩ := h
    walk_at "rd"
    refine rd_il hS ?_
    refine forgo walk_list (fun i σ' H' => Same H H' ∧ ((rs.map (·.2)).take i).find? badN = none ∧ ∃ x1 x2 x3, σ' = [some (.ref p), x1, x2, x3]) ⟨Same.refl _, rfl, _, _, _, rfl⟩ (fun i σ' H' _ p => (p.1).seq hS) ?_ ?_
    · rintro i x σ' Ha Hb hi ⟨sa, hn, x1, x2, x3, rfl⟩ ⟨e0, hx⟩
      subst e0
      rw [List.getElem?_map] at hx
      obtain ⟨⟨t, v, lo, hi2⟩, hr, rfl⟩ := Option.map_eq_some_iff.mp hx
      obtain ⟨ht, hth⟩ := hT _ (List.mem_of_getElem? hr)
      have hx2 : (rs.map (·.2))[i]? = some (v, lo, hi2) := by rw [List.getElem?_map, hr]; rfl
      refine rd_gtup (Same.seqT sa ht) rfl ?_
      walk_at "rd"
      refine ⟨v, lo, hi2, rfl, hth.keep sa, ?_⟩
      walk_at "rd"
      cases hv : withinV v lo hi2 with
      | true =>
        walk_at "rd"
        exact ⟨sa, (find_step hn hx2).1 (by simp only [badN, hv]; rfl), _, _, _, rfl⟩
      | false =>
        walk_at "rd"
        refine rd_raise1 fun d hd => ?_
        exact q2 _ ((find_step hn hx2).2 (by simp only [badN, hv]; rfl)) d _ (sa.trans (same_new hd)) upd_same
    · rintro σ' Ha ⟨sa, hn, x1, x2, x3, rfl⟩
      walk_at "rd"
      rw [show (rs.map fun r => V.ref r.1).length = (rs.map (·.2)).length by rw [List.length_map, List.length_map], List.take_length] at hn
      exact q1 hn _ sa
def sp_Vessel_settle (T : Tx K mg) : Sp := fun vs H Q _ => ∃ (k : Nat) (a dx : Addr) (v : Ve), vs = [.ref a, .str v.name, .str v.port, .int v.hour, .int v.strength, .int v.draught] ∧ H a = some (.ins (veC T k) dx []) ∧
  ∀ H', KeepB a H H' → H' a = some (.ins (veC T k) dx (veB v)) → Q .non H'
theorem ok_Vessel_settle (T : Tx K mg) : FnOk P w K mg base CX0 1 T.a_Vessel_settle T.d_Vessel_settle ["self", "name", "port", "hour", "strength", "draught"] (sp_Vessel_settle T) := by
  refine T.F_Vessel_settle.ok sc_Vessel_settle (fun vs H Q E h => ?_) (fun cdv A outer s H vs Q E hr h => ?_)
  · obtain ⟨k, a, dx, v, rfl, _⟩ := h
    rfl
  · refine ⟨_, (pss_cons (ps_fldK (K := K) rfl (pv 0) (pv 1) rfl)
        (pss_cons (ps_fldK (K := K) rfl (pv 0) (pv 2) rfl)
        (pss_cons (ps_fldK (K := K) rfl (pv 0) (pv 3) rfl)
        (pss_cons (ps_fldK (K := K) rfl (pv 0) (pv 4) rfl)
        (pss_one (ps_fldK (K := K) rfl (pv 0) (pv 5) rfl)))))), ?_⟩
    obtain ⟨k, a, dx, v, rfl, hA, q⟩ := h
    walk_at "rd"
    refine rd_fldSet hA (ve_cl T k) (ve_n_name T k) (of_decide_eq_true (by kernel_rfl)) ?_
    walk_at "rd"
    refine rd_fldSet upd_same (ve_cl T k) (ve_n_port T k) (of_decide_eq_true (by kernel_rfl)) ?_
    walk_at "rd"
    refine rd_fldSet upd_same (ve_cl T k) (ve_n_hour T k) (of_decide_eq_true (by kernel_rfl)) ?_
    walk_at "rd"
    refine rd_fldSet upd_same (ve_cl T k) (ve_n_strength T k) (of_decide_eq_true (by kernel_rfl)) ?_
    walk_at "rd"
    refine rd_fldSet upd_same (ve_cl T k) (ve_n_draught T k) (of_decide_eq_true (by kernel_rfl)) ?_
    walk_at "rd"
    refine q _ ((KeepB.refl a H).put.put.put.put.put) ?_
    rw [upd_same]
    exact congrArg (fun fs => some (HO.ins (veC T k) dx fs)) (ve_put v)
def sp_Vessel___init__ (T : Tx K mg) : Sp := fun vs H Q E => ∃ (k : Nat) (a dx : Addr) (nm po ho st dr : V), vs = [.ref a, nm, po, ho, st, dr] ∧ H a = some (.ins (veC T k) dx []) ∧ (∀ x ∈ [nm, po, ho, st, dr], ThingAt K H x) ∧
  (veRef nm po ho st dr = none → ∀ (v : Ve) H', [nm, po, ho, st, dr] = [.str v.name, .str v.port, .int v.hour, .int v.strength, .int v.draught] → KeepB a H H' → H' a = some (.ins (veC T k) dx (veB v)) → Q .non H') ∧
  (∀ v, veRef nm po ho st dr = some (0, v) → ∀ d H', Same H H' → H' d = some (.xd [("found", v)]) → E (.ref T.a_NoName) (some d) H') ∧
  (∀ v, veRef nm po ho st dr = some (2, v) → ∀ d H', Same H H' → H' d = some (.xd [("found", v)]) → E (.ref T.a_NoNumber) (some d) H')
theorem ve_0 {nm po ho st dr v : V} (h0 : [nm, po].find? (fun v => !nameV v) = some v) : veRef nm po ho st dr = some (0, v) := by
  unfold veRef
  rw [h0]
theorem ve_2 {nm po ho st dr : V} {r : V × Int × Int} (h0 : [nm, po].find? (fun v => !nameV v) = none) (h2 : [(ho, (0 : Int), (1000000 : Int)), (st, 0, 1000000), (dr, 0, 1000)].find? badN = some r) : veRef nm po ho st dr = some (2, r.1) := by
  unfold veRef
  rw [h0]
  simp only [h2]
theorem ve_4 {nm po ho st dr : V} (h0 : [nm, po].find? (fun v => !nameV v) = none) (h2 : [(ho, (0 : Int), (1000000 : Int)), (st, 0, 1000000), (dr, 0, 1000)].find? badN = none) : veRef nm po ho st dr = none := by
  unfold veRef
  rw [h0]
  simp only [h2]
theorem ok_Vessel___init__ (T : Tx K mg) : FnOk P w K mg base (L2.CX P w) 4 T.a_Vessel___init__ T.d_Vessel___init__ ["self", "name", "port", "hour", "strength", "draught"] (sp_Vessel___init__ T) := by
  refine T.F_Vessel___init__.okX sc_Vessel___init__ (fun vs H Q E h => ?_) (fun cdv A outer s H vs Q E hr h => ?_)
  · obtain ⟨k, a, dx, nm, po, ho, st, dr, rfl, _⟩ := h
    rfl
  · refine ⟨_, (pss_cons (ps_expr (pe_callS (ok_need_names T) (hr.mono (by decide)) (by rfl) T.g_need_names T.F_need_names.kp T.b_need_names (fun σ => passAt (takes_of rfl rfl rfl rfl) σ) (pa_cons (pe_lst (pa_cons (pv 1) (pa_cons (pv 2) pa_nil))) pa_nil)))
        (pss_cons (ps_expr (pe_callS (ok_need_numbers T) (hr.mono (by decide)) (by rfl) T.g_need_numbers T.F_need_numbers.kp T.b_need_numbers (fun σ => passAt (takes_of rfl rfl rfl rfl) σ) (pa_cons (pe_lst (pa_cons (pe_tup (pa_cons (pv 3) (pa_cons pe_int (pa_cons (C8.pe_gc rfl T.c_MOST_HOUR) pa_nil)))) (pa_cons (pe_tup (pa_cons (pv 4) (pa_cons pe_int (pa_cons (C8.pe_gc rfl T.c_MOST_ICE) pa_nil)))) (pa_cons (pe_tup (pa_cons (pv 5) (pa_cons pe_int (pa_cons (C8.pe_gc rfl T.c_MOST_DEPTH) pa_nil)))) pa_nil)))) pa_nil)))
        (pss_one (ps_expr (pe_alt (pe_meth (pv 0) T.cl_Vessel T.me_Vessel_settle (ok_Vessel_settle T) (hr.mono (by decide)) T.b_Vessel_settle .nil pass0 (pa_cons (pv 1) (pa_cons (pv 2) (pa_cons (pv 3) (pa_cons (pv 4) (pa_cons (pv 5) pa_nil)))))) (pe_alt (pe_meth (pv 0) T.cl_Breaker T.me_Breaker_settle (ok_Vessel_settle T) (hr.mono (by decide)) T.b_Vessel_settle .nil pass0 (pa_cons (pv 1) (pa_cons (pv 2) (pa_cons (pv 3) (pa_cons (pv 4) (pa_cons (pv 5) pa_nil)))))) (pe_meth (pv 0) T.cl_Ship T.me_Ship_settle (ok_Vessel_settle T) (hr.mono (by decide)) T.b_Vessel_settle .nil pass0 (pa_cons (pv 1) (pa_cons (pv 2) (pa_cons (pv 3) (pa_cons (pv 4) (pa_cons (pv 5) pa_nil)))))))))))), ?_⟩
    obtain ⟨k, a, dx, nm, po, ho, st, dr, rfl, hA, hT, q0, q1, q2⟩ := h
    walk_at "rd"
    refine rd_lstA (by simp) fun l H1 nl s1 el => ?_
    refine ⟨l, [nm, po], rfl, sqL_of el, fun x hx => (hT x (by simp only [List.mem_cons, List.not_mem_nil, or_false] at hx; rcases hx with h | h <;> simp [h])).keep s1, by simp, fun hf H2 s2 => ?_, fun v hv d H2 s2 hd => q1 v (ve_0 hv) d H2 (s1.trans s2) hd⟩
    have n0 := List.find?_eq_none.mp hf
    obtain ⟨z0, rfl⟩ := name_str (v := nm) (by simpa using n0 nm (by simp))
    obtain ⟨z1, rfl⟩ := name_str (v := po) (by simpa using n0 po (by simp))
    have s02 := s1.trans s2
    walk_at "rd"
    refine rd_tupA (by simp) fun t1 H3 n3 s3 e3 => ?_
    walk_at "rd"
    refine rd_tupA (by simp) fun t2 H4 n4 s4 e4 => ?_
    walk_at "rd"
    refine rd_tupA (by simp) fun t3 H5 n5 s5 e5 => ?_
    walk_at "rd"
    refine rd_lstA (by simp) fun l2 H6 n6 s6 e6 => ?_
    have s06 := (((s02.trans s3).trans s4).trans s5).trans s6
    refine ⟨l2, [(t1, ho, 0, 1000000), (t2, st, 0, 1000000), (t3, dr, 0, 1000)], rfl, sqL_of e6, fun r hr => ?_, by simp, fun hf2 H7 s7 => ?_, fun r hv d H7 s7 hd => q2 r.1 (ve_2 hf hv) d H7 (s06.trans s7) hd⟩
    · simp only [List.mem_cons, List.not_mem_nil, or_false] at hr
      rcases hr with rfl | rfl | rfl
      · exact ⟨sqT_of (s6 _ _ (s5 _ _ (s4 _ _ e3))), (hT _ (by simp)).keep s06⟩
      · exact ⟨sqT_of (s6 _ _ (s5 _ _ e4)), (hT _ (by simp)).keep s06⟩
      · exact ⟨sqT_of (s6 _ _ e5), (hT _ (by simp)).keep s06⟩
    have hf2 : [(ho, (0 : Int), (1000000 : Int)), (st, 0, 1000000), (dr, 0, 1000)].find? badN = none := hf2
    have n2 := List.find?_eq_none.mp hf2
    obtain ⟨ih, rfl⟩ := in_int (v := ho) (lo := 0) (hi := 1000000) (by simpa using n2 (ho, 0, 1000000) (by simp))
    obtain ⟨is, rfl⟩ := in_int (v := st) (lo := 0) (hi := 1000000) (by simpa using n2 (st, 0, 1000000) (by simp))
    obtain ⟨id, rfl⟩ := in_int (v := dr) (lo := 0) (hi := 1000) (by simpa using n2 (dr, 0, 1000) (by simp))
    have s07 := s06.trans s7
    have hA7 := s07 _ _ hA
    walk_at "rd"
    match k, hA7, q0 with
    | 0, hA7, q0 =>
      have hA8 : H7 a = some (.ins T.a_Vessel dx []) := hA7
      refine rd_altL ?_
      walk_at "rd"
      refine ⟨0, a, dx, ⟨0, z0, z1, z1, ih, is, id, 0⟩, rfl, hA8, fun H8 k8 h8 => ?_⟩
      walk_at "rd"
      exact q0 (ve_4 hf hf2) ⟨0, z0, z1, z1, ih, is, id, 0⟩ H8 rfl (fun b o hb hne => k8 b o (s07 b o hb) hne) h8
    | 1, hA7, q0 =>
      have hA8 : H7 a = some (.ins T.a_Breaker dx []) := hA7
      refine rd_altR (rd_altL ?_)
      walk_at "rd"
      refine ⟨1, a, dx, ⟨0, z0, z1, z1, ih, is, id, 0⟩, rfl, hA8, fun H8 k8 h8 => ?_⟩
      walk_at "rd"
      exact q0 (ve_4 hf hf2) ⟨0, z0, z1, z1, ih, is, id, 0⟩ H8 rfl (fun b o hb hne => k8 b o (s07 b o hb) hne) h8
    | k + 2, hA7, q0 =>
      have hA8 : H7 a = some (.ins T.a_Ship dx []) := hA7
      refine rd_altR (rd_altR ?_)
      walk_at "rd"
      refine ⟨2, a, dx, ⟨0, z0, z1, z1, ih, is, id, 0⟩, rfl, hA8, fun H8 k8 h8 => ?_⟩
      walk_at "rd"
      exact q0 (ve_4 hf hf2) ⟨0, z0, z1, z1, ih, is, id, 0⟩ H8 rfl (fun b o hb hne => k8 b o (s07 b o hb) hne) h8
def sp_Vessel_thins (K : PySem.W.Frag) : Sp := fun vs H Q _ => ∃ a, vs = [.ref a] ∧ Q (.int 0) H
theorem ok_Vessel_thins (T : Tx K mg) : FnOk P w K mg base CX0 1 T.a_Vessel_thins T.d_Vessel_thins ["self"] (sp_Vessel_thins K) := by
  refine T.F_Vessel_thins.ok sc_Vessel_thins (fun vs H Q E h => ?_) (fun cdv A outer s H vs Q E hr h => ?_)
  · obtain ⟨a, rfl, _⟩ := h
    rfl
  · refine ⟨_, (pss_one (ps_ret pe_int)), ?_⟩
    obtain ⟨a, rfl, q⟩ := h
    walk_at "rd"
    exact q
theorem br_1 {nm po ho st dr cu : V} {r : Nat × V} (h : veRef nm po ho st dr = some r) : brRef nm po ho st dr cu = some r := by
  unfold brRef
  rw [h]
theorem br_2 {nm po ho st dr cu : V} (h : veRef nm po ho st dr = none) (h2 : badN (cu, 1, 1000000) = true) : brRef nm po ho st dr cu = some (2, cu) := by
  unfold brRef
  rw [h]
  exact if_pos h2
theorem br_4 {nm po ho st dr cu : V} (h : veRef nm po ho st dr = none) (h2 : badN (cu, 1, 1000000) = false) : brRef nm po ho st dr cu = none := by
  unfold brRef
  rw [h]
  exact if_neg (by rw [h2]; decide)
theorem br_put (v : Ve) : putF "cut" (.int v.cut) (veB v) = veB v ++ [(("cut" : Str), V.int v.cut)] := by kernel_rfl
theorem ThingAt.keepB {H H' : Hp} {v : V} {a C dx : Addr} {fs : List (Str × V)} (h : ThingAt K H v) (hA : H a = some (.ins C dx fs)) (k : KeepB a H H') : ThingAt K H' v := by
  cases v with
  | ref b =>
    obtain ⟨t, h1, h2⟩ := h
    refine ⟨t, ?_, h2⟩
    have nb : ∀ o, H b = some o → (∀ C dx fs, o ≠ .ins C dx fs) → H' b = some o := fun o e hne => k b o e fun e2 => by
      rw [e2, hA] at e
      exact hne _ _ _ (Option.some.inj e).symm
    cases h1 with
    | lst e => exact .lst (nb _ e nofun)
    | frz e => exact .frz (nb _ e nofun)
    | tup e => exact .tup (nb _ e nofun)
    | dK e => exact .dK (nb _ e nofun)
    | dT e => exact .dT (nb _ e nofun)
  | _ => exact h
def sp_Breaker___init__ (T : Tx K mg) : Sp := fun vs H Q E => ∃ (a dx : Addr) (nm po ho st dr cu : V), vs = [.ref a, nm, po, ho, st, dr, cu] ∧ H a = some (.ins T.a_Breaker dx []) ∧ (∀ x ∈ [nm, po, ho, st, dr, cu], ThingAt K H x) ∧
  (brRef nm po ho st dr cu = none → ∀ (v : Ve) H', v.kind = 1 → [nm, po, ho, st, dr, cu] = veV v → KeepB a H H' → VeAt T H' a v → Q .non H') ∧
  (∀ v, brRef nm po ho st dr cu = some (0, v) → ∀ d H', KeepB a H H' → H' d = some (.xd [("found", v)]) → E (.ref T.a_NoName) (some d) H') ∧
  (∀ v, brRef nm po ho st dr cu = some (2, v) → ∀ d H', KeepB a H H' → H' d = some (.xd [("found", v)]) → E (.ref T.a_NoNumber) (some d) H')
theorem ok_Breaker___init__ (T : Tx K mg) : FnOk P w K mg base (L2.CX P w) 5 T.a_Breaker___init__ T.d_Breaker___init__ ["self", "name", "port", "hour", "strength", "draught", "cut"] (sp_Breaker___init__ T) := by
  refine T.F_Breaker___init__.okX sc_Breaker___init__ (fun vs H Q E h => ?_) (fun cdv A outer s H vs Q E hr h => ?_)
  · obtain ⟨a, dx, nm, po, ho, st, dr, cu, rfl, _⟩ := h
    rfl
  · refine ⟨_, (pss_cons (ps_expr (pe_ccall rfl T.g_Vessel T.rd_Vessel T.ga_Vessel T.cm_Vessel___init__ (ok_Vessel___init__ T) (hr.mono (by decide)) T.F_Vessel___init__.kp T.b_Vessel___init__ (fun σ => passAt (takes_of rfl rfl rfl rfl) σ) (pa_cons (pv 0) (pa_cons (pv 1) (pa_cons (pv 2) (pa_cons (pv 3) (pa_cons (pv 4) (pa_cons (pv 5) pa_nil))))))))
        (pss_cons (ps_expr (pe_callS (ok_need_numbers T) (hr.mono (by decide)) (by rfl) T.g_need_numbers T.F_need_numbers.kp T.b_need_numbers (fun σ => passAt (takes_of rfl rfl rfl rfl) σ) (pa_cons (pe_lst (pa_cons (pe_tup (pa_cons (pv 6) (pa_cons pe_int (pa_cons (C8.pe_gc rfl T.c_MOST_ICE) pa_nil)))) pa_nil)) pa_nil)))
        (pss_one (ps_fldK (K := K) rfl (pv 0) (pv 6) rfl)))), ?_⟩
    obtain ⟨a, dx, nm, po, ho, st, dr, cu, rfl, hA, hT, q0, q1, q2⟩ := h
    walk_at "rd"
    refine ⟨1, a, dx, nm, po, ho, st, dr, rfl, hA, fun x hx => hT x (List.mem_append_left [cu] hx), fun hf v H1 hv k1 h1 => ?_, fun v hv d H1 s1 hd => q1 v (br_1 hv) d H1 (Same.keepB s1) hd, fun v hv d H1 s1 hd => q2 v (br_1 hv) d H1 (Same.keepB s1) hd⟩
    have tcu : ThingAt K H1 cu := (hT cu (by simp)).keepB hA k1
    walk_at "rd"
    refine rd_tupA (by simp) fun t1 H2 n2 s2 e2 => ?_
    walk_at "rd"
    refine rd_lstA (by simp) fun l H3 n3 s3 e3 => ?_
    have s13 := s2.trans s3
    refine ⟨l, [(t1, cu, 1, 1000000)], rfl, sqL_of e3, fun r hr => ?_, by simp, fun hf2 H4 s4 => ?_, fun r hv2 d H4 s4 hd => ?_⟩
    · rw [List.mem_singleton.mp hr]
      exact ⟨sqT_of (s3 _ _ e2), tcu.keep s13⟩
    · have hb : badN (cu, 1, 1000000) = false := by
        have := List.find?_eq_none.mp hf2 (cu, 1, 1000000) (by simp)
        simpa using this
      obtain ⟨ic, rfl⟩ := in_int hb
      have h14 := (s13.trans s4) _ _ h1
      walk_at "rd"
      refine rd_fldSet h14 T.cl_Breaker T.n_Breaker_cut (of_decide_eq_true (by kernel_rfl)) ?_
      walk_at "rd"
      simp only [List.cons.injEq, and_true] at hv
      obtain ⟨rfl, rfl, rfl, rfl, rfl⟩ := hv
      refine q0 (br_4 hf hb) { v with kind := 1, cut := ic } _ rfl rfl (k1.trans (Same.keepB (s13.trans s4))).put ⟨show 1 < 3 by decide, dx, ?_⟩
      rw [upd_same]
      exact congrArg (fun fs => some (HO.ins T.a_Breaker dx fs)) (br_put { v with kind := 1, cut := ic })
    · have e : r = (cu, 1, 1000000) ∧ badN (cu, 1, 1000000) = true := by
        have h1 := List.mem_of_find?_eq_some hv2
        have h2 := List.find?_some hv2
        have h3 := List.mem_singleton.mp h1
        rw [h3] at h2
        exact ⟨h3, h2⟩
      rw [e.1] at hd
      exact q2 cu (br_2 hf e.2) d H4 (k1.trans (Same.keepB (s13.trans s4))) hd
def sp_Breaker_thins (T : Tx K mg) : Sp := fun vs H Q _ => ∃ a v, vs = [.ref a] ∧ VeAt T H a v ∧ v.kind = 1 ∧ Q (.int v.cut) H
theorem ok_Breaker_thins (T : Tx K mg) : FnOk P w K mg base CX0 1 T.a_Breaker_thins T.d_Breaker_thins ["self"] (sp_Breaker_thins T) := by
  refine T.F_Breaker_thins.ok sc_Breaker_thins (fun vs H Q E h => ?_) (fun cdv A outer s H vs Q E hr h => ?_)
  · obtain ⟨a, v, rfl, _⟩ := h
    rfl
  · refine ⟨_, (pss_one (ps_ret (pe_fldK (K := K) rfl (pv 0)))), ?_⟩
    obtain ⟨a, v, rfl, ⟨_, dx, hA⟩, hk, q⟩ := h
    have hA' : H a = some (.ins T.a_Breaker dx (veF v)) := by
      rw [hk] at hA
      exact hA
    walk_at "rd"
    exact q
theorem sh_1 {nm po go ho st dr v : V} (h : [nm, po, go].find? (fun v => !nameV v) = some v) : shRef nm po go ho st dr = some (0, v) := by
  unfold shRef
  rw [h]
theorem sh_2 {nm po go ho st dr : V} (h : [nm, po, go].find? (fun v => !nameV v) = none) : shRef nm po go ho st dr = veRef nm po ho st dr := by
  unfold shRef
  rw [h]
theorem sh_put (v : Ve) : putF "goal" (.str v.goal) (veB v) = veB v ++ [(("goal" : Str), V.str v.goal)] := by kernel_rfl
def sp_Ship___init__ (T : Tx K mg) : Sp := fun vs H Q E => ∃ (a dx : Addr) (nm po go ho st dr : V), vs = [.ref a, nm, po, go, ho, st, dr] ∧ H a = some (.ins T.a_Ship dx []) ∧ (∀ x ∈ [nm, po, go, ho, st, dr], ThingAt K H x) ∧
  (shRef nm po go ho st dr = none → ∀ (v : Ve) H', v.kind = 2 → [nm, po, go, ho, st, dr] = veV v → KeepB a H H' → VeAt T H' a v → Q .non H') ∧
  (∀ v, shRef nm po go ho st dr = some (0, v) → ∀ d H', KeepB a H H' → H' d = some (.xd [("found", v)]) → E (.ref T.a_NoName) (some d) H') ∧
  (∀ v, shRef nm po go ho st dr = some (2, v) → ∀ d H', KeepB a H H' → H' d = some (.xd [("found", v)]) → E (.ref T.a_NoNumber) (some d) H')
theorem ok_Ship___init__ (T : Tx K mg) : FnOk P w K mg base (L2.CX P w) 5 T.a_Ship___init__ T.d_Ship___init__ ["self", "name", "port", "goal", "hour", "strength", "draught"] (sp_Ship___init__ T) := by
  refine T.F_Ship___init__.okX sc_Ship___init__ (fun vs H Q E h => ?_) (fun cdv A outer s H vs Q E hr h => ?_)
  · obtain ⟨a, dx, nm, po, go, ho, st, dr, rfl, _⟩ := h
    rfl
  · refine ⟨_, (pss_cons (ps_expr (pe_callS (ok_need_names T) (hr.mono (by decide)) (by rfl) T.g_need_names T.F_need_names.kp T.b_need_names (fun σ => passAt (takes_of rfl rfl rfl rfl) σ) (pa_cons (pe_lst (pa_cons (pv 1) (pa_cons (pv 2) (pa_cons (pv 3) pa_nil)))) pa_nil)))
        (pss_cons (ps_expr (pe_ccall rfl T.g_Vessel T.rd_Vessel T.ga_Vessel T.cm_Vessel___init__ (ok_Vessel___init__ T) (hr.mono (by decide)) T.F_Vessel___init__.kp T.b_Vessel___init__ (fun σ => passAt (takes_of rfl rfl rfl rfl) σ) (pa_cons (pv 0) (pa_cons (pv 1) (pa_cons (pv 2) (pa_cons (pv 4) (pa_cons (pv 5) (pa_cons (pv 6) pa_nil))))))))
        (pss_one (ps_fldK (K := K) rfl (pv 0) (pv 3) rfl)))), ?_⟩
    obtain ⟨a, dx, nm, po, go, ho, st, dr, rfl, hA, hT, q0, q1, q2⟩ := h
    walk_at "rd"
    refine rd_lstA (by simp) fun l H1 n1 s1 e1 => ?_
    refine ⟨l, [nm, po, go], rfl, sqL_of e1, fun x hx => (hT x (List.mem_append_left [ho, st, dr] hx)).keep s1, by simp, fun hf H2 s2 => ?_, fun v hv d H2 s2 hd => q1 v (sh_1 hv) d H2 (Same.keepB (s1.trans s2)) hd⟩
    have s02 := s1.trans s2
    have n0 := List.find?_eq_none.mp hf
    obtain ⟨zg, rfl⟩ := name_str (v := go) (by simpa using n0 go (by simp))
    walk_at "rd"
    refine ⟨2, a, dx, nm, po, ho, st, dr, rfl, s02 _ _ hA, fun x hx => (hT x ?_).keep s02, fun hf2 v H3 hv k3 h3 => ?_, fun v hv d H3 s3 hd => q1 v ((sh_2 hf).trans hv) d H3 (Same.keepB (s02.trans s3)) hd, fun v hv d H3 s3 hd => q2 v ((sh_2 hf).trans hv) d H3 (Same.keepB (s02.trans s3)) hd⟩
    · simp only [List.mem_cons, List.not_mem_nil, or_false] at hx
      rcases hx with h | h | h | h | h <;> simp [h]
    · walk_at "rd"
      refine rd_fldSet h3 T.cl_Ship T.n_Ship_goal (of_decide_eq_true (by kernel_rfl)) ?_
      walk_at "rd"
      simp only [List.cons.injEq, and_true] at hv
      obtain ⟨rfl, rfl, rfl, rfl, rfl⟩ := hv
      refine q0 ((sh_2 hf).trans hf2) { v with kind := 2, goal := zg } _ rfl rfl (KeepB.trans (Same.keepB s02) k3).put ⟨show 2 < 3 by decide, dx, ?_⟩
      rw [upd_same]
      exact congrArg (fun fs => some (HO.ins T.a_Ship dx fs)) (sh_put { v with kind := 2, goal := zg })

def sp_law_cell (K : PySem.W.Frag) : Sp := fun vs H Q _ => ∃ (l : Addr) (ns : List Int) (k : Nat), vs = [.ref l, .int (k : Int)] ∧ SqL K H l (ns.map V.int) ∧ ∀ z : Int, (z ∈ ns ∨ (0 ≤ z ∧ z ≤ 15485863 * (k : Int) + 29)) → Q (.int z) H
theorem ok_law_cell (T : Tx K mg) : FnOk P w K mg base CX0 1 T.a_law_cell T.d_law_cell ["_law_script", "_law_k"] (sp_law_cell K) := by
  refine T.F_law_cell.ok sc_law_cell (fun vs H Q E h => ?_) (fun cdv A outer s H vs Q E hr h => ?_)
  · obtain ⟨l, ns, k, rfl, _⟩ := h
    rfl
  · refine ⟨_, (pss_cons (ps_if (pt_cmpR op_lt (pv 1) (pe_callB (lenK (K := K) rfl) (by rfl) T.m_len (by decide +kernel) (pa_cons (pv 0) pa_nil)) (nomark _))
        (pss_one (ps_ret (pe_ix (ixK (K := K) rfl) (pv 0) (pv 1) (fun _ _ => rfl))))
        pss_nil)
        (pss_one (ps_ret (pe_op op_add (pe_op op_mul pe_int (pv 1)) pe_int)))), ?_⟩
    obtain ⟨l, ns, k, rfl, hS, q⟩ := h
    walk_at "rd"
    refine rd_iteD (fun hc => ?_) (fun hc => ?_)
    · rw [List.length_map] at hc
      have hk : k < ns.length := by omega
      walk_at "rd"
      refine rd_ixL hS (atI_nat (j := k) (v := .int ns[k]) ?_) ?_
      · rw [List.getElem?_map, List.getElem?_eq_getElem hk]
        rfl
      · exact q _ (.inl (List.getElem_mem hk))
    · walk_at "rd"
      walk_at "rd"
      exact q _ (.inr ⟨by omega, by omega⟩)
theorem rd_law_cell {Q : VK} {E : XK} {H : Hp} {l : Addr} {ns : List Int} {j : Int} (q : ∀ z : Int, Q (.int z) H) (hS : SqL K H l (ns.map V.int) := by walk_at "sl") (hj : 0 ≤ j := by omega) : sp_law_cell K [.ref l, .int j] H Q E := ⟨l, ns, j.toNat, by rw [Int.toNat_of_nonneg hj], hS, fun z _ => q z⟩
def sp_law_box (K : PySem.W.Frag) : Sp := fun vs H Q _ => ∃ z : Int, vs = [.int z] ∧ ∀ (p : Addr) (H' : Hp), H p = none → Same H H' → BoxAt H' p 0 → Q (.ref p) H'
theorem ok_law_box (T : Tx K mg) : FnOk P w K mg base CX0 1 T.a_law_box T.d_law_box ["_law_cell_here"] (sp_law_box K) := by
  refine T.F_law_box.ok sc_law_box (fun vs H Q E h => ?_) (fun cdv A outer s H vs Q E hr h => ?_)
  · obtain ⟨z, rfl, _⟩ := h
    rfl
  · refine ⟨_, (pss_one (ps_ret (pe_lst (pa_cons (pe_callB (max2 rfl) (by rfl) T.m_max (by decide +kernel) (pa_cons pe_int (pa_cons (pe_op op_sub (pv 0) (pe_op op_pow pe_int pe_int)) pa_nil))) (pa_cons (pe_op op_mod (pv 0) pe_int) (pa_cons pe_int pa_nil)))))), ?_⟩
    obtain ⟨z, rfl, q⟩ := h
    walk_at "rd"
    refine rd_max2 fun m hm => ?_
    walk_at "rd"
    refine rd_I (by decide) ?_
    walk_at "rd"
    refine rd_lstA (by simp) fun p H1 hp s1 e1 => ?_
    refine q p _ hp s1 ⟨_, _, _, e1, ?_, ?_, ?_, Int.le_refl _, Int.le_refl _⟩
    · omega
    · exact Int.emod_nonneg _ (by decide)
    · exact Int.emod_lt_of_pos _ (by decide)
theorem rd_law_box {Q : VK} {E : XK} {H : Hp} {z : Int} (q : ∀ (p : Addr) (H' : Hp), Nn H p → Same H H' → BoxAt H' p 0 → Q (.ref p) H') : sp_law_box K [.int z] H Q E := ⟨z, rfl, fun p H' n => q p H' ⟨n⟩⟩

theorem box_one (b c : Int) (h1 : 0 ≤ b) (h2 : b < 2147483629) (h3 : 0 ≤ c) (h4 : c ≤ 1000001) : (b + 7919 * c + 101).natAbs < 2 ^ 64 := by omega
theorem box_two (o c : Int) (h1 : 0 ≤ o) (h2 : o < 2147483647) (h3 : 0 ≤ c) (h4 : c ≤ 1000001) : (o / 8 + 104729 * c * c + 3).natAbs < 2 ^ 64 := by
  have h5 : 104729 * c * c ≤ 104729 * 1000001 * 1000001 := Int.mul_le_mul (by omega) h4 h3 (by decide)
  have h6 : 0 ≤ 104729 * c * c := Int.mul_nonneg (by omega) h3
  have h7 : (104729 : Int) * 1000001 * 1000001 = 104729209458104729 := by decide
  omega
theorem pow5 (x : Int) : CPow x 5 ↔ x.natAbs < 2 ^ 64 := ⟨fun h => h.2.2, fun h => ⟨by decide, by decide, h⟩⟩
theorem pow3 (x : Int) : CPow x 3 ↔ x.natAbs < 2 ^ 64 := ⟨fun h => h.2.2, fun h => ⟨by decide, by decide, h⟩⟩
def sp_law_take (K : PySem.W.Frag) : Sp := fun vs H Q _ => ∃ (p : Addr) (m : Int) (n : Nat), vs = [.ref p, .int m] ∧ BoxAt H p n ∧ 0 < m ∧ m < 2 ^ 200 ∧ n ≤ 1000000 ∧ ∀ (r : Int) (H' : Hp), 0 ≤ r → r < m → BoxAt H' p (n + 1) → KeepB p H H' → Q (.int r) H'
theorem rd_take {K : PySem.W.Frag} {H : Hp} {Q : VK} {E : XK} {p : Addr} {m : Int} {n : Nat} (hB : BoxAt H p n) (hm : 0 < m) (hm2 : m < 2 ^ 200) (hn : n ≤ 1000000) (q : ∀ (r : Int) (H' : Hp), 0 ≤ r → r < m → BoxAt H' p (n + 1) → KeepB p H H' → Q (.int r) H') :
    sp_law_take K [.ref p, .int m] H Q E := ⟨p, m, n, rfl, hB, hm, hm2, hn, q⟩
theorem rd_takeB {K : PySem.W.Frag} {Q : VK} {E : XK} {H : Hp} {p : Addr} {m : Int} {n : Nat} (q : ∀ (r : Int) (H' : Hp), 0 ≤ r → r < m → BoxAt H' p (n + 1) → KeepB p H H' → Q (.int r) H') (hB : BoxAt H p n := by walk_at "bx") (hm : 0 < m := by walk_at "ar") (hm2 : m ≤ 10000000000000000000000000000000000000000 := by walk_at "ar") (hn : n ≤ 1000000 := by omega) :
    sp_law_take K [.ref p, .int m] H Q E := rd_take hB hm (Int.lt_of_le_of_lt hm2 (by decide)) hn q
theorem ok_law_take (T : Tx K mg) : FnOk P w K mg base CX0 1 T.a_law_take T.d_law_take ["_law_box_here", "_law_many"] (sp_law_take K) := by
  refine T.F_law_take.ok sc_law_take (fun vs H Q E h => ?_) (fun cdv A outer s H vs Q E hr h => ?_)
  · obtain ⟨p, m, n, rfl, _⟩ := h
    rfl
  · refine ⟨_, (pss_cons (ps_if (pt_cmpR op_gt (pe_ix (ixK (K := K) rfl) (pv 0) pe_int (fun _ _ => rfl)) pe_int (nomark _))
        (pss_cons (ps_set (i := 2) sc_law_take.nd rfl (Or.inl rfl) (pe_op op_mod (pe_ix (ixK (K := K) rfl) (pv 0) pe_int (fun _ _ => rfl)) (pv 1)))
        (pss_cons (ps_asg (pe_op op_fdivW (pe_ix (ixK (K := K) rfl) (pv 0) pe_int (fun _ _ => rfl)) (pv 1)) (pg_sub (pv 0) pe_int set_list))
        (pss_one (ps_ret (pv 2)))))
        pss_nil)
        (pss_cons (ps_asg (pe_op op_add (pe_ix (ixK (K := K) rfl) (pv 0) pe_int (fun _ _ => rfl)) pe_int) (pg_sub (pv 0) pe_int set_list))
        (pss_cons (ps_set (i := 3) sc_law_take.nd rfl (Or.inl rfl) (pe_op op_mod (pe_op op_pow (pe_op op_add (pe_op op_add (pe_ix (ixK (K := K) rfl) (pv 0) pe_int (fun _ _ => rfl)) (pe_op op_mul pe_int (pe_ix (ixK (K := K) rfl) (pv 0) pe_int (fun _ _ => rfl)))) pe_int) pe_int) pe_int))
        (pss_cons (ps_set (i := 4) sc_law_take.nd rfl (Or.inl rfl) (pe_op op_mod (pe_op op_pow (pe_op op_add (pe_op op_add (pe_op op_fdivW (pv 3) pe_int) (pe_op op_mul (pe_op op_mul pe_int (pe_ix (ixK (K := K) rfl) (pv 0) pe_int (fun _ _ => rfl))) (pe_ix (ixK (K := K) rfl) (pv 0) pe_int (fun _ _ => rfl)))) pe_int) pe_int) pe_int))
        (pss_one (ps_ret (pe_op op_mod (pe_op op_add (pe_op op_fdivW (pv 3) pe_int) (pe_op op_mul pe_int (pe_op op_fdivW (pv 4) pe_int))) (pv 1)))))))), ?_⟩
    obtain ⟨p, m, n, rfl, ⟨a, b, c, hp, ha, hb, hb2, hc, hc2⟩, hm, hm2, hn, q⟩ := h
    walk_at "rd"
    refine rd_iteD (fun h0 => ?_) (fun h0 => ?_)
    · walk_at "rd"
      refine rd_I hm ?_
      walk_at "rd"
      refine rd_I ⟨hm, log2_small hm hm2⟩ ?_
      walk_at "rd"
      refine rd_setL hp (j := 0) rfl ?_
      walk_at "rd"
      refine q _ _ (Int.emod_nonneg _ (by omega)) (Int.emod_lt_of_pos _ hm) ⟨_, _, _, upd_same, Int.ediv_nonneg ha (by omega), hb, hb2, hc, by omega⟩ keepB_upd
    · walk_at "rd"
      refine rd_setL hp (j := 2) rfl ?_
      have hp2 : (upd H p (.lst ([V.int a, .int b, .int c].set 2 (.int (c + 1))))) p = some (.lst [V.int a, .int b, .int (c + 1)]) := upd_same
      have hk : KeepB p H (upd H p (.lst ([V.int a, .int b, .int c].set 2 (.int (c + 1))))) := keepB_upd
      generalize (upd H p (.lst ([V.int a, .int b, .int c].set 2 (.int (c + 1))))) = H2 at hp2 hk
      walk_at "rd"
      refine rd_I ((pow5 _).mpr (box_one _ _ hb hb2 (by omega) (by omega))) ?_
      walk_at "rd"
      refine rd_modA (by decide) fun one h1 h2 => ?_
      walk_at "rd"
      refine rd_I (.inr ⟨by omega, by omega⟩) ?_
      walk_at "rd"
      refine rd_I ((pow3 _).mpr (box_two _ _ h1 h2 (by omega) (by omega))) ?_
      walk_at "rd"
      refine rd_modA (by decide) fun other h3 h4 => ?_
      walk_at "rd"
      refine rd_modA hm fun r h5 h6 => ?_
      walk_at "rd"
      exact q r H2 h5 h6 ⟨_, _, _, hp2, ha, hb, hb2, by omega, by omega⟩ hk
def sp_law_names (K : PySem.W.Frag) : Sp := fun vs H Q _ => ∃ (p : Addr) (n m : Nat), vs = [.ref p, .int (m : Int)] ∧ BoxAt H p n ∧ n ≤ 10000 ∧ m ≤ 26 ∧
  ∀ (l : Addr) (ys : List Str) H', BoxAt H' p (n + 20) → KeepB p H H' → H' l = some (.lst (ys.map V.str)) → ys.length = m → (∀ y ∈ ys, nameS y = true) → ys.Nodup → Q (.ref l) H'
theorem ok_law_names (T : Tx K mg) : FnOk P w K mg base CX0 2 T.a_law_names T.d_law_names ["_law_box_here", "_law_many"] (sp_law_names K) := by
  refine T.F_law_names.ok sc_law_names (fun vs H Q E h => ?_) (fun cdv A outer s H vs Q E hr h => ?_)
  · obtain ⟨p, n, m, rfl, _⟩ := h
    rfl
  · refine ⟨_, (pss_cons (ps_set (i := 2) sc_law_names.nd rfl (Or.inr rfl) pe_str)
        (pss_cons (ps_set (i := 3) sc_law_names.nd rfl (Or.inl rfl) (pe_call (ok_law_take T) (hr.mono (by decide)) (by rfl) T.g_law_take T.F_law_take.kp T.b_law_take .nil pass0 (pa_cons (pv 0) (pa_cons pe_int pa_nil))))
        (pss_cons (ps_set (i := 4) sc_law_names.nd rfl (Or.inr rfl) (pe_call (ok_law_take T) (hr.mono (by decide)) (by rfl) T.g_law_take T.F_law_take.kp T.b_law_take .nil pass0 (pa_cons (pv 0) (pa_cons pe_int pa_nil))))
        (pss_cons (ps_set (i := 5) sc_law_names.nd rfl (Or.inr rfl) (pe_ix (ixLK (K := K) rfl) (pe_lst (pa_cons pe_int (pa_cons pe_int (pa_cons pe_int (pa_cons pe_int (pa_cons pe_int (pa_cons pe_int pa_nil))))))) (pe_call (ok_law_take T) (hr.mono (by decide)) (by rfl) T.g_law_take T.F_law_take.kp T.b_law_take .nil pass0 (pa_cons (pv 0) (pa_cons pe_int pa_nil))) (fun _ _ => rfl)))
        (pss_cons (ps_set (i := 6) sc_law_names.nd rfl (Or.inr rfl) (pe_call (ok_law_take T) (hr.mono (by decide)) (by rfl) T.g_law_take T.F_law_take.kp T.b_law_take .nil pass0 (pa_cons (pv 0) (pa_cons pe_int pa_nil))))
        (pss_cons (ps_set (i := 7) sc_law_names.nd rfl (Or.inr rfl) (pe_op op_add (pv 6) (pe_call (ok_law_take T) (hr.mono (by decide)) (by rfl) T.g_law_take T.F_law_take.kp T.b_law_take .nil pass0 (pa_cons (pv 0) (pa_cons (pe_op op_sub pe_int (pv 6)) pa_nil)))))
        (pss_cons (ps_set (i := 8) sc_law_names.nd rfl (Or.inr rfl) (pe_joinK (K := K) rfl pe_str (pe_lc (own := [("_law_k", 9)]) (g := gName 9) (tt := tYes) rfl sc_law_names.nd (pi_range1 (by rfl) T.m_range (pa_cons pe_int pa_nil)) (blkOk_by (own := [("_law_k", 9)]) (N := N_law_names) (sc := defScope s_law_names) (by decide +kernel)) (fun _ _ _ _ _ => (pg_name (i := 9) sc_law_names.nd rfl (Or.inl rfl))) (fun _ _ _ _ _ => pts_nil) (fun _ _ _ _ _ => (pe_frm (pe_ix ix_str (pv 2) (pe_call (ok_law_take T) (hr.mono (by decide)) (by rfl) T.g_law_take T.F_law_take.kp T.b_law_take .nil pass0 (pa_cons (pv 0) (pa_cons pe_int pa_nil))) (fun _ _ => rfl)))))))
        (C8.pss_cut (ps_if (PW.pt (pw_and (pt_cmpR op_eq (pv 3) pe_int (nomark _)) (pw_and1 (pt_cmpR op_lt (pv 1) pe_int (nomark _)))))
        (pss_one (ps_ret (pe_lc (own := [("_law_k", 9)]) (g := gName 9) (tt := tYes) rfl sc_law_names.nd (pi_range1 (by rfl) T.m_range (pa_cons (pv 1) pa_nil)) (blkOk_by (own := [("_law_k", 9)]) (N := N_law_names) (sc := defScope s_law_names) (by decide +kernel)) (fun _ _ _ _ _ => (pg_name (i := 9) sc_law_names.nd rfl (Or.inl rfl))) (fun _ _ _ _ _ => pts_nil) (fun _ _ _ _ _ => (pe_frm (pe_slice sl_str (pe_op addS (pe_ix ix_str (pv 2) (pv 4) (fun _ _ => rfl)) (pv 8)) po_none (po_some (pe_op op_add pe_int (pe_op op_mod (pe_op op_add (pv 4) (pe_op op_mul pe_int (pv 9))) pe_int)))))))))
        pss_nil)
        (pss_one (ps_ret (pe_lc (own := [("_law_k", 9)]) (g := gName 9) (tt := tYes) rfl sc_law_names.nd (pi_range1 (by rfl) T.m_range (pa_cons (pv 1) pa_nil)) (blkOk_by (own := [("_law_k", 9)]) (N := N_law_names) (sc := defScope s_law_names) (by decide +kernel)) (fun _ _ _ _ _ => (pg_name (i := 9) sc_law_names.nd rfl (Or.inl rfl))) (fun _ _ _ _ _ => pts_nil) (fun _ _ _ _ _ => (pe_frm (pe_op addS (pe_op addS (pe_slice sl_str (pv 8) po_none (po_some (pv 6))) (pe_ix ix_str (pv 2) (pe_op op_mod (pe_op op_add (pv 4) (pe_op op_mul (pv 5) (pv 9))) pe_int) (fun _ _ => rfl))) (pe_slice sl_str (pv 8) (po_some (pv 6)) (po_some (pv 7))))))))))))))))), ?_⟩
    obtain ⟨p, n, m, rfl, hB, hn, hm, q⟩ := h
    walk_at "rd"
    refine rd_take hB (by decide) (by decide) (by omega) fun way H1 w0 w1 hB1 k1 => ?_
    walk_at "rd"
    refine rd_take hB1 (by decide) (by decide) (by omega) fun first H2 f0 f1 hB2 k2 => ?_
    walk_at "rd"
    refine rd_lstA (by simp) fun l2 H3 nl s3 el => ?_
    walk_at "rd"
    refine rd_take (hB2.keep s3) (by decide) (by decide) (by omega) fun r3 H4 r30 r31 hB4 k4 => ?_
    refine rd_ixAny1 (sqL_of (k4 _ _ el (hB2.ne nl))) r30 (by simpa using r31) fun v hv => ?_
    obtain ⟨step, rfl, hst⟩ : ∃ step : Int, v = .int step ∧ (step = 1 ∨ step = 3 ∨ step = 5 ∨ step = 7 ∨ step = 9 ∨ step = 11) := by
      simp only [List.mem_cons, List.not_mem_nil, or_false] at hv
      rcases hv with rfl | rfl | rfl | rfl | rfl | rfl <;> exact ⟨_, rfl, by omega⟩
    have k04 : KeepB p H H4 := ((k1.trans k2).trans (Same.keepB s3)).trans k4
    walk_at "rd"
    refine rd_take hB4 (by decide) (by decide) (by omega) fun at_ H5 a0 a1 hB5 k5 => ?_
    walk_at "rd"
    refine rd_take hB5 (by omega) (by omega) (by omega) fun r6 H6 r60 r61 hB6 k6 => ?_
    walk_at "rd"
    refine rd_r1 (by omega) (by omega) ?_
    have k06 : KeepB p H H6 := (k04.trans k5).trans k6
    refine lcgoF walk_range (by omega) (fun i x => True) (fun i H x H' _ _ y => ⟨y.1, trivial⟩) (fun _ => rfl) (fun i acc H' => BoxAt H' p (n + 5 + i) ∧ KeepB p H6 H' ∧ ∃ cs : List Nat, acc = (cs.map sg).map V.str ∧ ∀ c ∈ cs, isLet c = true) ⟨hB6, KeepB.refl p H6, [], rfl, fun _ h => nomatch h⟩ (fun _ _ _ _ _ _ _ => trivial) ?_ ?_
    · rintro i x acc Ha Qc hi hla ⟨hBa, ka, cs, rfl, hcs⟩ - hq
      walk_at "rd"
      refine rd_take hBa (by decide) (by decide) (by omega) fun r Hc r0 r1 hBc kc => ?_
      refine rd_ixSany (by decide +kernel) r0 (by rw [lett_len]; exact r1) fun c hc => ?_
      refine hq _ _ ⟨hBc, ka.trans kc, cs ++ [c], by rw [List.map_append, List.map_append]; rfl, fun y hy => ?_⟩
      rcases List.mem_append.mp hy with hy | hy
      · exact hcs y hy
      · rw [List.mem_singleton.mp hy, ← isLet_in]
        exact decide_eq_true hc
    rintro acc H7' D hla ⟨hB7, k7, cs, rfl, hcs⟩ hD
    have hB7 := hB7.new (o := .lst ((cs.map sg).map V.str)) (hB7.ne hD).symm
    have k7 : KeepB p H6 (upd H7' D (.lst ((cs.map sg).map V.str))) := k7.trans (Same.keepB (same_new hD))
    have hD7 : (upd H7' D (.lst ((cs.map sg).map V.str))) D = some (.lst ((cs.map sg).map V.str)) := upd_same
    generalize upd H7' D (.lst ((cs.map sg).map V.str)) = H7 at hB7 k7 hD7
    rw [List.length_map, List.length_map] at hla
    refine rd_join1 (sqL_of hD7) (fun y hy => ?_) (by rw [List.length_map]; omega) fun z hz hz2 => ?_
    · obtain ⟨c, _, rfl⟩ := List.mem_map.mp hy
      rfl
    have hzl : z.cps.toList = cs := by rw [hz, join_sg]
    have hzn : z.length = 7 := by rw [len_list, hzl, hla]; rfl
    walk_at "rd"
    have k07 := k06.trans k7
    have bn : n + 5 + (7 : Int).toNat ≤ n + 20 := by show n + 5 + 7 ≤ n + 20; omega
    obtain ⟨fn, rfl⟩ : ∃ fn : Nat, first = (fn : Int) := ⟨first.toNat, by omega⟩
    obtain ⟨an, rfl⟩ : ∃ an : Nat, at_ = (an : Int) := ⟨at_.toNat, by omega⟩
    obtain ⟨sn, hsn⟩ : ∃ sn : Nat, step = (sn : Int) := ⟨step.toNat, by omega⟩
    subst hsn
    obtain ⟨rn, rfl⟩ : ∃ rn : Nat, r6 = (rn : Int) := ⟨r6.toNat, by omega⟩
    refine ⟨fun σ' H' => σ' = [some (.ref p), some (.int m), some (.str (Str.ofString "abcdefghijklmnopqrstuvwxyz")), some (.int way), some (.int fn), some (.int sn), some (.int an), some (.int (an + rn)), some (.str z), none] ∧ H' = H7, ?_, ?_⟩
    · walk_at "rd"
      refine rd_iteD (fun h1 => ?_) (fun h1 => ?_)
      · walk_at "rd"
        refine rd_iteD (fun h2 => ?_) (fun h2 => ?_)
        · walk_at "rd"
          refine rd_r1 (by omega) (by omega) ?_
          have hfl : fn < 26 := by omega
          have c0 := lett_at hfl
          let f : Nat → Str := fun i => cutS (sg (97 + fn) ++ z) none (some (((1 + (fn + 3 * i) % 8 : Nat)) : Int))
          have fl : ∀ i, (f i).cps.toList = ((97 + fn) :: cs).take (1 + (fn + 3 * i) % 8) := fun i => by
            show (cutS (sg (97 + fn) ++ z) none (some (((1 + (fn + 3 * i) % 8 : Nat)) : Int))).cps.toList = _
            rw [cut_to, toList_app, hzl]
            rfl
          have fn' : ∀ i, (f i).cps.toList.length = 1 + (fn + 3 * i) % 8 := fun i => by
            rw [fl, List.length_take, List.length_cons, hla]
            show min (1 + (fn + 3 * i) % 8) (7 + 1) = _
            omega
          refine lcgo_rng (f := fun i => .str (f i)) (by omega) (fun _ => rfl) (fun i H' Q' hi q' => ?_) (fun D hD => ?_)
          · walk_at "rd"
            refine rd_ixS1 (by decide +kernel) c0 ?_
            walk_at "rd"
            refine rd_addS (a := sg (97 + fn)) (b := z) (by show 1 + z.length ≤ 100000; omega) ?_
            walk_at "rd"
            refine rd_I (show (0 : Int) < 8 by decide) ?_
            walk_at "rd"
            have e : (1 : Int) + ((fn : Int) + 3 * (i : Int)) % 8 = ((1 + (fn + 3 * i) % 8 : Nat) : Int) := by omega
            rw [e]
            refine rd_slS (small_sz (by rw [PySem.Str.length_append]; show 1 + z.length ≤ 100000; omega)) ?_
            exact q'
          · refine q D ((List.range m).map f) _ ((hB7.mono bn).new (hB7.ne hD).symm) (k07.trans (Same.keepB (same_new hD))) ?_ (by rw [List.length_map, List.length_range]) (fun y hy => ?_) (nodup_map fun i j hi hj hij e => ?_)
            · rw [upd_same, List.map_map, Int.toNat_natCast]
              rfl
            · obtain ⟨i, hi, rfl⟩ := List.mem_map.mp hy
              have := fn' i
              refine name_of (by omega) (by omega) fun c hc => ?_
              rw [fl] at hc
              rcases List.mem_cons.mp (List.mem_of_mem_take hc) with rfl | hc
              · exact isLet_at _ hfl
              · exact hcs c hc
            · have e1 := fn' i
              have e2 := fn' j
              rw [e] at e1
              omega
        · walk_at "rd"
          exact ⟨rfl, rfl⟩
      · walk_at "rd"
        exact ⟨rfl, rfl⟩
    · rintro σ' H' ⟨rfl, rfl⟩
      walk_at "rd"
      refine rd_r1 (by omega) (by omega) ?_
      let f : Nat → Str := fun i => (cutS z none (some (an : Int)) ++ sg (97 + (fn + sn * i) % 26)) ++ cutS z (some (an : Int)) (some ((an + rn : Nat) : Int))
      have fl : ∀ i, (f i).cps.toList = (cs.take an ++ [97 + (fn + sn * i) % 26]) ++ (cs.take (an + rn)).drop an := fun i => by
        show ((cutS z none (some (an : Int)) ++ sg (97 + (fn + sn * i) % 26)) ++ cutS z (some (an : Int)) (some ((an + rn : Nat) : Int))).cps.toList = _
        rw [toList_app, toList_app, cut_to, cut_ft, hzl]
        rfl
      have hla' : cs.length = 7 := hla
      have fn' : ∀ i, (f i).cps.toList.length = an + 1 + rn := fun i => by
        rw [fl, List.length_append, List.length_append, List.length_drop, List.length_take, List.length_take, hla']
        show min an 7 + 1 + (min (an + rn) 7 - an) = _
        omega
      refine lcgo_rng (f := fun i => .str (f i)) (by omega) (fun _ => rfl) (fun i H' Q' hi q' => ?_) (fun D hD => ?_)
      · walk_at "rd"
        refine rd_I (.inr ⟨by omega, by omega⟩) ?_
        walk_at "rd"
        refine rd_I (show (0 : Int) < 26 by decide) ?_
        have e : ((fn : Int) + (sn : Int) * (i : Int)) % 26 = (((fn + sn * i) % 26 : Nat) : Int) := by
          rw [Int.natCast_emod, Int.natCast_add, Int.natCast_mul]
          rfl
        rw [e]
        refine rd_ixS1 (by decide +kernel) (lett_at (Nat.mod_lt _ (by decide))) ?_
        have l1 := cutS_length z none (some (an : Int))
        have l2 := cutS_length z (some (an : Int)) (some ((an : Int) + (rn : Int)))
        refine rd_addS (a := cutS z none (some (an : Int))) (b := sg (97 + (fn + sn * i) % 26)) (by show (cutS z none (some (an : Int))).length + 1 ≤ 100000; omega) ?_
        walk_at "rd"
        refine rd_addS (a := cutS z none (some (an : Int)) ++ sg (97 + (fn + sn * i) % 26)) (by rw [PySem.Str.length_append]; show (cutS z none (some (an : Int))).length + 1 + (cutS z (some (an : Int)) (some ((an : Int) + (rn : Int)))).length ≤ 100000; omega) ?_
        exact q'
      · refine q D ((List.range m).map f) _ ((hB7.mono bn).new (hB7.ne hD).symm) (k07.trans (Same.keepB (same_new hD))) ?_ (by rw [List.length_map, List.length_range]) (fun y hy => ?_) (nodup_map fun i j hi hj hij e => ?_)
        · rw [upd_same, List.map_map, Int.toNat_natCast]
          rfl
        · obtain ⟨i, hi, rfl⟩ := List.mem_map.mp hy
          have := fn' i
          refine name_of (by omega) (by omega) fun c hc => ?_
          rw [fl] at hc
          rcases List.mem_append.mp hc with hc | hc
          · rcases List.mem_append.mp hc with hc | hc
            · exact hcs c (List.mem_of_mem_take hc)
            · rw [List.mem_singleton.mp hc]
              exact isLet_at _ (Nat.mod_lt _ (by decide))
          · exact hcs c (List.mem_of_mem_take (List.mem_of_mem_drop hc))
        · have e1 := fl i
          have e2 := fl j
          rw [e, e2, List.append_cancel_right_eq, List.append_cancel_left_eq] at e1
          have e3 : (fn + sn * j) % 26 = (fn + sn * i) % 26 := by
            have := List.head_eq_of_cons_eq e1
            omega
          have hst' : sn = 1 ∨ sn = 3 ∨ sn = 5 ∨ sn = 7 ∨ sn = 9 ∨ sn = 11 := by omega
          rcases hst' with rfl | rfl | rfl | rfl | rfl | rfl <;> omega
theorem names_ne {H : Hp} {l p : Addr} {n : Nat} {ys : List Str} (hB : BoxAt H p n) (hl : H l = some (.lst (ys.map V.str))) (h1 : 1 ≤ ys.length) : l ≠ p := fun e => by
  obtain ⟨b1, b2, b3, hp, _⟩ := hB
  rw [e, hp] at hl
  match ys, hl, h1 with
  | y :: r, hl, _ =>
    rw [List.map_cons] at hl
    cases hl
theorem rd_law_names {Q : VK} {E : XK} {H : Hp} {p : Addr} {n : Nat} {j : Int} (q : ∀ (l : Addr) (ys : List Str) (H' : Hp), BoxAt H' p (n + 20) → KeepB p H H' → H' l = some (.lst (ys.map V.str)) → l ≠ p → ys.length = j.toNat → (∀ y ∈ ys, nameS y = true) → ys.Nodup → Q (.ref l) H') (hB : BoxAt H p n := by walk_at "bx") (hn : n ≤ 10000 := by omega) (h1 : 1 ≤ j := by omega) (hm : j ≤ 26 := by omega) :
    sp_law_names K [.ref p, .int j] H Q E := ⟨p, n, j.toNat, by rw [Int.toNat_of_nonneg (by omega)], hB, hn, by omega, fun l ys H' b k e hl => q l ys H' b k e (names_ne b e (by omega)) hl⟩

def sp_law_number (K : PySem.W.Frag) : Sp := fun vs H Q _ => ∃ (p : Addr) (n : Nat) (lo hi : Int), vs = [.ref p, .int lo, .int hi] ∧ BoxAt H p n ∧ n ≤ 1000 ∧ 0 ≤ lo ∧ lo ≤ hi ∧ hi ≤ 1000000000000000000 ∧
  ∀ r H', lo ≤ r → r ≤ hi → BoxAt H' p (n + 2) → KeepB p H H' → Q (.int r) H'
theorem ok_law_number (T : Tx K mg) : FnOk P w K mg base CX0 2 T.a_law_number T.d_law_number ["_law_box_here", "_law_low", "_law_high"] (sp_law_number K) := by
  refine T.F_law_number.ok sc_law_number (fun vs H Q E h => ?_) (fun cdv A outer s H vs Q E hr h => ?_)
  · obtain ⟨p, n, lo, hi, rfl, _⟩ := h
    rfl
  · refine ⟨_, (pss_cons (ps_set (i := 3) sc_law_number.nd rfl (Or.inl rfl) (pe_call (ok_law_take T) (hr.mono (by decide)) (by rfl) T.g_law_take T.F_law_take.kp T.b_law_take .nil pass0 (pa_cons (pv 0) (pa_cons pe_int pa_nil))))
        (pss_cons (ps_if (pt_cmpR op_lt (pv 3) pe_int (nomark _))
        (pss_one (ps_ret (pe_ix (ixLK (K := K) rfl) (pe_lst (pa_cons (pv 1) (pa_cons (pv 2) pa_nil))) (pv 3) (fun _ _ => rfl))))
        pss_nil)
        (pss_one (ps_ret (pe_op op_add (pv 1) (pe_call (ok_law_take T) (hr.mono (by decide)) (by rfl) T.g_law_take T.F_law_take.kp T.b_law_take .nil pass0 (pa_cons (pv 0) (pa_cons (pe_ix (ixLK (K := K) rfl) (pe_lst (pa_cons (pe_callB (min2 rfl) (by rfl) T.m_min (by decide +kernel) (pa_cons pe_int (pa_cons (pe_op op_add (pe_op op_sub (pv 2) (pv 1)) pe_int) pa_nil))) (pa_cons (pe_op op_add (pe_op op_sub (pv 2) (pv 1)) pe_int) pa_nil))) (pe_op op_mod (pv 3) pe_int) (fun _ _ => rfl)) pa_nil)))))))), ?_⟩
    obtain ⟨p, n, lo, hi, rfl, hB, hn, h0, h1, h2, q⟩ := h
    walk_at "rd"
    refine rd_take hB (by decide) (by decide) (by omega) fun way H1 w0 w1 hB1 k1 => ?_
    walk_at "rd"
    refine rd_iteD (fun hw => ?_) (fun hw => ?_)
    · walk_at "rd"
      refine rd_lstA (by simp) fun l H2 nl s2 el => ?_
      walk_at "rd"
      refine rd_ixAny1 (sqL_of el) w0 (by simpa using hw) fun v hv => ?_
      obtain ⟨r, rfl, r0, r1⟩ : ∃ r : Int, v = .int r ∧ lo ≤ r ∧ r ≤ hi := by
        simp only [List.mem_cons, List.not_mem_nil, or_false] at hv
        rcases hv with rfl | rfl <;> exact ⟨_, rfl, by omega, by omega⟩
      exact q r _ r0 r1 ((hB1.keep s2).mono (by omega)) (k1.trans (Same.keepB s2))
    · walk_at "rd"
      refine rd_min2 fun m hm => ?_
      walk_at "rd"
      refine rd_lstA (by simp) fun l H2 nl s2 el => ?_
      walk_at "rd"
      refine rd_modA (by decide) fun r3 r30 r31 => ?_
      walk_at "rd"
      refine rd_ixAny1 (sqL_of el) r30 (by simpa using r31) fun v hv => ?_
      obtain ⟨r, rfl, r0, r1⟩ : ∃ r : Int, v = .int r ∧ 1 ≤ r ∧ r ≤ hi - lo + 1 := by
        simp only [List.mem_cons, List.not_mem_nil, or_false] at hv
        rcases hv with rfl | rfl <;> exact ⟨_, rfl, by omega, by omega⟩
      walk_at "rd"
      refine rd_take (hB1.keep s2) (by omega) (by omega) (by omega) fun x H3 x0 x1 hB3 k3 => ?_
      walk_at "rd"
      exact q _ _ (by omega) (by omega) (hB3.mono (by omega)) ((k1.trans (Same.keepB s2)).trans k3)
theorem rd_number {K : PySem.W.Frag} {Q : VK} {E : XK} {H : Hp} {p : Addr} {n : Nat} {lo hi : Int} (q : ∀ r H', lo ≤ r → r ≤ hi → BoxAt H' p (n + 2) → KeepB p H H' → Q (.int r) H') (hB : BoxAt H p n := by walk_at "bx") (hn : n ≤ 1000 := by omega) (h0 : 0 ≤ lo := by walk_at "ar") (h1 : lo ≤ hi := by walk_at "ar") (h2 : hi ≤ 1000000000000000000 := by walk_at "ar") :
    sp_law_number K [.ref p, .int lo, .int hi] H Q E := ⟨p, n, lo, hi, rfl, hB, hn, h0, h1, h2, q⟩

def sp_law_odd (K : PySem.W.Frag) : Sp := fun vs H Q _ => ∃ (p : Addr) (n : Nat), vs = [.ref p] ∧ BoxAt H p n ∧ n ≤ 10000 ∧ ∀ x H', BoxAt H' p (n + 1) → KeepB p H H' → IsT H' x → Q x H'
theorem ok_law_odd (T : Tx K mg) : FnOk P w K mg base CX0 2 T.a_law_odd T.d_law_odd ["_law_box_here"] (sp_law_odd K) := by
  refine T.F_law_odd.ok sc_law_odd (fun vs H Q E h => ?_) (fun cdv A outer s H vs Q E hr h => ?_)
  · obtain ⟨p, n, rfl, _⟩ := h
    rfl
  · refine ⟨_, (pss_cons (ps_set (i := 1) sc_law_odd.nd rfl (Or.inl rfl) (pe_lst (pa_cons pe_non (pa_cons pe_bl (pa_cons pe_bl (pa_cons (pe_un un_neg pe_int) (pa_cons (pe_op op_pow pe_int pe_int) (pa_cons pe_str (pa_cons pe_str (pa_cons pe_str (pa_cons pe_str (pa_cons pe_str (pa_cons (pe_lst pa_nil) (pa_cons (pe_tup pa_nil) pa_nil))))))))))))))
        (pss_one (ps_ret (pe_ix (ixLK (K := K) rfl) (pe_op op_cat (pv 1) (pe_lst (pa_cons (pe_lst (pa_cons pe_str pa_nil)) (pa_cons pe_dnewK (pa_cons pe_int (pa_cons pe_int (pa_cons pe_int (pa_cons pe_str pa_nil)))))))) (pe_call (ok_law_take T) (hr.mono (by decide)) (by rfl) T.g_law_take T.F_law_take.kp T.b_law_take .nil pass0 (pa_cons (pv 0) (pa_cons pe_int pa_nil))) (fun _ _ => rfl))))), ?_⟩
    obtain ⟨p, n, rfl, hB, hn, q⟩ := h
    walk_at "rd"
    refine rd_lstB fun l1 H1 n_l1 s_H1 e_l1 => ?_ <;> walk_at "rd"
    refine rd_tupB fun t2 H2 n_t2 s_H2 e_t2 => ?_ <;> walk_at "rd"
    refine rd_lstB fun l3 H3 n_l3 s_H3 e_l3 => ?_ <;> walk_at "rd"
    refine rd_lstB fun l4 H4 n_l4 s_H4 e_l4 => ?_ <;> walk_at "rd"
    refine rd_dnewB fun d5 H5 n_d5 s_H5 e_d5 => ?_ <;> walk_at "rd"
    refine rd_lstB fun l6 H6 n_l6 s_H6 e_l6 => ?_ <;> walk_at "rd"
    refine rd_catB fun l7 H7 n_l7 s_H7 e_l7 => ?_ <;> walk_at "rd"
    refine rd_takeB fun r H8 r_0 r_1 b_H8 k_H8 => ?_ <;> walk_at "rd"
    refine rd_ixAny1 (xs := _ ++ _) (by walk_at "sl") r_0 (by simpa using r_1) fun v hv => ?_
    have f1 : H8 l1 = some (.lst []) := by walk_at "hp"
    have f2 : H8 t2 = some (.tup []) := by walk_at "hp"
    have f4 : H8 l4 = some (.lst [.str (Str.ofString "a")]) := by walk_at "hp"
    have f5 : H8 d5 = some (.dK []) := by walk_at "hp"
    refine q v H8 (by walk_at "bx") (by walk_at "kb") ?_
    have st : ∀ z : Str, PyData.strOk z = true → z.length ≤ 199 → IsT H8 (.str z) := fun z a b => ⟨_, rfl, a, b⟩
    simp only [List.cons_append, List.nil_append, List.mem_cons, List.not_mem_nil, or_false] at hv
    rcases hv with rfl | rfl | rfl | rfl | rfl | rfl | rfl | rfl | rfl | rfl | rfl | rfl | rfl | rfl | rfl | rfl | rfl | rfl
    · exact ⟨_, rfl⟩
    · exact ⟨_, rfl⟩
    · exact ⟨_, rfl⟩
    · exact IsT.int (by decide +kernel)
    · exact IsT.int (by decide +kernel)
    · exact st _ (by decide +kernel) (by decide +kernel)
    · exact st _ (by decide +kernel) (by decide +kernel)
    · exact st _ (by decide +kernel) (by decide +kernel)
    · exact st _ (by decide +kernel) (by decide +kernel)
    · exact st _ (by decide +kernel) (by decide +kernel)
    · exact ⟨_, .inl ⟨[], f1, rfl, by decide, fun _ h => nomatch h⟩⟩
    · exact ⟨_, .inr (.inl ⟨[], f2, rfl, by decide, fun _ h => nomatch h⟩)⟩
    · exact ⟨_, .inl ⟨[Str.ofString "a"], f4, rfl, by decide, fun s h => by rw [List.mem_singleton.mp h]; exact ⟨by decide +kernel, by decide +kernel⟩⟩⟩
    · exact ⟨_, .inr (.inr ⟨f5, rfl⟩)⟩
    · exact IsT.int (by decide +kernel)
    · exact IsT.int (by decide +kernel)
    · exact IsT.int (by decide +kernel)
    · exact st _ (by decide +kernel) (by decide +kernel)

def sp_law_vessel_row (K : PySem.W.Frag) : Sp := fun vs H Q _ => ∃ (p l : Addr) (n k : Nat) (nm : Str) (ys : List Str), vs = [.ref p, .str (veKind k), .str nm, .ref l] ∧ k < 3 ∧ BoxAt H p n ∧ n ≤ 900 ∧ l ≠ p ∧ H l = some (.lst (ys.map V.str)) ∧ 1 ≤ ys.length ∧ ys.length ≤ 26 ∧
  ∀ (v : Ve) (t : Addr) H', v.kind = k → v.name = nm → v.port ∈ ys → v.goal ∈ ys → veOk v → BoxAt H' p (n + 10) → KeepB p H H' → H' t = some (.tup (veV v)) → Q (.ref t) H'
theorem ok_law_vessel_row (T : Tx K mg) : FnOk P w K mg base CX0 3 T.a_law_vessel_row T.d_law_vessel_row ["_law_box_here", "_law_kind", "_law_name", "_law_ports"] (sp_law_vessel_row K) := by
  refine T.F_law_vessel_row.ok sc_law_vessel_row (fun vs H Q E h => ?_) (fun cdv A outer s H vs Q E hr h => ?_)
  · obtain ⟨p, l, n, k, nm, ys, rfl, _⟩ := h
    rfl
  · refine ⟨_, (pss_cons (ps_set (i := 4) sc_law_vessel_row.nd rfl (Or.inl rfl) (pe_tup (pa_cons (pv 2) (pa_cons (pe_ix (ixLK (K := K) rfl) (pv 3) (pe_call (ok_law_take T) (hr.mono (by decide)) (by rfl) T.g_law_take T.F_law_take.kp T.b_law_take .nil pass0 (pa_cons (pv 0) (pa_cons (pe_callB (lenK (K := K) rfl) (by rfl) T.m_len (by decide +kernel) (pa_cons (pv 3) pa_nil)) pa_nil))) (fun _ _ => rfl)) pa_nil))))
        (pss_cons (ps_if (pt_cmpR op_eq (pv 1) pe_str (nomark _))
        (pss_one (ps_set (i := 4) sc_law_vessel_row.nd rfl (Or.inl rfl) (pe_op (catAK (K := K) rfl) (pv 4) (pe_tup (pa_cons (pe_ix (ixLK (K := K) rfl) (pv 3) (pe_call (ok_law_take T) (hr.mono (by decide)) (by rfl) T.g_law_take T.F_law_take.kp T.b_law_take .nil pass0 (pa_cons (pv 0) (pa_cons (pe_callB (lenK (K := K) rfl) (by rfl) T.m_len (by decide +kernel) (pa_cons (pv 3) pa_nil)) pa_nil))) (fun _ _ => rfl)) pa_nil)))))
        pss_nil)
        (pss_cons (ps_set (i := 5) sc_law_vessel_row.nd rfl (Or.inl rfl) (pe_tup (pa_cons (pe_call (ok_law_number T) (hr.mono (by decide)) (by rfl) T.g_law_number T.F_law_number.kp T.b_law_number .nil pass0 (pa_cons (pv 0) (pa_cons pe_int (pa_cons (pe_op op_pow pe_int pe_int) pa_nil)))) (pa_cons (pe_call (ok_law_number T) (hr.mono (by decide)) (by rfl) T.g_law_number T.F_law_number.kp T.b_law_number .nil pass0 (pa_cons (pv 0) (pa_cons pe_int (pa_cons (pe_op op_pow pe_int pe_int) pa_nil)))) (pa_cons (pe_call (ok_law_number T) (hr.mono (by decide)) (by rfl) T.g_law_number T.F_law_number.kp T.b_law_number .nil pass0 (pa_cons (pv 0) (pa_cons pe_int (pa_cons pe_int pa_nil)))) pa_nil)))))
        (pss_cons (ps_if (pt_cmpR op_eq (pv 1) pe_str (nomark _))
        (pss_one (ps_set (i := 5) sc_law_vessel_row.nd rfl (Or.inl rfl) (pe_op (catAK (K := K) rfl) (pv 5) (pe_tup (pa_cons (pe_call (ok_law_number T) (hr.mono (by decide)) (by rfl) T.g_law_number T.F_law_number.kp T.b_law_number .nil pass0 (pa_cons (pv 0) (pa_cons pe_int (pa_cons (pe_op op_pow pe_int pe_int) pa_nil)))) pa_nil)))))
        pss_nil)
        (pss_one (ps_ret (pe_op (catAK (K := K) rfl) (pv 4) (pv 5)))))))), ?_⟩
    obtain ⟨p, l, n, k, nm, ys, rfl, hk, hB, hn, npl, hl, hy1, hy2, q⟩ := h
    walk_at "rd"
    refine rd_takeB fun r1 H1 r1_0 r1_1 b_H1 k_H1 => ?_ <;> walk_at "rd"
    refine rd_ixAny1 (xs := ys.map V.str) (by walk_at "sl") (by omega) (by omega) fun v hv => ?_
    obtain ⟨po, rfl, hpo⟩ := mem_map_str hv
    walk_at "rd"
    refine rd_tupB fun t2 H2 n_t2 s_H2 e_t2 => ?_ <;> walk_at "rd"
    match k, hk with
    | 0, _ =>
      (first | refine My.iteTd (by decide +kernel) ?_ | refine My.iteFd (by decide +kernel) ?_) <;> walk_at "rd"
      refine rd_number (lo := 0) (hi := 1000000) fun h1 H3 h1_0 h1_1 b_H3 k_H3 => ?_ <;> walk_at "rd"
      refine rd_number (lo := 0) (hi := 1000000) fun h2 H4 h2_0 h2_1 b_H4 k_H4 => ?_ <;> walk_at "rd"
      refine rd_number (lo := 0) (hi := 1000) fun h3 H5 h3_0 h3_1 b_H5 k_H5 => ?_ <;> walk_at "rd"
      refine rd_tupB fun t6 H6 n_t6 s_H6 e_t6 => ?_ <;> walk_at "rd"
      (first | refine My.iteTd (by decide +kernel) ?_ | refine My.iteFd (by decide +kernel) ?_) <;> walk_at "rd"
      refine rd_catT fun t7 H7 n_t7 s_H7 e_t7 => ?_ <;> walk_at "rd"
      exact q ⟨0, nm, po, po, h1, h2, h3, 1⟩ t7 _ rfl rfl hpo hpo ⟨(by decide : 0 < 3), h1_0, h1_1, h2_0, h2_1, h3_0, h3_1, (show (1 : Int) ≤ 1 by decide), (show (1 : Int) ≤ 1000000 by decide)⟩ (by walk_at "bx") (by walk_at "kb") e_t7
    | 1, _ =>
      (first | refine My.iteTd (by decide +kernel) ?_ | refine My.iteFd (by decide +kernel) ?_) <;> walk_at "rd"
      refine rd_number (lo := 0) (hi := 1000000) fun h1 H3 h1_0 h1_1 b_H3 k_H3 => ?_ <;> walk_at "rd"
      refine rd_number (lo := 0) (hi := 1000000) fun h2 H4 h2_0 h2_1 b_H4 k_H4 => ?_ <;> walk_at "rd"
      refine rd_number (lo := 0) (hi := 1000) fun h3 H5 h3_0 h3_1 b_H5 k_H5 => ?_ <;> walk_at "rd"
      refine rd_tupB fun t6 H6 n_t6 s_H6 e_t6 => ?_ <;> walk_at "rd"
      (first | refine My.iteTd (by decide +kernel) ?_ | refine My.iteFd (by decide +kernel) ?_) <;> walk_at "rd"
      refine rd_number (lo := 1) (hi := 1000000) fun h4 H7 h4_0 h4_1 b_H7 k_H7 => ?_ <;> walk_at "rd"
      refine rd_tupB fun t8 H8 n_t8 s_H8 e_t8 => ?_ <;> walk_at "rd"
      refine rd_catT fun t9 H9 n_t9 s_H9 e_t9 => ?_ <;> walk_at "rd"
      refine rd_catT fun t10 H10 n_t10 s_H10 e_t10 => ?_ <;> walk_at "rd"
      exact q ⟨1, nm, po, po, h1, h2, h3, h4⟩ t10 _ rfl rfl hpo hpo ⟨(by decide : 1 < 3), h1_0, h1_1, h2_0, h2_1, h3_0, h3_1, h4_0, h4_1⟩ (by walk_at "bx") (by walk_at "kb") e_t10
    | 2, _ =>
      (first | refine My.iteTd (by decide +kernel) ?_ | refine My.iteFd (by decide +kernel) ?_) <;> walk_at "rd"
      refine rd_takeB fun r2 H3 r2_0 r2_1 b_H3 k_H3 => ?_ <;> walk_at "rd"
      refine rd_ixAny1 (xs := ys.map V.str) (by walk_at "sl") (by omega) (by omega) fun v hv => ?_
      obtain ⟨go, rfl, hgo⟩ := mem_map_str hv
      walk_at "rd"
      refine rd_tupB fun t4 H4 n_t4 s_H4 e_t4 => ?_ <;> walk_at "rd"
      refine rd_catT fun t5 H5 n_t5 s_H5 e_t5 => ?_ <;> walk_at "rd"
      refine rd_number (lo := 0) (hi := 1000000) fun h1 H6 h1_0 h1_1 b_H6 k_H6 => ?_ <;> walk_at "rd"
      refine rd_number (lo := 0) (hi := 1000000) fun h2 H7 h2_0 h2_1 b_H7 k_H7 => ?_ <;> walk_at "rd"
      refine rd_number (lo := 0) (hi := 1000) fun h3 H8 h3_0 h3_1 b_H8 k_H8 => ?_ <;> walk_at "rd"
      refine rd_tupB fun t9 H9 n_t9 s_H9 e_t9 => ?_ <;> walk_at "rd"
      (first | refine My.iteTd (by decide +kernel) ?_ | refine My.iteFd (by decide +kernel) ?_) <;> walk_at "rd"
      refine rd_catT fun t10 H10 n_t10 s_H10 e_t10 => ?_ <;> walk_at "rd"
      exact q ⟨2, nm, po, go, h1, h2, h3, 1⟩ t10 _ rfl rfl hpo hgo ⟨(by decide : 2 < 3), h1_0, h1_1, h2_0, h2_1, h3_0, h3_1, (show (1 : Int) ≤ 1 by decide), (show (1 : Int) ≤ 1000000 by decide)⟩ (by walk_at "bx") (by walk_at "kb") e_t10

def sp_law_vessel (T : Tx K mg) : Sp := fun vs H Q E => ∃ (k : Nat) (t : Addr) (xs : List V), vs = [.str (veKind k), .ref t] ∧ k < 3 ∧ xs.length = rowN k ∧ H t = some (.tup xs) ∧ (∀ x ∈ xs, IsT H x) ∧ (kRef k xs = none → ∀ a H', Same H H' → Q (.ref a) H') ∧
  (∀ v, kRef k xs = some (0, v) → ∀ d H', Same H H' → H' d = some (.xd [("found", v)]) → E (.ref T.a_NoName) (some d) H') ∧
  (∀ v, kRef k xs = some (2, v) → ∀ d H', Same H H' → H' d = some (.xd [("found", v)]) → E (.ref T.a_NoNumber) (some d) H')
theorem ok_law_vessel (T : Tx K mg) : FnOk P w K mg base (L2.CX P w) 7 T.a_law_vessel T.d_law_vessel ["_law_kind", "_law_row"] (sp_law_vessel T) := by
  refine T.F_law_vessel.okX sc_law_vessel (fun vs H Q E h => ?_) (fun cdv A outer s H vs Q E hr h => ?_)
  · obtain ⟨k, t, xs, rfl, _⟩ := h
    rfl
  · refine ⟨_, (pss_cons (ps_if (pt_cmpR op_eq (pv 0) pe_str (nomark _))
        (pss_one (ps_ret (pe_makeS T.mk_Ship (ok_Ship___init__ T) (hr.mono (by decide)) rfl T.g_Ship T.b_Ship___init__ (fun σ => passAt (takes_of rfl rfl rfl rfl) σ) (pa_cons (pe_ix (ixTK (K := K) rfl) (pv 1) pe_int (fun _ _ => rfl)) (pa_cons (pe_ix (ixTK (K := K) rfl) (pv 1) pe_int (fun _ _ => rfl)) (pa_cons (pe_ix (ixTK (K := K) rfl) (pv 1) pe_int (fun _ _ => rfl)) (pa_cons (pe_ix (ixTK (K := K) rfl) (pv 1) pe_int (fun _ _ => rfl)) (pa_cons (pe_ix (ixTK (K := K) rfl) (pv 1) pe_int (fun _ _ => rfl)) (pa_cons (pe_ix (ixTK (K := K) rfl) (pv 1) pe_int (fun _ _ => rfl)) pa_nil)))))))))
        pss_nil)
        (pss_cons (ps_if (pt_cmpR op_eq (pv 0) pe_str (nomark _))
        (pss_one (ps_ret (pe_makeS T.mk_Breaker (ok_Breaker___init__ T) (hr.mono (by decide)) rfl T.g_Breaker T.b_Breaker___init__ (fun σ => passAt (takes_of rfl rfl rfl rfl) σ) (pa_cons (pe_ix (ixTK (K := K) rfl) (pv 1) pe_int (fun _ _ => rfl)) (pa_cons (pe_ix (ixTK (K := K) rfl) (pv 1) pe_int (fun _ _ => rfl)) (pa_cons (pe_ix (ixTK (K := K) rfl) (pv 1) pe_int (fun _ _ => rfl)) (pa_cons (pe_ix (ixTK (K := K) rfl) (pv 1) pe_int (fun _ _ => rfl)) (pa_cons (pe_ix (ixTK (K := K) rfl) (pv 1) pe_int (fun _ _ => rfl)) (pa_cons (pe_ix (ixTK (K := K) rfl) (pv 1) pe_int (fun _ _ => rfl)) pa_nil)))))))))
        pss_nil)
        (pss_one (ps_ret (pe_makeS T.mk_Vessel (ok_Vessel___init__ T) (hr.mono (by decide)) rfl T.g_Vessel T.b_Vessel___init__ (fun σ => passAt (takes_of rfl rfl rfl rfl) σ) (pa_cons (pe_ix (ixTK (K := K) rfl) (pv 1) pe_int (fun _ _ => rfl)) (pa_cons (pe_ix (ixTK (K := K) rfl) (pv 1) pe_int (fun _ _ => rfl)) (pa_cons (pe_ix (ixTK (K := K) rfl) (pv 1) pe_int (fun _ _ => rfl)) (pa_cons (pe_ix (ixTK (K := K) rfl) (pv 1) pe_int (fun _ _ => rfl)) (pa_cons (pe_ix (ixTK (K := K) rfl) (pv 1) pe_int (fun _ _ => rfl)) pa_nil)))))))))), ?_⟩
    obtain ⟨k, t, xs, rfl, hk3, hl, ht, hT, q0, q1, q2⟩ := h
    walk_at "rd"
    match k, hk3, xs, hl with
    | 0, _, [nm, po, ho, st, dr], _ =>
      rw [kRef_0] at q0 q1 q2
      (first | refine My.iteTd (by decide +kernel) ?_ | refine My.iteFd (by decide +kernel) ?_) <;> walk_at "rd"
      (first | refine My.iteTd (by decide +kernel) ?_ | refine My.iteFd (by decide +kernel) ?_) <;> walk_at "rd"
      intro x dx hx hdx hne
      have sM : Same H (upd (upd H dx (.own x)) x (.ins T.a_Vessel dx [])) := by walk_at "sm"
      exact ⟨0, x, dx, nm, po, ho, st, dr, rfl, upd_same, fun y hy => (hT y hy).thing.keep sM, fun r0 u H' hu k' h' => ⟨rfl, q0 r0 x H' (make_keep hx hdx k')⟩, fun v r0 d H' s' hd => q1 v r0 d H' (sM.trans s') hd, fun v r0 d H' s' hd => q2 v r0 d H' (sM.trans s') hd⟩
    | 1, _, [nm, po, ho, st, dr, cu], _ =>
      rw [kRef_1] at q0 q1 q2
      (first | refine My.iteTd (by decide +kernel) ?_ | refine My.iteFd (by decide +kernel) ?_) <;> walk_at "rd"
      (first | refine My.iteTd (by decide +kernel) ?_ | refine My.iteFd (by decide +kernel) ?_) <;> walk_at "rd"
      intro x dx hx hdx hne
      have sM : Same H (upd (upd H dx (.own x)) x (.ins T.a_Breaker dx [])) := by walk_at "sm"
      exact ⟨x, dx, nm, po, ho, st, dr, cu, rfl, upd_same, fun y hy => (hT y hy).thing.keep sM, fun r0 u H' hu hv k' h' => ⟨rfl, q0 r0 x H' (make_keep hx hdx k')⟩, fun v r0 d H' k' hd => q1 v r0 d H' (make_keep hx hdx k') hd, fun v r0 d H' k' hd => q2 v r0 d H' (make_keep hx hdx k') hd⟩
    | 2, _, [nm, po, go, ho, st, dr], _ =>
      rw [kRef_2] at q0 q1 q2
      (first | refine My.iteTd (by decide +kernel) ?_ | refine My.iteFd (by decide +kernel) ?_) <;> walk_at "rd"
      intro x dx hx hdx hne
      have sM : Same H (upd (upd H dx (.own x)) x (.ins T.a_Ship dx [])) := by walk_at "sm"
      exact ⟨x, dx, nm, po, go, ho, st, dr, rfl, upd_same, fun y hy => (hT y hy).thing.keep sM, fun r0 u H' hu hv k' h' => ⟨rfl, q0 r0 x H' (make_keep hx hdx k')⟩, fun v r0 d H' k' hd => q1 v r0 d H' (make_keep hx hdx k') hd, fun v r0 d H' k' hd => q2 v r0 d H' (make_keep hx hdx k') hd⟩
def sp_law_is_name (K : PySem.W.Frag) : Sp := fun vs H Q _ => ∃ v, vs = [v] ∧ ThingAt K H v ∧ ∀ H', Same H H' → Q (.bl (nameV v)) H'
theorem ok_law_is_name (T : Tx K mg) : FnOk P w K mg base CX0 1 T.a_law_is_name T.d_law_is_name ["_law_thing"] (sp_law_is_name K) := by
  refine T.F_law_is_name.ok sc_law_is_name (fun vs H Q E h => ?_) (fun cdv A outer s H vs Q E hr h => ?_)
  · obtain ⟨v, rfl, _⟩ := h
    rfl
  · refine ⟨_, (pss_cons (ps_if (PW.pt (pw_or (pt_not (pt_val (pe_callB (isiK (K := K) rfl) (by rfl) T.m_isinstance (by decide +kernel) (pa_cons (pv 0) (pa_cons (pe_bltn (v := .ty "str") rfl T.m_str (by decide +kernel) rfl) pa_nil))))) (pw_or1 (pt_not (pt_chain op_lt op_lt pe_int (pe_callB (lenK (K := K) rfl) (by rfl) T.m_len (by decide +kernel) (pa_cons (pv 0) pa_nil)) pe_int)))))
        (pss_one (ps_ret pe_bl))
        pss_nil)
        (pss_one (ps_ret (pe_cmpR (eqW (K := K) rfl hr.units) (pe_lc (own := [("_law_sign", 1)]) (g := gName 1) rfl sc_law_is_name.nd (pi_str (pv 0)) (blkOk_by (own := [("_law_sign", 1)]) (N := N_law_is_name) (sc := defScope s_law_is_name) (by decide +kernel)) (fun _ _ _ _ _ => (pg_name (i := 1) sc_law_is_name.nd rfl (Or.inl rfl))) (fun _ _ _ _ _ => (pts_one (pt_cmpR notInSg (pv 1) pe_str rfl))) (fun _ _ _ _ _ => (pe_frm (pv 1)))) (pe_lst pa_nil) (nomark _))))), ?_⟩
    obtain ⟨v, rfl, hT, q⟩ := h
    obtain ⟨t, ht, h1, h2, h3⟩ := thing_ty hT
    walk_at "rd"
    refine rd_isi ht h3 ?_ <;> walk_at "rd"
    cases v with
    | str z =>
      have hz : z.length ≤ 2000 := hT
      refine iteT ?_
      walk_at "rd"
      refine rd_iteD (fun h4 => ?_) (fun h4 => ?_) <;> walk_at "rd"
      · refine rd_iteD (fun h5 => ?_) (fun h5 => ?_) <;> walk_at "rd"
        · refine lcgo_fstr (fun c => !isLet c) (fun c => .str ⟨#[c]⟩) (by omega) (fun _ => rfl) (fun c H' P hc p => ?_) (fun c H' Q' hc hf q' => ?_) (fun D hD => ?_)
          · walk_at "rd"
            rw [isLet_in]
            exact p
          · walk_at "rd"
            exact q'
          · have nD : Nn H D := ⟨hD⟩
            have sD : Same H (upd H D (.lst ((z.cps.toList.filter fun c => !isLet c).map fun c => V.str ⟨#[c]⟩))) := same_new hD
            have eD : (upd H D (.lst ((z.cps.toList.filter fun c => !isLet c).map fun c => V.str ⟨#[c]⟩))) D = some (.lst ((z.cps.toList.filter fun c => !isLet c).map fun c => V.str ⟨#[c]⟩)) := upd_same
            generalize upd H D (.lst ((z.cps.toList.filter fun c => !isLet c).map fun c => V.str ⟨#[c]⟩)) = H1 at sD eD
            walk_at "rd"
            refine rd_lstB fun l2 H2 n_l2 s_H2 e_l2 => ?_ <;> walk_at "rd"
            have e : nameV (.str z) = z.cps.toList.all isLet := by rw [nameV, nameS, decide_eq_true (show 1 ≤ z.length ∧ z.length ≤ 8 by omega), Bool.true_and]
            cases hf : z.cps.toList.filter fun c => !isLet c with
            | nil =>
              rw [hf] at eD
              refine rd_eqW (n := 0) (eqS_lst (xs := []) (ys := []) (by walk_at "sl") (by walk_at "sl") AlkAll.nil) ?_
              walk_at "rd"
              have ha : z.cps.toList.all isLet = true := List.all_eq_true.mpr fun c hc => by
                cases hl : isLet c with
                | true => rfl
                | false =>
                  have : c ∈ z.cps.toList.filter fun c => !isLet c := List.mem_filter.mpr ⟨hc, by rw [hl]; rfl⟩
                  rw [hf] at this
                  cases this
              have := q H2 (by walk_at "sm")
              rw [e, ha] at this
              exact this
            | cons c r =>
              rw [hf] at eD
              refine rd_eqWF (n := 0) (eqS_len (xs := (c :: r).map fun c => V.str ⟨#[c]⟩) (ys := []) (by walk_at "sl") (by walk_at "sl") (by walk_at "ne") (by simp)) ?_
              walk_at "rd"
              have hm : c ∈ z.cps.toList.filter fun c => !isLet c := by rw [hf]; exact List.mem_cons_self
              obtain ⟨hm1, hm2⟩ := List.mem_filter.mp hm
              have ha : z.cps.toList.all isLet = false := by
                cases hl : z.cps.toList.all isLet with
                | false => rfl
                | true =>
                  have := List.all_eq_true.mp hl c hm1
                  rw [this] at hm2
                  cases hm2
              have := q H2 (by walk_at "sm")
              rw [e, ha] at this
              exact this
        · have := q _ (Same.refl H)
          rw [nameV, nameS, decide_eq_false (show ¬ (1 ≤ z.length ∧ z.length ≤ 8) by omega), Bool.false_and] at this
          exact this
      · have := q _ (Same.refl H)
        rw [nameV, nameS, decide_eq_false (show ¬ (1 ≤ z.length ∧ z.length ≤ 8) by omega), Bool.false_and] at this
        exact this
    | _ =>
      first
      | (refine iteF ?_
         walk_at "rd"
         exact q _ (Same.refl H))
      | exact hT.elim
def sp_law_is_number (K : PySem.W.Frag) : Sp := fun vs H Q _ => ∃ v lo hi, vs = [v, .int lo, .int hi] ∧ ThingAt K H v ∧ Q (.bl (withinV v lo hi)) H
theorem ok_law_is_number (T : Tx K mg) : FnOk P w K mg base CX0 1 T.a_law_is_number T.d_law_is_number ["_law_thing", "_law_low", "_law_high"] (sp_law_is_number K) := by
  refine T.F_law_is_number.ok sc_law_is_number (fun vs H Q E h => ?_) (fun cdv A outer s H vs Q E hr h => ?_)
  · obtain ⟨v, lo, hi, rfl, _⟩ := h
    rfl
  · refine ⟨_, (pss_one (ps_ret (pe_and (pe_callB (isiK (K := K) rfl) (by rfl) T.m_isinstance (by decide +kernel) (pa_cons (pv 0) (pa_cons (pe_bltn (v := .ty "int") rfl T.m_int (by decide +kernel) rfl) pa_nil))) (pe_and (pe_not (pe_callB (isiK (K := K) rfl) (by rfl) T.m_isinstance (by decide +kernel) (pa_cons (pv 0) (pa_cons (pe_bltn (v := .ty "bool") rfl T.m_bool (by decide +kernel) rfl) pa_nil)))) (pe_one (pe_chain op_le op_le (pv 1) (pv 0) (pv 2))))))), ?_⟩
    obtain ⟨v, lo, hi, rfl, hT, q⟩ := h
    obtain ⟨t, ht, h1, h2, h3⟩ := thing_ty hT
    walk_at "rd"
    refine rd_isi ht h1 ?_ <;> walk_at "rd"
    cases v with
    | int i =>
      refine iteT ?_
      walk_at "rd"
      refine rd_isi ht h2 ?_ <;> walk_at "rd"
      refine iteFd rfl ?_
      walk_at "rd"
      refine rd_iteD (fun h1 => ?_) (fun h1 => ?_)
      · walk_at "rd"
        rw [withinV, decide_eq_true h1, Bool.true_and] at q
        exact q
      · walk_at "rd"
        rw [withinV, decide_eq_false h1, Bool.false_and] at q
        exact q
    | bl b =>
      refine iteT ?_
      walk_at "rd"
      refine rd_isi ht h2 ?_ <;> walk_at "rd"
      exact iteTd rfl q
    | _ => first | exact iteF q | exact hT.elim
def sp_law_due (K : PySem.W.Frag) : Sp := fun vs H Q _ => ∃ (k : Nat) (t : Addr) (xs : List V), vs = [.str (veKind k), .ref t] ∧ k < 3 ∧ xs.length = rowN k ∧ H t = some (.tup xs) ∧ (∀ x ∈ xs, IsT H x) ∧ ∀ p H' tag z, Same H H' → H' p = some (.tup [.str tag, .str z]) → Told H' (kRef k xs) tag z → Q (.ref p) H'
theorem ok_law_due (T : Tx K mg) : FnOkG P w K mg base 2 T.a_law_due T.d_law_due ["_law_kind", "_law_row"] (sp_law_due K) := by
  refine okG T.F_law_due sc_law_due (fun vs H Q E h => ?_) (fun cdv A outer s H vs Q E hG hr h => ?_)
  · obtain ⟨k, t, xs, rfl, _⟩ := h
    rfl
  · refine ⟨_, (pss_cons (ps_set (i := 2) sc_law_due.nd rfl (Or.inl rfl) (pe_op op_add pe_int (pe_callTy int1 (by rfl) T.m_int (by decide +kernel) (pa_cons (pe_cmpR op_eq (pv 0) pe_str (nomark _)) pa_nil))))
        (pss_cons (ps_for PassesOwn.never rfl (pi_tupK (K := K) rfl (pe_slice (slTK (K := K) rfl) (pv 1) po_none (po_some (pv 2)))) (pg_name (i := 3) sc_law_due.nd rfl (Or.inl rfl))
        (pss_one (ps_if (pt_not (pt_val (pe_call (ok_law_is_name T) (hr.mono (by decide)) (by rfl) T.g_law_is_name T.F_law_is_name.kp T.b_law_is_name .nil pass0 (pa_cons (pv 3) pa_nil))))
        (pss_one (ps_ret (pe_tup (pa_cons pe_str (pa_cons (pe_callB (reprE (K := K) rfl hG hr.units) (by rfl) T.m_repr (by decide +kernel) (pa_cons (pv 3) pa_nil)) pa_nil)))))
        pss_nil)))
        (pss_cons (ps_set (i := 4) sc_law_due.nd rfl (Or.inl rfl) (pe_lst (pa_cons (pe_tup (pa_cons pe_int (pa_cons (pe_op op_pow pe_int pe_int) pa_nil))) (pa_cons (pe_tup (pa_cons pe_int (pa_cons (pe_op op_pow pe_int pe_int) pa_nil))) (pa_cons (pe_tup (pa_cons pe_int (pa_cons pe_int pa_nil))) (pa_cons (pe_tup (pa_cons pe_int (pa_cons (pe_op op_pow pe_int pe_int) pa_nil))) pa_nil))))))
        (pss_cons (ps_for PassesOwn.never rfl (pi_enumS (K := K) rfl (by rfl) T.m_enumerate (pa_cons (pe_slice (slTK (K := K) rfl) (pv 1) (po_some (pv 2)) po_none) pa_nil)) (pg_tup rfl (pgs_cons (pg_name (i := 5) sc_law_due.nd rfl (Or.inl rfl)) (pgs_cons (pg_name (i := 3) sc_law_due.nd rfl (Or.inl rfl)) pgs_nil)))
        (pss_one (ps_if (pt_not (pt_val (pe_call (ok_law_is_number T) (hr.mono (by decide)) (by rfl) T.g_law_is_number T.F_law_is_number.kp T.b_law_is_number .nil pass0 (pa_cons (pv 3) (pa_cons (pe_ix (ixK (K := K) rfl) (pe_ix (ixLK (K := K) rfl) (pv 4) (pv 5) (fun _ _ => rfl)) pe_int (fun _ _ => rfl)) (pa_cons (pe_ix (ixK (K := K) rfl) (pe_ix (ixLK (K := K) rfl) (pv 4) (pv 5) (fun _ _ => rfl)) pe_int (fun _ _ => rfl)) pa_nil))))))
        (pss_one (ps_ret (pe_tup (pa_cons pe_str (pa_cons (pe_callB (reprE (K := K) rfl hG hr.units) (by rfl) T.m_repr (by decide +kernel) (pa_cons (pv 3) pa_nil)) pa_nil)))))
        pss_nil)))
        (pss_one (ps_ret (pe_tup (pa_cons pe_str (pa_cons pe_str pa_nil))))))))), ?_⟩
    obtain ⟨k, t, xs, rfl, hk3, hl, ht, hT, q⟩ := h
    walk_at "rd"
    refine rd_intD (i := if k = 2 then 1 else 0) (by match k, hk3 with | 0, _ => decide +kernel | 1, _ => decide +kernel | 2, _ => decide +kernel) ?_ <;> walk_at "rd"
    have hmany : (2 : Int) + (if k = 2 then 1 else 0) = ((nmN k : Nat) : Int) := by unfold nmN; split <;> rfl
    rw [hmany]
    have hnk : nmN k ≤ 3 ∧ nmN k ≤ xs.length ∧ xs.length - nmN k ≤ 4 := by rw [hl]; unfold nmN rowN; match k, hk3 with | 0, _ => decide | 1, _ => decide | 2, _ => decide
    generalize hnm : nmN k = nk at hnk
    have hkr : kRef k xs = dueRef (xs.take nk) (rsOf (xs.drop nk)) := by rw [← hnm]; rfl
    rw [hkr] at q
    refine rd_slB (ys := xs.take nk) (e := cutV_to) fun t1 H1 s_H1 e_t1 => ?_ <;> walk_at "rd"
    refine rd_itB ?_ <;> walk_at "rd"
    refine forgo walk_tup (fun i σ' H' => Same H1 H' ∧ ((xs.take nk).take i).find? (fun v => !nameV v) = none ∧ ∃ x1 x2 x3, σ' = [some (.str (veKind k)), some (.ref t), some (.int nk), x1, x2, x3]) ⟨Same.refl _, rfl, _, _, _, rfl⟩ (fun i σ' H' _ p => Same.seqT p.1 (sqT_of e_t1)) ?_ ?_
    · rintro i x σ' Ha Hb hi ⟨sa, hn, x1, x2, x3, rfl⟩ ⟨e0, hx⟩
      subst e0
      have hxm : IsT H x := hT x (List.mem_of_mem_take (List.mem_of_getElem? hx))
      walk_at "rd"
      refine ⟨x, rfl, (hxm.keep (by walk_at "sm")).thing, fun Hc sc => ?_⟩
      walk_at "rd"
      cases hv : nameV x with
      | true =>
        walk_at "rd"
        exact ⟨sa.trans sc, (find_step hn hx).1 (by rw [hv]; rfl), _, _, _, rfl⟩
      | false =>
        walk_at "rd"
        obtain ⟨dd, hd⟩ : IsT Hc x := hxm.keep (by walk_at "sm")
        refine rd_rT hd fun z y => ?_ <;> walk_at "rd"
        refine rd_tupB fun p H2 n_p s_H2 e_p => ?_ <;> walk_at "rd"
        exact q p H2 _ z (by walk_at "sm") e_p (by rw [due_0 ((find_step hn hx).2 (by rw [hv]; rfl))]; exact ⟨rfl, dd, hd.keep s_H2, y⟩)
    rintro σ' Ha ⟨sa, hf, x1, x2, x3, rfl⟩
    have hf : (xs.take nk).find? (fun v => !nameV v) = none := by rw [List.take_length] at hf; exact hf
    walk_at "rd"
    refine rd_tupB fun b1 Hb1 n_b1 s_Hb1 e_b1 => ?_ <;> walk_at "rd"
    refine rd_tupB fun b2 Hb2 n_b2 s_Hb2 e_b2 => ?_ <;> walk_at "rd"
    refine rd_tupB fun b3 Hb3 n_b3 s_Hb3 e_b3 => ?_ <;> walk_at "rd"
    refine rd_tupB fun b4 Hb4 n_b4 s_Hb4 e_b4 => ?_ <;> walk_at "rd"
    refine rd_lstB fun l Hl n_l s_Hl e_l => ?_ <;> walk_at "rd"
    refine rd_slB (ys := xs.drop nk) (e := cutV_from) fun t6 H6 s_H6 e_t6 => ?_ <;> walk_at "rd"
    let bs : List (Addr × Int × Int) := [(b1, 0, 1000000), (b2, 0, 1000000), (b3, 0, 1000), (b4, 1, 1000000)]
    have bsP : ∀ r ∈ bs, H6 r.1 = some (.tup [.int r.2.1, .int r.2.2]) := by
      intro r hr
      simp only [bs, List.mem_cons, List.not_mem_nil, or_false] at hr
      rcases hr with rfl | rfl | rfl | rfl
      · exact show H6 _ = some (.tup [.int _, .int _]) by walk_at "hp"
      · exact show H6 _ = some (.tup [.int _, .int _]) by walk_at "hp"
      · exact show H6 _ = some (.tup [.int _, .int _]) by walk_at "hp"
      · exact show H6 _ = some (.tup [.int _, .int _]) by walk_at "hp"
    have hbl : H6 l = some (.lst (bs.map fun r => V.ref r.1)) := show H6 l = some (.lst [_, _, _, _]) by walk_at "hp"
    have hln : (xs.drop nk).length ≤ 4 := by rw [List.length_drop]; omega
    refine ⟨.T t6, xs.drop nk, rfl, show SqT K _ _ _ by walk_at "st", ?_⟩
    refine forgo walk_enumS (fun i σ' H' => Same H6 H' ∧ ((rsOf (xs.drop nk)).take i).find? badN = none ∧ ∃ x1 x3, σ' = [some (.str (veKind k)), some (.ref t), some (.int nk), x1, some (.ref l), x3]) ⟨Same.refl _, rfl, _, _, rfl⟩ (fun i σ' H' _ p => Same.seqT p.1 (sqT_of e_t6)) ?_ ?_
    · rintro i x σ' Hc Hd hi ⟨sc, hn, y1, y3, rfl⟩ ⟨tt, u, v, rfl, hT0, rfl, hu, hv⟩
      cases hu
      have hv : (xs.drop nk)[i]? = some v := hv
      have hbe : ∀ Hx, Same H6 Hx → ∀ r ∈ bs, Hx r.1 = some (.tup [.int r.2.1, .int r.2.2]) := fun Hx sx r hr => sx _ _ (bsP r hr)
      have hib : i < bs.length := Nat.lt_of_lt_of_le hi hln
      obtain ⟨b, lo, hi2, hr⟩ : ∃ b lo hi2, bs[i]? = some (b, lo, hi2) := ⟨bs[i].1, bs[i].2.1, bs[i].2.2, List.getElem?_eq_getElem hib⟩
      have hb := bsP _ (List.mem_of_getElem? hr)
      have hvT : IsT H6 v := (hT v (List.mem_of_mem_drop (List.mem_of_getElem? hv))).keep (by walk_at "sm")
      have hr2 : (rsOf (xs.drop nk))[i]? = some (v, lo, hi2) := by
        have hb2 : bnds[i]? = some (lo, hi2) := by
          have : bnds = bs.map (·.2) := rfl
          rw [this, List.getElem?_map, hr]
          rfl
        unfold rsOf
        rw [List.getElem?_zipWith, hv, hb2]
      have sT : Same Hc (upd Hc tt (.tup [.int i, v])) := same_new hT0
      have eT : (upd Hc tt (.tup [.int i, v])) tt = some (.tup [.int i, v]) := upd_same
      generalize upd Hc tt (.tup [.int i, v]) = He at sT eT
      have s6e : Same H6 He := sc.trans sT
      have hbE : He b = some (.tup [.int lo, .int hi2]) := s6e _ _ hb
      refine rd_gtup (sqT_of eT) rfl ?_
      walk_at "rd"
      refine rd_ixL1 (xs := bs.map fun r => V.ref r.1) (v := .ref b) (sqL_of (s6e _ _ hbl)) (atI_nat (by rw [List.getElem?_map, hr]; rfl)) ?_
      walk_at "rd"
      refine rd_ixL1 (xs := bs.map fun r => V.ref r.1) (v := .ref b) (sqL_of (s6e _ _ hbl)) (atI_nat (by rw [List.getElem?_map, hr]; rfl)) ?_
      walk_at "rd"
      refine ⟨v, lo, hi2, rfl, (hvT.keep s6e).thing, ?_⟩
      walk_at "rd"
      cases hw : withinV v lo hi2 with
      | true =>
        walk_at "rd"
        exact ⟨s6e, (find_step hn hr2).1 (by simp only [badN, hw]; rfl), _, _, rfl⟩
      | false =>
        walk_at "rd"
        obtain ⟨dd, hd⟩ : IsT He v := hvT.keep s6e
        refine rd_rT hd fun z y => ?_ <;> walk_at "rd"
        refine rd_tupB fun p H2 n_p s_H2 e_p => ?_ <;> walk_at "rd"
        clear s6e
        exact q p H2 _ z (by walk_at "sm") e_p (by rw [due_2 hf ((find_step hn hr2).2 (by simp only [badN, hw]; rfl))]; exact ⟨rfl, dd, hd.keep s_H2, y⟩)
    rintro σ' Hc ⟨sc, hf2, y1, y3, rfl⟩
    have hlr : (rsOf (xs.drop nk)).length = (xs.drop nk).length := by
      unfold rsOf
      rw [List.length_zipWith]
      exact Nat.min_eq_left hln
    rw [← hlr, List.take_length] at hf2
    walk_at "rd"
    refine rd_tupB fun p H2 n_p s_H2 e_p => ?_ <;> walk_at "rd"
    exact q p H2 _ _ (by walk_at "sm") e_p (by rw [due_4 hf hf2]; exact ⟨rfl, rfl⟩)
def sp_law_found (K : PySem.W.Frag) : Sp := fun vs H Q _ => ∃ (k : Nat) (t : Addr) (xs : List V), vs = [.str (veKind k), .ref t] ∧ k < 3 ∧ xs.length = rowN k ∧ H t = some (.tup xs) ∧ (∀ x ∈ xs, IsT H x) ∧ ∀ p H' tag z, Same H H' → H' p = some (.tup [.str tag, .str z]) → Told H' (kRef k xs) tag z → Q (.ref p) H'
theorem ok_law_found (T : Tx K mg) : FnOkG P w K mg base 8 T.a_law_found T.d_law_found ["_law_kind", "_law_row"] (sp_law_found K) := by
  refine okG T.F_law_found sc_law_found (fun vs H Q E h => ?_) (fun cdv A outer s H vs Q E hG hr h => ?_)
  · obtain ⟨k, t, xs, rfl, _⟩ := h
    rfl
  · refine ⟨_, (pss_cons (ps_tryN rfl rfl sc_law_found.nd takes0 (fun W pn xe tk po => by exact (pss_one (ps_expr (pe_callS (ok_law_vessel T) (hr.mono (by decide)) (by rfl) T.g_law_vessel T.F_law_vessel.kp T.b_law_vessel (fun σ => passAt tk σ) (pa_cons (pv 0) (pa_cons (pv 1) pa_nil))))))
        (Hands.named (i := 2) rfl rfl ⟨rfl, by decide, .inl T.g_NoName⟩ (fun a oe cls d pn hz hf => by exact (pss_one (ps_ret (pe_tup (pa_cons pe_str (pa_cons (pe_callB (reprE (K := K) rfl hG hr.units) (by rfl) T.m_repr (by decide +kernel) (pa_cons (pe_xf T.xf_NoName T.n_NoName_found hz hf (pv 2)) pa_nil)) pa_nil)))))) (Hands.named (i := 2) rfl rfl ⟨rfl, by decide, .inl T.g_NoNumber⟩ (fun a oe cls d pn hz hf => by exact (pss_one (ps_ret (pe_tup (pa_cons pe_str (pa_cons (pe_callB (reprE (K := K) rfl hG hr.units) (by rfl) T.m_repr (by decide +kernel) (pa_cons (pe_xf T.xf_NoNumber T.n_NoNumber_found hz hf (pv 2)) pa_nil)) pa_nil)))))) (Hands.plain ⟨rfl, by decide, .inl T.g_IceError⟩ (fun a oe cls d pn hz hf => by exact (pss_one (ps_ret (pe_tup (pa_cons pe_str (pa_cons pe_str pa_nil)))))) Hands.nil))))
        (pss_one (ps_ret (pe_tup (pa_cons pe_str (pa_cons pe_str pa_nil)))))), ?_⟩
    obtain ⟨k, t, xs, rfl, hk3, hl, ht, hT, q⟩ := h
    walk_at "rd"
    refine ⟨k, t, xs, rfl, hk3, hl, ht, hT, fun r0 a H' s' => ?_, fun v r0 e H' s' he => ?_, fun v r0 e H' s' he => ?_⟩
    · walk_at "rd"
      refine rd_tupB fun p H2 n_p s_H2 e_p => ?_ <;> walk_at "rd"
      exact q p H2 _ _ (s'.trans s_H2) e_p (by rw [r0]; exact ⟨rfl, rfl⟩)
    · refine ⟨true, T.te_NoName_NoName, fun _ a0 ha0 => ?_, fun e => Bool.noConfusion e⟩
      have hv : IsT H v := hT v (kRef_mem r0)
      refine suite_named ?_
      walk_at "rd"
      obtain ⟨dd, hd⟩ : IsT H' v := hv.keep s'
      refine rd_rT hd fun z y => ?_ <;> walk_at "rd"
      refine rd_tupB fun p H2 n_p s_H2 e_p => ?_ <;> walk_at "rd"
      exact q p H2 _ z (s'.trans s_H2) e_p (by rw [r0]; exact ⟨rfl, dd, hd.keep s_H2, y⟩)
    · refine ⟨false, T.te_NoNumber_NoName, fun e => Bool.noConfusion e, fun _ => ⟨true, T.te_NoNumber_NoNumber, fun _ a0 ha0 => ?_, fun e => Bool.noConfusion e⟩⟩
      have hv : IsT H v := hT v (kRef_mem r0)
      refine suite_named ?_
      walk_at "rd"
      obtain ⟨dd, hd⟩ : IsT H' v := hv.keep s'
      refine rd_rT hd fun z y => ?_ <;> walk_at "rd"
      refine rd_tupB fun p H2 n_p s_H2 e_p => ?_ <;> walk_at "rd"
      exact q p H2 _ z (s'.trans s_H2) e_p (by rw [r0]; exact ⟨rfl, dd, hd.keep s_H2, y⟩)
def sp_law_spoilt (K : PySem.W.Frag) : Sp := fun vs H Q _ => ∃ (p t : Addr) (n k : Nat) (xs : List V), vs = [.ref p, .str (veKind k), .ref t] ∧ k < 3 ∧ BoxAt H p n ∧ n ≤ 1000 ∧ H t = some (.tup xs) ∧ xs.length = rowN k ∧ (∀ x ∈ xs, IsT H x) ∧
  ∀ t' ys H', BoxAt H' p (n + 5) → KeepB p H H' → H' t' = some (.tup ys) → ys.length = rowN k → (∀ y ∈ ys, IsT H' y) → Q (.ref t') H'
theorem ok_law_spoilt (T : Tx K mg) : FnOk P w K mg base CX0 3 T.a_law_spoilt T.d_law_spoilt ["_law_box_here", "_law_kind", "_law_row"] (sp_law_spoilt K) := by
  refine T.F_law_spoilt.ok sc_law_spoilt (fun vs H Q E h => ?_) (fun cdv A outer s H vs Q E hr h => ?_)
  · obtain ⟨p, t, n, k, xs, rfl, _⟩ := h
    rfl
  · refine ⟨_, (pss_cons (ps_set (i := 3) sc_law_spoilt.nd rfl (Or.inl rfl) (pe_op op_add pe_int (pe_callTy int1 (by rfl) T.m_int (by decide +kernel) (pa_cons (pe_cmpR op_eq (pv 1) pe_str (nomark _)) pa_nil))))
        (pss_cons (ps_set (i := 4) sc_law_spoilt.nd rfl (Or.inl rfl) (pe_call (ok_law_take T) (hr.mono (by decide)) (by rfl) T.g_law_take T.F_law_take.kp T.b_law_take .nil pass0 (pa_cons (pv 0) (pa_cons (pe_callB (lenK (K := K) rfl) (by rfl) T.m_len (by decide +kernel) (pa_cons (pv 2) pa_nil)) pa_nil))))
        (pss_cons (ps_set (i := 5) sc_law_spoilt.nd rfl (Or.inl rfl) (pe_call (ok_law_take T) (hr.mono (by decide)) (by rfl) T.g_law_take T.F_law_take.kp T.b_law_take .nil pass0 (pa_cons (pv 0) (pa_cons pe_int pa_nil))))
        (pss_cons (ps_set (i := 6) sc_law_spoilt.nd rfl (Or.inl rfl) (pe_call (ok_law_odd T) (hr.mono (by decide)) (by rfl) T.g_law_odd T.F_law_odd.kp T.b_law_odd .nil pass0 (pa_cons (pv 0) pa_nil)))
        (C8.pss_cut (ps_if (PW.pt (pw_and (pt_cmpR op_ge (pv 4) (pv 3) (nomark _)) (pw_and1 (pt_cmpR op_eq (pv 5) pe_int (nomark _)))))
        (pss_cons (ps_set (i := 7) sc_law_spoilt.nd rfl (Or.inl rfl) (pe_ix (ixLK (K := K) rfl) (pe_lst (pa_cons (pe_op op_add (pe_op op_pow pe_int pe_int) pe_int) (pa_cons (pe_op op_add (pe_op op_pow pe_int pe_int) pe_int) (pa_cons pe_int (pa_cons (pe_op op_add (pe_op op_pow pe_int pe_int) pe_int) pa_nil))))) (pe_op op_sub (pv 4) (pv 3)) (fun _ _ => rfl)))
        (pss_one (ps_set (i := 6) sc_law_spoilt.nd rfl (Or.inl rfl) (pe_ix (ixLK (K := K) rfl) (pe_lst (pa_cons (pv 7) (pa_cons (pe_ix (ixLK (K := K) rfl) (pe_lst (pa_cons (pe_un un_neg pe_int) (pa_cons (pe_un un_neg pe_int) (pa_cons (pe_un un_neg pe_int) (pa_cons pe_int pa_nil))))) (pe_op op_sub (pv 4) (pv 3)) (fun _ _ => rfl)) pa_nil))) (pe_call (ok_law_take T) (hr.mono (by decide)) (by rfl) T.g_law_take T.F_law_take.kp T.b_law_take .nil pass0 (pa_cons (pv 0) (pa_cons pe_int pa_nil))) (fun _ _ => rfl)))))
        pss_nil)
        (C8.pss_cut (ps_if (PW.pt (pw_and (pt_cmpR op_lt (pv 4) (pv 3) (nomark _)) (pw_and1 (pt_cmpR op_eq (pv 5) pe_int (nomark _)))))
        (pss_one (ps_set (i := 6) sc_law_spoilt.nd rfl (Or.inl rfl) (pe_ix (ixTK (K := K) rfl) (pv 2) (pe_call (ok_law_take T) (hr.mono (by decide)) (by rfl) T.g_law_take T.F_law_take.kp T.b_law_take .nil pass0 (pa_cons (pv 0) (pa_cons (pv 3) pa_nil))) (fun _ _ => rfl))))
        pss_nil)
        (pss_one (ps_ret (pe_op (catAK (K := K) rfl) (pe_op (catAK (K := K) rfl) (pe_slice (slTK (K := K) rfl) (pv 2) po_none (po_some (pv 4))) (pe_tup (pa_cons (pv 6) pa_nil))) (pe_slice (slTK (K := K) rfl) (pv 2) (po_some (pe_op op_add (pv 4) pe_int)) po_none)))))))))), ?_⟩
    obtain ⟨p, t, n, k, xs, rfl, hk3, hB, hn, ht, hl, hT, q⟩ := h
    walk_at "rd"
    refine rd_intD (i := if k = 2 then 1 else 0) (by match k, hk3 with | 0, _ => decide +kernel | 1, _ => decide +kernel | 2, _ => decide +kernel) ?_ <;> walk_at "rd"
    have hmany : (2 : Int) + (if k = 2 then 1 else 0) = ((nmN k : Nat) : Int) := by unfold nmN; split <;> rfl
    rw [hmany]
    have hnk : 1 ≤ nmN k ∧ nmN k ≤ 3 ∧ nmN k ≤ xs.length ∧ xs.length - nmN k ≤ 4 ∧ xs.length ≤ 6 := by rw [hl]; unfold nmN rowN; match k, hk3 with | 0, _ => decide | 1, _ => decide | 2, _ => decide
    generalize hnm : nmN k = nk at hnk
    refine rd_takeB fun at_ H1 at__0 at__1 b_H1 k_H1 => ?_ <;> walk_at "rd"
    refine rd_takeB fun way H2 way_0 way_1 b_H2 k_H2 => ?_ <;> walk_at "rd"
    refine ⟨p, _, rfl, by walk_at "bx", by omega, fun th H3 b_H3 k_H3 hth => ?_⟩
    walk_at "rd"
    have npt : t ≠ p := fun e => by
      obtain ⟨_, _, _, e2, _⟩ := hB
      rw [e, e2] at ht
      cases ht
    obtain ⟨an, rfl⟩ : ∃ an : Nat, at_ = (an : Int) := ⟨at_.toNat, by omega⟩
    have ht3 : H3 t = some (.tup xs) := by walk_at "hp"
    have hT3 : ∀ x ∈ xs, IsT H3 x := fun x hx => (((hT x hx).kb hB k_H1).kb b_H1 k_H2).kb b_H2 k_H3
    refine ⟨fun σ' H' => ∃ th' x7, σ' = [some (.ref p), some (.str (veKind k)), some (.ref t), some (.int nk), some (.int an), some (.int way), some th', x7] ∧ BoxAt H' p (n + 4) ∧ KeepB p H3 H' ∧ IsT H' th', ?_, ?_⟩
    · walk_at "rd"
      refine rd_iteD (fun c1 => ?_) (fun c1 => ?_) <;> walk_at "rd"
      · walk_at "rd"
        refine rd_iteD (fun c2 => ?_) (fun c2 => ?_) <;> walk_at "rd"
        · walk_at "rd"
          refine rd_lstB fun l1 H4 n_l1 s_H4 e_l1 => ?_ <;> walk_at "rd"
          refine rd_ixAny1 (xs := [_, _, _, _]) (by walk_at "sl") (by omega) (by simp; omega) fun v hv => ?_
          have hv3 : IsT H4 v := (show ∀ v ∈ [_, _, _, _], IsT H4 v by walk_at "its") v hv
          walk_at "rd"
          refine rd_lstB fun l2 H5 n_l2 s_H5 e_l2 => ?_ <;> walk_at "rd"
          refine rd_ixAny1 (xs := [_, _, _, _]) (by walk_at "sl") (by omega) (by simp; omega) fun u hu => ?_
          have hu3 : IsT H5 u := (show ∀ v ∈ [_, _, _, _], IsT H5 v by walk_at "its") u hu
          walk_at "rd"
          refine rd_lstB fun l3 H6 n_l3 s_H6 e_l3 => ?_ <;> walk_at "rd"
          have b6 : BoxAt H6 p (n + 1 + 1 + 1) := by walk_at "bx"
          refine rd_takeB fun r H7 r_0 r_1 b_H7 k_H7 => ?_ <;> walk_at "rd"
          refine rd_ixAny1 (xs := [_, _]) (by walk_at "sl") r_0 (by simpa using r_1) fun y hy => ?_
          have hy7 : IsT H7 y := by
            have h1 : IsT H6 v := (hv3.keep s_H5).keep s_H6
            have h2 : IsT H6 u := hu3.keep s_H6
            exact IsT.kb b6 k_H7 ((show ∀ v ∈ [_, _], IsT H6 v by walk_at "its") y hy)
          walk_at "rd"
          exact ⟨y, _, rfl, by walk_at "bx", by walk_at "kb", hy7⟩
        · walk_at "rd"
          exact ⟨th, _, rfl, by walk_at "bx", by walk_at "kb", hth⟩
      · walk_at "rd"
        exact ⟨th, _, rfl, by walk_at "bx", by walk_at "kb", hth⟩
    · rintro σ' H4 ⟨th4, x7, rfl, b4, k4, hth4⟩
      refine ⟨fun σ' H' => ∃ th' x7, σ' = [some (.ref p), some (.str (veKind k)), some (.ref t), some (.int nk), some (.int an), some (.int way), some th', x7] ∧ BoxAt H' p (n + 5) ∧ KeepB p H3 H' ∧ IsT H' th', ?_, ?_⟩
      · walk_at "rd"
        refine rd_iteD (fun c1 => ?_) (fun c1 => ?_) <;> walk_at "rd"
        · walk_at "rd"
          refine rd_iteD (fun c2 => ?_) (fun c2 => ?_) <;> walk_at "rd"
          · walk_at "rd"
            refine rd_takeB fun r H5 r_0 r_1 b_H5 k_H5 => ?_ <;> walk_at "rd"
            obtain ⟨rn, rfl⟩ : ∃ rn : Nat, r = (rn : Int) := ⟨r.toNat, by omega⟩
            refine rd_ixT1 (xs := xs) (v := xs[rn]'(by omega)) (by walk_at "st") (atI_nat (List.getElem?_eq_getElem (by omega))) ?_
            walk_at "rd"
            exact ⟨_, _, rfl, by walk_at "bx", by walk_at "kb", ((hT3 _ (List.getElem_mem _)).kb b_H3 k4).kb b4 k_H5⟩
          · walk_at "rd"
            exact ⟨th4, _, rfl, by walk_at "bx", k4, hth4⟩
        · walk_at "rd"
          exact ⟨th4, _, rfl, by walk_at "bx", k4, hth4⟩
      · rintro σ' H5 ⟨th5, x8, rfl, b5, k5, hth5⟩
        have hT5 : ∀ x ∈ xs, IsT H5 x := fun x hx => (hT3 x hx).kb b_H3 k5
        have k05 : KeepB p H H5 := by walk_at "kb"
        clear k4 b4 hth4
        walk_at "rd"
        refine rd_slB (ys := xs.take an) (e := cutV_to) fun t6 H6 s_H6 e_t6 => ?_ <;> walk_at "rd"
        refine rd_tupB fun t7 H7 n_t7 s_H7 e_t7 => ?_ <;> walk_at "rd"
        refine rd_catX fun t8 H8 s_H8 e_t8 => ?_ <;> walk_at "rd"
        refine rd_slB (ys := xs.drop (an + 1)) (e := cutV_from (n := an + 1)) fun t9 H9 s_H9 e_t9 => ?_ <;> walk_at "rd"
        refine rd_catX fun t10 H10 s_H10 e_t10 => ?_ <;> walk_at "rd"
        refine q t10 _ H10 (by walk_at "bx") (by walk_at "kb") e_t10 (by simp only [List.length_append, List.length_take, List.length_drop, List.length_cons, List.length_nil]; omega) fun y hy => ?_
        have s510 : Same H5 H10 := by walk_at "sm"
        refine IsT.keep s510 ?_
        rcases List.mem_append.mp hy with hy | hy
        · rcases List.mem_append.mp hy with hy | hy
          · exact hT5 _ (List.mem_of_mem_take hy)
          · rw [List.mem_singleton.mp hy]
            exact hth5
        · exact hT5 _ (List.mem_of_mem_drop hy)
def sp_law (K : PySem.W.Frag) : Sp := fun vs H Q _ => ∃ (a : Addr) (ns : List Int), vs = [.ref a] ∧ SqL K H a (ns.map V.int) ∧ ns.length ≤ 63 ∧ ∀ H', Q (.bl true) H'
theorem many_mem {x : V} (h : x ∈ [V.int 1, .int 1, .int 2, .int 3, .int 0]) : ∃ m : Int, 0 ≤ m ∧ m ≤ 3 ∧ x = .int m := by
  simp only [List.mem_cons, List.not_mem_nil, or_false] at h
  rcases h with rfl | rfl | rfl | rfl | rfl <;> exact ⟨_, by decide, by decide, rfl⟩
theorem kind_mem {x : V} (h : x ∈ [V.str (Str.ofString "vessel"), .str (Str.ofString "breaker"), .str (Str.ofString "ship")]) : ∃ k, k < 3 ∧ x = .str (veKind k) := by
  simp only [List.mem_cons, List.not_mem_nil, or_false] at h
  rcases h with rfl | rfl | rfl
  · exact ⟨0, by decide, rfl⟩
  · exact ⟨1, by decide, rfl⟩
  · exact ⟨2, by decide, rfl⟩
theorem veV_len {v : Ve} (h : v.kind < 3) : (veV v).length = rowN v.kind := by
  match e : v.kind, h with
  | 0, _ => rw [veV_0 e]; rfl
  | 1, _ => rw [veV_1 e]; rfl
  | 2, _ => rw [veV_2 e]; rfl
theorem in_nB {i lo hi : Int} (h0 : lo ≤ i) (h1 : i ≤ hi) : badN (.int i, lo, hi) = false := by
  simp only [badN, withinV, decide_eq_true h0, decide_eq_true h1]
  rfl
theorem veV_ok {v : Ve} (h : veOk v) (n : veNames v) : kRef v.kind (veV v) = none := by
  obtain ⟨h3, a0, a1, b0, b1, c0, c1, d0, d1⟩ := h
  obtain ⟨n1, n2, n3⟩ := n
  have nn : ∀ {z : Str}, nameS z = true → (!nameV (.str z)) = false := fun h => by simp only [nameV, h, Bool.not_true]
  match e : v.kind, h3 with
  | 0, _ =>
    rw [veV_0 e]
    exact due_4 (show [V.str v.name, .str v.port].find? _ = none by simp only [List.find?_cons, List.find?_nil, nn n1, nn n2]) (show [(V.int v.hour, (0 : Int), (1000000 : Int)), (.int v.strength, 0, 1000000), (.int v.draught, 0, 1000)].find? badN = none by simp only [List.find?_cons, List.find?_nil, in_nB a0 a1, in_nB b0 b1, in_nB c0 c1])
  | 1, _ =>
    rw [veV_1 e]
    exact due_4 (show [V.str v.name, .str v.port].find? _ = none by simp only [List.find?_cons, List.find?_nil, nn n1, nn n2]) (show [(V.int v.hour, (0 : Int), (1000000 : Int)), (.int v.strength, 0, 1000000), (.int v.draught, 0, 1000), (.int v.cut, 1, 1000000)].find? badN = none by simp only [List.find?_cons, List.find?_nil, in_nB a0 a1, in_nB b0 b1, in_nB c0 c1, in_nB d0 d1])
  | 2, _ =>
    rw [veV_2 e]
    exact due_4 (show [V.str v.name, .str v.port, .str v.goal].find? _ = none by simp only [List.find?_cons, List.find?_nil, nn n1, nn n2, nn n3]) (show [(V.int v.hour, (0 : Int), (1000000 : Int)), (.int v.strength, 0, 1000000), (.int v.draught, 0, 1000)].find? badN = none by simp only [List.find?_cons, List.find?_nil, in_nB a0 a1, in_nB b0 b1, in_nB c0 c1])
theorem veV_T {H : Hp} {v : Ve} (h : veOk v) (n : veNames v) : ∀ x ∈ veV v, IsT H x := by
  obtain ⟨h3, a0, a1, b0, b1, c0, c1, d0, d1⟩ := h
  obtain ⟨n1, n2, n3⟩ := n
  match e : v.kind, h3 with
  | 0, _ => rw [veV_0 e]; walk_at "its"
  | 1, _ => rw [veV_1 e]; walk_at "its"
  | 2, _ => rw [veV_2 e]; walk_at "its"
theorem ok_law (T : Tx K mg) : FnOkG P w K mg base 9 T.a_law T.d_law ["_law_script"] (sp_law K) := by
  refine okG T.F_law sc_law (fun vs H Q E h => ?_) (fun cdv A outer s H vs Q E hG hr h => ?_)
  · obtain ⟨a, ns, rfl, _⟩ := h
    rfl
  · refine ⟨_, (pss_cons (ps_for PassesOwn.never rfl (pi_range1 (by rfl) T.m_range (pa_cons (pe_callB (max2 rfl) (by rfl) T.m_max (by decide +kernel) (pa_cons pe_int (pa_cons (pe_callB (min2 rfl) (by rfl) T.m_min (by decide +kernel) (pa_cons pe_int (pa_cons (pe_callB (lenK (K := K) rfl) (by rfl) T.m_len (by decide +kernel) (pa_cons (pv 0) pa_nil)) pa_nil))) pa_nil))) pa_nil)) (pg_name (i := 1) sc_law.nd rfl (Or.inl rfl))
        (pss_cons (ps_set (i := 2) sc_law.nd rfl (Or.inl rfl) (pe_call (ok_law_box T) (hr.mono (by decide)) (by rfl) T.g_law_box T.F_law_box.kp T.b_law_box .nil pass0 (pa_cons (pe_call (ok_law_cell T) (hr.mono (by decide)) (by rfl) T.g_law_cell T.F_law_cell.kp T.b_law_cell .nil pass0 (pa_cons (pv 0) (pa_cons (pv 1) pa_nil))) pa_nil)))
        (pss_cons (ps_set (i := 3) sc_law.nd rfl (Or.inl rfl) (pe_ix (ixLK (K := K) rfl) (pe_lst (pa_cons pe_int (pa_cons pe_int (pa_cons pe_int (pa_cons pe_int (pa_cons pe_int pa_nil)))))) (pe_call (ok_law_take T) (hr.mono (by decide)) (by rfl) T.g_law_take T.F_law_take.kp T.b_law_take .nil pass0 (pa_cons (pv 2) (pa_cons pe_int pa_nil))) (fun _ _ => rfl)))
        (pss_cons (ps_set (i := 4) sc_law.nd rfl (Or.inl rfl) (pe_ix (ixLK (K := K) rfl) (pe_lst (pa_cons pe_str (pa_cons pe_str (pa_cons pe_str pa_nil)))) (pe_call (ok_law_take T) (hr.mono (by decide)) (by rfl) T.g_law_take T.F_law_take.kp T.b_law_take .nil pass0 (pa_cons (pv 2) (pa_cons pe_int pa_nil))) (fun _ _ => rfl)))
        (pss_cons (ps_set (i := 5) sc_law.nd rfl (Or.inl rfl) (pe_call (ok_law_names T) (hr.mono (by decide)) (by rfl) T.g_law_names T.F_law_names.kp T.b_law_names .nil pass0 (pa_cons (pv 2) (pa_cons pe_int pa_nil))))
        (pss_cons (ps_set (i := 6) sc_law.nd rfl (Or.inl rfl) (pe_call (ok_law_vessel_row T) (hr.mono (by decide)) (by rfl) T.g_law_vessel_row T.F_law_vessel_row.kp T.b_law_vessel_row .nil pass0 (pa_cons (pv 2) (pa_cons (pv 4) (pa_cons (pe_ix (ixLK (K := K) rfl) (pv 5) pe_int (fun _ _ => rfl)) (pa_cons (pv 5) pa_nil))))))
        (pss_cons (ps_if (pt_cmpR (neW (K := K) rfl hr.units) (pe_callG hG (ok_law_found T) (hr.mono (by decide)) (by rfl) T.g_law_found T.F_law_found.kp T.b_law_found (pa_cons (pv 4) (pa_cons (pv 6) pa_nil))) (pe_tup (pa_cons pe_str (pa_cons pe_str pa_nil))) (nomark _))
        (pss_one (ps_ret pe_bl))
        pss_nil)
        (pss_one (ps_for PassesOwn.never rfl (pi_range1 (by rfl) T.m_range (pa_cons (pv 3) pa_nil)) (pg_name (i := 7) sc_law.nd rfl (Or.inl rfl))
        (pss_cons (ps_set (i := 6) sc_law.nd rfl (Or.inl rfl) (pe_call (ok_law_spoilt T) (hr.mono (by decide)) (by rfl) T.g_law_spoilt T.F_law_spoilt.kp T.b_law_spoilt .nil pass0 (pa_cons (pv 2) (pa_cons (pv 4) (pa_cons (pv 6) pa_nil)))))
        (pss_one (ps_if (pt_cmpR (neW (K := K) rfl hr.units) (pe_callG hG (ok_law_found T) (hr.mono (by decide)) (by rfl) T.g_law_found T.F_law_found.kp T.b_law_found (pa_cons (pv 4) (pa_cons (pv 6) pa_nil))) (pe_callG hG (ok_law_due T) (hr.mono (by decide)) (by rfl) T.g_law_due T.F_law_due.kp T.b_law_due (pa_cons (pv 4) (pa_cons (pv 6) pa_nil))) (nomark _))
        (pss_one (ps_ret pe_bl))
        pss_nil))))))))))))
        (pss_one (ps_ret pe_bl))), ?_⟩
    obtain ⟨a, ns, rfl, hS, hlen, q⟩ := h
    walk_at "rd"
    refine rd_min2 fun m hm => ?_ <;> walk_at "rd"
    refine rd_max2 fun m2 hm2 => ?_ <;> walk_at "rd"
    rw [List.length_map] at hm
    refine rd_r1 (by omega) (by omega) ?_
    refine forgo walk_range (fun i σ' H' => Same H H' ∧ ∃ x2 x3 x4 x5 x6 x7 x8, σ' = [some (.ref a), x2, x3, x4, x5, x6, x7, x8]) ⟨Same.refl _, none, none, none, none, none, none, none, rfl⟩ (fun _ _ _ _ _ => trivial) ?_ ?_
    · rintro i x σ' Ha Hb hi ⟨sa, x2, x3, x4, x5, x6, x7, x8, rfl⟩ ⟨e0, rfl⟩
      subst e0
      walk_at "rd"
      refine rd_law_cell fun z => ?_ <;> walk_at "rd"
      refine rd_law_box fun p Hc n_p s_Hc b_Hc => ?_ <;> walk_at "rd"
      refine rd_lstB fun l2 Hd n_l2 s_Hd e_l2 => ?_ <;> walk_at "rd"
      refine rd_takeB fun r2 He r2_0 r2_1 b_He k_He => ?_ <;> walk_at "rd"
      refine rd_ixAny1 (xs := [_, _, _, _, _]) (by walk_at "sl") r2_0 (by simpa using r2_1) fun kv hkv => ?_
      obtain ⟨mm, mm0, mm1, rfl⟩ := many_mem hkv
      walk_at "rd"
      refine rd_lstB fun l4 Hf n_l4 s_Hf e_l4 => ?_ <;> walk_at "rd"
      refine rd_takeB fun r4 Hg r4_0 r4_1 b_Hg k_Hg => ?_ <;> walk_at "rd"
      refine rd_ixAny1 (xs := [_, _, _]) (by walk_at "sl") r4_0 (by simpa using r4_1) fun kv2 hkv2 => ?_
      obtain ⟨k, hk3, rfl⟩ := kind_mem hkv2
      walk_at "rd"
      refine rd_law_names fun l3 ys Hh b_Hh k_Hh e_l3 ne_l3 hys hyn hnd => ?_
      match ys, hys with
      | [y0, y1, y2], _ =>
        have n0 := hyn y0 (by simp)
        have n1 := hyn y1 (by simp)
        have n2 := hyn y2 (by simp)
        have e_l3 : Hh l3 = some (.lst [.str y0, .str y1, .str y2]) := e_l3
        walk_at "rd"
        refine ⟨p, l3, _, k, y0, [y0, y1, y2], rfl, hk3, by walk_at "bx", by omega, ne_l3, e_l3, by simp, by simp, fun v t Hi vk vn vp vg vok b_Hi k_Hi ht => ?_⟩
        have hn : veNames v := ⟨by rw [vn]; exact n0, hyn _ vp, hyn _ vg⟩
        have hl := veV_len vok.1
        rw [vk] at hl
        have hr := veV_ok vok hn
        rw [vk] at hr
        have hT := veV_T (H := Hi) vok hn
        walk_at "rd"
        refine ⟨k, t, veV v, rfl, hk3, hl, ht, hT, fun p2 Hj tag zz s_Hj e_p2 told => ?_⟩
        rw [hr] at told
        obtain ⟨rfl, rfl⟩ := told
        walk_at "rd"
        refine rd_tupB fun p3 Hk n_p3 s_Hk e_p3 => ?_ <;> walk_at "rd"
        refine rd_neW (n := 1) (eqS_tup (by walk_at "st") (by walk_at "st") (AlkAll.flat (xs := [.str (Str.ofString "made"), .str (Str.ofString "")]) (by simp [flatV]))) ?_
        walk_at "rd"
        refine rd_r1 (by omega) (by omega) ?_
        have bHi : BoxAt Hk p (0 + 1 + 1 + 20 + 10) := by walk_at "bx"
        have sHi : Same Hb Hk := by walk_at "sm"
        refine forgo walk_range (fun j σ' H' => Same Hb H' ∧ BoxAt H' p (32 + 5 * j) ∧ (∃ t xs, H' t = some (.tup xs) ∧ xs.length = rowN k ∧ (∀ x ∈ xs, IsT H' x) ∧ ∃ x2 x4 x6 x9, σ' = [some (.ref a), x2, some (.ref p), x4, some (.str (veKind k)), x6, some (.ref t), x9])) ?_ (fun _ _ _ _ _ => trivial) ?_ ?_
        · exact ⟨sHi, bHi.mono (by omega), t, veV v, s_Hk _ _ (s_Hj _ _ ht), hl, fun x hx => (hT x hx).keep (s_Hj.trans s_Hk), _, _, _, _, rfl⟩
        · rintro j y σ' Hl Hm hj ⟨sj, bj, ⟨t, xs, ht, hl, hT, w2, w4, w6, w9, rfl⟩⟩ ⟨e0, rfl⟩
          subst e0
          walk_at "rd"
          refine ⟨p, t, _, k, xs, rfl, hk3, bj, by omega, ht, hl, hT, fun t2 ys Hn bl kl et2 hl2 hT2 => ?_⟩
          walk_at "rd"
          refine ⟨k, t2, ys, rfl, hk3, hl2, et2, hT2, fun p4 Ho tag zz s_Ho e_p4 told => ?_⟩
          walk_at "rd"
          refine ⟨k, t2, ys, rfl, hk3, hl2, s_Ho _ _ et2, fun x hx => (hT2 x hx).keep s_Ho, fun p5 Hp tag2 zz2 s_Hp e_p5 told2 => ?_⟩
          walk_at "rd"
          obtain ⟨rfl, rfl⟩ := (told.keep s_Hp).det told2
          refine rd_neW (n := 1) (eqS_tup (sqT_of (s_Hp _ _ e_p4)) (sqT_of e_p5) (AlkAll.flat (by simp [flatV]))) ?_
          walk_at "rd"
          exact ⟨by walk_at "sm", ((bl.keep s_Ho).keep s_Hp).mono (by omega), t2, _, s_Hp _ _ (s_Ho _ _ et2), hl2, fun x hx => ((hT2 x hx).keep s_Ho).keep s_Hp, _, _, _, _, rfl⟩
        · rintro σ' Hl ⟨sj, bj, ⟨t, xs, ht, hl, hT, w2, w4, w6, w9, rfl⟩⟩
          walk_at "rd"
          exact ⟨sa.trans sj, _, _, _, _, _, _, _, rfl⟩
    · rintro σ' Hd ⟨sd, y2, y3, y4, y5, y6, y7, y8, rfl⟩
      walk_at "rd"
      exact q _

end
theorem all_mk {l : PySem.W.OpenLaw} {w : World} {K : PySem.W.Frag} {h : Heap} {mg : Str → Option Value} {fa : Addr} (X : K.In h) (G : h.Ns mainGlobals mg) (hfa : mg "law" = some (.ref fa))
    {C_IceError : Addr} (aC_IceError : PySem.W.nsIn K mainGlobals "IceError" = some (some (.ref C_IceError)))
    {C_NoName : Addr} (aC_NoName : PySem.W.nsIn K mainGlobals "NoName" = some (some (.ref C_NoName)))
    {C_NoNumber : Addr} (aC_NoNumber : PySem.W.nsIn K mainGlobals "NoNumber" = some (some (.ref C_NoNumber)))
    {C_Vessel : Addr} (aC_Vessel : PySem.W.nsIn K mainGlobals "Vessel" = some (some (.ref C_Vessel)))
    {C_Breaker : Addr} (aC_Breaker : PySem.W.nsIn K mainGlobals "Breaker" = some (some (.ref C_Breaker)))
    {C_Ship : Addr} (aC_Ship : PySem.W.nsIn K mainGlobals "Ship" = some (some (.ref C_Ship)))
    {f0 : Addr} {oc0 kV0 dc0 pm0 cd0 ct0 : Value} {od0 an0 : Option Addr} {sl0 : Array (Option Value)}
    (a0 : PySem.W.nsIn K mainGlobals "_wall" = some (some (.ref f0))) (l0 : K.lookup f0 = some ⟨oc0, od0, .func (PySem.W.fnOf "_wall" "_wall" (defArgs s_wall) (defBody s_wall) (defScope s_wall) .none kV0 dc0 pm0 an0 cd0 ct0), sl0⟩) (c0 : PySem.W.codeIn K cd0 "_wall" = true) (k0 : PySem.W.keepIn K (.ref f0) = true)
    {f1 : Addr} {oc1 kV1 dc1 pm1 cd1 ct1 : Value} {od1 an1 : Option Addr} {sl1 : Array (Option Value)}
    (a1 : PySem.W.findIn K (.ref C_NoName) "__init__" = some (some (.ref f1))) (l1 : K.lookup f1 = some ⟨oc1, od1, .func (PySem.W.fnOf "__init__" "NoName.__init__" (defArgs s_NoName___init__) (defBody s_NoName___init__) (defScope s_NoName___init__) .none kV1 dc1 pm1 an1 cd1 ct1), sl1⟩) (c1 : PySem.W.codeIn K cd1 "NoName.__init__" = true) (k1 : PySem.W.keepIn K (.ref f1) = true)
    {f2 : Addr} {oc2 kV2 dc2 pm2 cd2 ct2 : Value} {od2 an2 : Option Addr} {sl2 : Array (Option Value)}
    (a2 : PySem.W.findIn K (.ref C_NoNumber) "__init__" = some (some (.ref f2))) (l2 : K.lookup f2 = some ⟨oc2, od2, .func (PySem.W.fnOf "__init__" "NoNumber.__init__" (defArgs s_NoNumber___init__) (defBody s_NoNumber___init__) (defScope s_NoNumber___init__) .none kV2 dc2 pm2 an2 cd2 ct2), sl2⟩) (c2 : PySem.W.codeIn K cd2 "NoNumber.__init__" = true) (k2 : PySem.W.keepIn K (.ref f2) = true)
    {f3 : Addr} {oc3 kV3 dc3 pm3 cd3 ct3 : Value} {od3 an3 : Option Addr} {sl3 : Array (Option Value)}
    (a3 : PySem.W.nsIn K mainGlobals "is_whole" = some (some (.ref f3))) (l3 : K.lookup f3 = some ⟨oc3, od3, .func (PySem.W.fnOf "is_whole" "is_whole" (defArgs s_is_whole) (defBody s_is_whole) (defScope s_is_whole) .none kV3 dc3 pm3 an3 cd3 ct3), sl3⟩) (c3 : PySem.W.codeIn K cd3 "is_whole" = true) (k3 : PySem.W.keepIn K (.ref f3) = true)
    {f4 : Addr} {oc4 kV4 dc4 pm4 cd4 ct4 : Value} {od4 an4 : Option Addr} {sl4 : Array (Option Value)}
    (a4 : PySem.W.nsIn K mainGlobals "is_within" = some (some (.ref f4))) (l4 : K.lookup f4 = some ⟨oc4, od4, .func (PySem.W.fnOf "is_within" "is_within" (defArgs s_is_within) (defBody s_is_within) (defScope s_is_within) .none kV4 dc4 pm4 an4 cd4 ct4), sl4⟩) (c4 : PySem.W.codeIn K cd4 "is_within" = true) (k4 : PySem.W.keepIn K (.ref f4) = true)
    {f5 : Addr} {oc5 kV5 dc5 pm5 cd5 ct5 : Value} {od5 an5 : Option Addr} {sl5 : Array (Option Value)}
    (a5 : PySem.W.nsIn K mainGlobals "is_name" = some (some (.ref f5))) (l5 : K.lookup f5 = some ⟨oc5, od5, .func (PySem.W.fnOf "is_name" "is_name" (defArgs s_is_name) (defBody s_is_name) (defScope s_is_name) .none kV5 dc5 pm5 an5 cd5 ct5), sl5⟩) (c5 : PySem.W.codeIn K cd5 "is_name" = true) (k5 : PySem.W.keepIn K (.ref f5) = true)
    {f6 : Addr} {oc6 kV6 dc6 pm6 cd6 ct6 : Value} {od6 an6 : Option Addr} {sl6 : Array (Option Value)}
    (a6 : PySem.W.nsIn K mainGlobals "need_names" = some (some (.ref f6))) (l6 : K.lookup f6 = some ⟨oc6, od6, .func (PySem.W.fnOf "need_names" "need_names" (defArgs s_need_names) (defBody s_need_names) (defScope s_need_names) .none kV6 dc6 pm6 an6 cd6 ct6), sl6⟩) (c6 : PySem.W.codeIn K cd6 "need_names" = true) (k6 : PySem.W.keepIn K (.ref f6) = true)
    {f7 : Addr} {oc7 kV7 dc7 pm7 cd7 ct7 : Value} {od7 an7 : Option Addr} {sl7 : Array (Option Value)}
    (a7 : PySem.W.nsIn K mainGlobals "need_numbers" = some (some (.ref f7))) (l7 : K.lookup f7 = some ⟨oc7, od7, .func (PySem.W.fnOf "need_numbers" "need_numbers" (defArgs s_need_numbers) (defBody s_need_numbers) (defScope s_need_numbers) .none kV7 dc7 pm7 an7 cd7 ct7), sl7⟩) (c7 : PySem.W.codeIn K cd7 "need_numbers" = true) (k7 : PySem.W.keepIn K (.ref f7) = true)
    {f8 : Addr} {oc8 kV8 dc8 pm8 cd8 ct8 : Value} {od8 an8 : Option Addr} {sl8 : Array (Option Value)}
    (a8 : PySem.W.findIn K (.ref C_Vessel) "__init__" = some (some (.ref f8))) (l8 : K.lookup f8 = some ⟨oc8, od8, .func (PySem.W.fnOf "__init__" "Vessel.__init__" (defArgs s_Vessel___init__) (defBody s_Vessel___init__) (defScope s_Vessel___init__) .none kV8 dc8 pm8 an8 cd8 ct8), sl8⟩) (c8 : PySem.W.codeIn K cd8 "Vessel.__init__" = true) (k8 : PySem.W.keepIn K (.ref f8) = true)
    {f9 : Addr} {oc9 kV9 dc9 pm9 cd9 ct9 : Value} {od9 an9 : Option Addr} {sl9 : Array (Option Value)}
    (a9 : PySem.W.findIn K (.ref C_Vessel) "settle" = some (some (.ref f9))) (l9 : K.lookup f9 = some ⟨oc9, od9, .func (PySem.W.fnOf "settle" "Vessel.settle" (defArgs s_Vessel_settle) (defBody s_Vessel_settle) (defScope s_Vessel_settle) .none kV9 dc9 pm9 an9 cd9 ct9), sl9⟩) (c9 : PySem.W.codeIn K cd9 "Vessel.settle" = true) (k9 : PySem.W.keepIn K (.ref f9) = true)
    {f10 : Addr} {oc10 kV10 dc10 pm10 cd10 ct10 : Value} {od10 an10 : Option Addr} {sl10 : Array (Option Value)}
    (a10 : PySem.W.findIn K (.ref C_Vessel) "thins" = some (some (.ref f10))) (l10 : K.lookup f10 = some ⟨oc10, od10, .func (PySem.W.fnOf "thins" "Vessel.thins" (defArgs s_Vessel_thins) (defBody s_Vessel_thins) (defScope s_Vessel_thins) .none kV10 dc10 pm10 an10 cd10 ct10), sl10⟩) (c10 : PySem.W.codeIn K cd10 "Vessel.thins" = true) (k10 : PySem.W.keepIn K (.ref f10) = true)
    {f11 : Addr} {oc11 kV11 dc11 pm11 cd11 ct11 : Value} {od11 an11 : Option Addr} {sl11 : Array (Option Value)}
    (a11 : PySem.W.findIn K (.ref C_Breaker) "__init__" = some (some (.ref f11))) (l11 : K.lookup f11 = some ⟨oc11, od11, .func (PySem.W.fnOf "__init__" "Breaker.__init__" (defArgs s_Breaker___init__) (defBody s_Breaker___init__) (defScope s_Breaker___init__) .none kV11 dc11 pm11 an11 cd11 ct11), sl11⟩) (c11 : PySem.W.codeIn K cd11 "Breaker.__init__" = true) (k11 : PySem.W.keepIn K (.ref f11) = true)
    {f12 : Addr} {oc12 kV12 dc12 pm12 cd12 ct12 : Value} {od12 an12 : Option Addr} {sl12 : Array (Option Value)}
    (a12 : PySem.W.findIn K (.ref C_Breaker) "thins" = some (some (.ref f12))) (l12 : K.lookup f12 = some ⟨oc12, od12, .func (PySem.W.fnOf "thins" "Breaker.thins" (defArgs s_Breaker_thins) (defBody s_Breaker_thins) (defScope s_Breaker_thins) .none kV12 dc12 pm12 an12 cd12 ct12), sl12⟩) (c12 : PySem.W.codeIn K cd12 "Breaker.thins" = true) (k12 : PySem.W.keepIn K (.ref f12) = true)
    {f13 : Addr} {oc13 kV13 dc13 pm13 cd13 ct13 : Value} {od13 an13 : Option Addr} {sl13 : Array (Option Value)}
    (a13 : PySem.W.findIn K (.ref C_Ship) "__init__" = some (some (.ref f13))) (l13 : K.lookup f13 = some ⟨oc13, od13, .func (PySem.W.fnOf "__init__" "Ship.__init__" (defArgs s_Ship___init__) (defBody s_Ship___init__) (defScope s_Ship___init__) .none kV13 dc13 pm13 an13 cd13 ct13), sl13⟩) (c13 : PySem.W.codeIn K cd13 "Ship.__init__" = true) (k13 : PySem.W.keepIn K (.ref f13) = true)
    {f14 : Addr} {oc14 kV14 dc14 pm14 cd14 ct14 : Value} {od14 an14 : Option Addr} {sl14 : Array (Option Value)}
    (a14 : PySem.W.nsIn K mainGlobals "_law_cell" = some (some (.ref f14))) (l14 : K.lookup f14 = some ⟨oc14, od14, .func (PySem.W.fnOf "_law_cell" "_law_cell" (defArgs s_law_cell) (defBody s_law_cell) (defScope s_law_cell) .none kV14 dc14 pm14 an14 cd14 ct14), sl14⟩) (c14 : PySem.W.codeIn K cd14 "_law_cell" = true) (k14 : PySem.W.keepIn K (.ref f14) = true)
    {f15 : Addr} {oc15 kV15 dc15 pm15 cd15 ct15 : Value} {od15 an15 : Option Addr} {sl15 : Array (Option Value)}
    (a15 : PySem.W.nsIn K mainGlobals "_law_box" = some (some (.ref f15))) (l15 : K.lookup f15 = some ⟨oc15, od15, .func (PySem.W.fnOf "_law_box" "_law_box" (defArgs s_law_box) (defBody s_law_box) (defScope s_law_box) .none kV15 dc15 pm15 an15 cd15 ct15), sl15⟩) (c15 : PySem.W.codeIn K cd15 "_law_box" = true) (k15 : PySem.W.keepIn K (.ref f15) = true)
    {f16 : Addr} {oc16 kV16 dc16 pm16 cd16 ct16 : Value} {od16 an16 : Option Addr} {sl16 : Array (Option Value)}
    (a16 : PySem.W.nsIn K mainGlobals "_law_take" = some (some (.ref f16))) (l16 : K.lookup f16 = some ⟨oc16, od16, .func (PySem.W.fnOf "_law_take" "_law_take" (defArgs s_law_take) (defBody s_law_take) (defScope s_law_take) .none kV16 dc16 pm16 an16 cd16 ct16), sl16⟩) (c16 : PySem.W.codeIn K cd16 "_law_take" = true) (k16 : PySem.W.keepIn K (.ref f16) = true)
    {f17 : Addr} {oc17 kV17 dc17 pm17 cd17 ct17 : Value} {od17 an17 : Option Addr} {sl17 : Array (Option Value)}
    (a17 : PySem.W.nsIn K mainGlobals "_law_names" = some (some (.ref f17))) (l17 : K.lookup f17 = some ⟨oc17, od17, .func (PySem.W.fnOf "_law_names" "_law_names" (defArgs s_law_names) (defBody s_law_names) (defScope s_law_names) .none kV17 dc17 pm17 an17 cd17 ct17), sl17⟩) (c17 : PySem.W.codeIn K cd17 "_law_names" = true) (k17 : PySem.W.keepIn K (.ref f17) = true)
    {f18 : Addr} {oc18 kV18 dc18 pm18 cd18 ct18 : Value} {od18 an18 : Option Addr} {sl18 : Array (Option Value)}
    (a18 : PySem.W.nsIn K mainGlobals "_law_number" = some (some (.ref f18))) (l18 : K.lookup f18 = some ⟨oc18, od18, .func (PySem.W.fnOf "_law_number" "_law_number" (defArgs s_law_number) (defBody s_law_number) (defScope s_law_number) .none kV18 dc18 pm18 an18 cd18 ct18), sl18⟩) (c18 : PySem.W.codeIn K cd18 "_law_number" = true) (k18 : PySem.W.keepIn K (.ref f18) = true)
    {f19 : Addr} {oc19 kV19 dc19 pm19 cd19 ct19 : Value} {od19 an19 : Option Addr} {sl19 : Array (Option Value)}
    (a19 : PySem.W.nsIn K mainGlobals "_law_odd" = some (some (.ref f19))) (l19 : K.lookup f19 = some ⟨oc19, od19, .func (PySem.W.fnOf "_law_odd" "_law_odd" (defArgs s_law_odd) (defBody s_law_odd) (defScope s_law_odd) .none kV19 dc19 pm19 an19 cd19 ct19), sl19⟩) (c19 : PySem.W.codeIn K cd19 "_law_odd" = true) (k19 : PySem.W.keepIn K (.ref f19) = true)
    {f20 : Addr} {oc20 kV20 dc20 pm20 cd20 ct20 : Value} {od20 an20 : Option Addr} {sl20 : Array (Option Value)}
    (a20 : PySem.W.nsIn K mainGlobals "_law_vessel_row" = some (some (.ref f20))) (l20 : K.lookup f20 = some ⟨oc20, od20, .func (PySem.W.fnOf "_law_vessel_row" "_law_vessel_row" (defArgs s_law_vessel_row) (defBody s_law_vessel_row) (defScope s_law_vessel_row) .none kV20 dc20 pm20 an20 cd20 ct20), sl20⟩) (c20 : PySem.W.codeIn K cd20 "_law_vessel_row" = true) (k20 : PySem.W.keepIn K (.ref f20) = true)
    {f21 : Addr} {oc21 kV21 dc21 pm21 cd21 ct21 : Value} {od21 an21 : Option Addr} {sl21 : Array (Option Value)}
    (a21 : PySem.W.nsIn K mainGlobals "_law_vessel" = some (some (.ref f21))) (l21 : K.lookup f21 = some ⟨oc21, od21, .func (PySem.W.fnOf "_law_vessel" "_law_vessel" (defArgs s_law_vessel) (defBody s_law_vessel) (defScope s_law_vessel) .none kV21 dc21 pm21 an21 cd21 ct21), sl21⟩) (c21 : PySem.W.codeIn K cd21 "_law_vessel" = true) (k21 : PySem.W.keepIn K (.ref f21) = true)
    {f22 : Addr} {oc22 kV22 dc22 pm22 cd22 ct22 : Value} {od22 an22 : Option Addr} {sl22 : Array (Option Value)}
    (a22 : PySem.W.nsIn K mainGlobals "_law_is_name" = some (some (.ref f22))) (l22 : K.lookup f22 = some ⟨oc22, od22, .func (PySem.W.fnOf "_law_is_name" "_law_is_name" (defArgs s_law_is_name) (defBody s_law_is_name) (defScope s_law_is_name) .none kV22 dc22 pm22 an22 cd22 ct22), sl22⟩) (c22 : PySem.W.codeIn K cd22 "_law_is_name" = true) (k22 : PySem.W.keepIn K (.ref f22) = true)
    {f23 : Addr} {oc23 kV23 dc23 pm23 cd23 ct23 : Value} {od23 an23 : Option Addr} {sl23 : Array (Option Value)}
    (a23 : PySem.W.nsIn K mainGlobals "_law_is_number" = some (some (.ref f23))) (l23 : K.lookup f23 = some ⟨oc23, od23, .func (PySem.W.fnOf "_law_is_number" "_law_is_number" (defArgs s_law_is_number) (defBody s_law_is_number) (defScope s_law_is_number) .none kV23 dc23 pm23 an23 cd23 ct23), sl23⟩) (c23 : PySem.W.codeIn K cd23 "_law_is_number" = true) (k23 : PySem.W.keepIn K (.ref f23) = true)
    {f24 : Addr} {oc24 kV24 dc24 pm24 cd24 ct24 : Value} {od24 an24 : Option Addr} {sl24 : Array (Option Value)}
    (a24 : PySem.W.nsIn K mainGlobals "_law_due" = some (some (.ref f24))) (l24 : K.lookup f24 = some ⟨oc24, od24, .func (PySem.W.fnOf "_law_due" "_law_due" (defArgs s_law_due) (defBody s_law_due) (defScope s_law_due) .none kV24 dc24 pm24 an24 cd24 ct24), sl24⟩) (c24 : PySem.W.codeIn K cd24 "_law_due" = true) (k24 : PySem.W.keepIn K (.ref f24) = true)
    {f25 : Addr} {oc25 kV25 dc25 pm25 cd25 ct25 : Value} {od25 an25 : Option Addr} {sl25 : Array (Option Value)}
    (a25 : PySem.W.nsIn K mainGlobals "_law_found" = some (some (.ref f25))) (l25 : K.lookup f25 = some ⟨oc25, od25, .func (PySem.W.fnOf "_law_found" "_law_found" (defArgs s_law_found) (defBody s_law_found) (defScope s_law_found) .none kV25 dc25 pm25 an25 cd25 ct25), sl25⟩) (c25 : PySem.W.codeIn K cd25 "_law_found" = true) (k25 : PySem.W.keepIn K (.ref f25) = true)
    {f26 : Addr} {oc26 kV26 dc26 pm26 cd26 ct26 : Value} {od26 an26 : Option Addr} {sl26 : Array (Option Value)}
    (a26 : PySem.W.nsIn K mainGlobals "_law_spoilt" = some (some (.ref f26))) (l26 : K.lookup f26 = some ⟨oc26, od26, .func (PySem.W.fnOf "_law_spoilt" "_law_spoilt" (defArgs s_law_spoilt) (defBody s_law_spoilt) (defScope s_law_spoilt) .none kV26 dc26 pm26 an26 cd26 ct26), sl26⟩) (c26 : PySem.W.codeIn K cd26 "_law_spoilt" = true) (k26 : PySem.W.keepIn K (.ref f26) = true)
    {f27 : Addr} {oc27 kV27 dc27 pm27 cd27 ct27 : Value} {od27 an27 : Option Addr} {sl27 : Array (Option Value)}
    (a27 : PySem.W.nsIn K mainGlobals "law" = some (some (.ref f27))) (l27 : K.lookup f27 = some ⟨oc27, od27, .func (PySem.W.fnOf "law" "law" (defArgs s_law) (defBody s_law) (defScope s_law) .none kV27 dc27 pm27 an27 cd27 ct27), sl27⟩) (c27 : PySem.W.codeIn K cd27 "law" = true) (k27 : PySem.W.keepIn K (.ref f27) = true)
    (z_all : PySem.W.nsIn K mainGlobals "all" = some none)
    (z_bool : PySem.W.nsIn K mainGlobals "bool" = some none)
    (z_enumerate : PySem.W.nsIn K mainGlobals "enumerate" = some none)
    (z_int : PySem.W.nsIn K mainGlobals "int" = some none)
    (z_isinstance : PySem.W.nsIn K mainGlobals "isinstance" = some none)
    (z_len : PySem.W.nsIn K mainGlobals "len" = some none)
    (z_max : PySem.W.nsIn K mainGlobals "max" = some none)
    (z_min : PySem.W.nsIn K mainGlobals "min" = some none)
    (z_range : PySem.W.nsIn K mainGlobals "range" = some none)
    (z_repr : PySem.W.nsIn K mainGlobals "repr" = some none)
    (z_str : PySem.W.nsIn K mainGlobals "str" = some none)
    {t_LETTERS : Tok} (y_LETTERS : PySem.W.nsIn K mainGlobals "LETTERS" = some (some (.str "abcdefghijklmnopqrstuvwxyz" t_LETTERS)))
    {t_LONGEST_NAME : Tok} (y_LONGEST_NAME : PySem.W.nsIn K mainGlobals "LONGEST_NAME" = some (some (.int 8 t_LONGEST_NAME)))
    {t_MOST_HOUR : Tok} (y_MOST_HOUR : PySem.W.nsIn K mainGlobals "MOST_HOUR" = some (some (.int 1000000 t_MOST_HOUR)))
    {t_MOST_ICE : Tok} (y_MOST_ICE : PySem.W.nsIn K mainGlobals "MOST_ICE" = some (some (.int 1000000 t_MOST_ICE)))
    {t_MOST_DEPTH : Tok} (y_MOST_DEPTH : PySem.W.nsIn K mainGlobals "MOST_DEPTH" = some (some (.int 1000 t_MOST_DEPTH)))
    (p1_Vessel : PySem.W.plainGet K C_Vessel Str.empty = true)
    (p2_Vessel : PySem.W.hasDictIn K C_Vessel = true)
    (p3_Vessel : PySem.W.plainOver K C_Vessel = true)
    (p4_Vessel : PySem.W.findIn K (.ref C_Vessel) "__setattr__" = some (some (.builtin "object.__setattr__")))
    (nn_Vessel_name : PySem.W.findIn K (.ref C_Vessel) "name" = some none)
    (nn_Vessel_port : PySem.W.findIn K (.ref C_Vessel) "port" = some none)
    (nn_Vessel_hour : PySem.W.findIn K (.ref C_Vessel) "hour" = some none)
    (nn_Vessel_strength : PySem.W.findIn K (.ref C_Vessel) "strength" = some none)
    (nn_Vessel_draught : PySem.W.findIn K (.ref C_Vessel) "draught" = some none)
    (p1_Breaker : PySem.W.plainGet K C_Breaker Str.empty = true)
    (p2_Breaker : PySem.W.hasDictIn K C_Breaker = true)
    (p3_Breaker : PySem.W.plainOver K C_Breaker = true)
    (p4_Breaker : PySem.W.findIn K (.ref C_Breaker) "__setattr__" = some (some (.builtin "object.__setattr__")))
    (nn_Breaker_name : PySem.W.findIn K (.ref C_Breaker) "name" = some none)
    (nn_Breaker_port : PySem.W.findIn K (.ref C_Breaker) "port" = some none)
    (nn_Breaker_hour : PySem.W.findIn K (.ref C_Breaker) "hour" = some none)
    (nn_Breaker_strength : PySem.W.findIn K (.ref C_Breaker) "strength" = some none)
    (nn_Breaker_draught : PySem.W.findIn K (.ref C_Breaker) "draught" = some none)
    (nn_Breaker_cut : PySem.W.findIn K (.ref C_Breaker) "cut" = some none)
    (p1_Ship : PySem.W.plainGet K C_Ship Str.empty = true)
    (p2_Ship : PySem.W.hasDictIn K C_Ship = true)
    (p3_Ship : PySem.W.plainOver K C_Ship = true)
    (p4_Ship : PySem.W.findIn K (.ref C_Ship) "__setattr__" = some (some (.builtin "object.__setattr__")))
    (nn_Ship_name : PySem.W.findIn K (.ref C_Ship) "name" = some none)
    (nn_Ship_port : PySem.W.findIn K (.ref C_Ship) "port" = some none)
    (nn_Ship_hour : PySem.W.findIn K (.ref C_Ship) "hour" = some none)
    (nn_Ship_strength : PySem.W.findIn K (.ref C_Ship) "strength" = some none)
    (nn_Ship_draught : PySem.W.findIn K (.ref C_Ship) "draught" = some none)
    (nn_Ship_goal : PySem.W.findIn K (.ref C_Ship) "goal" = some none)
    (mm_Breaker : PySem.W.makesIn K C_Breaker = true)
    (mi_Breaker : PySem.W.findIn K (.ref C_Breaker) "__init__" = some (some (.ref f11)))
    (mf_Breaker : PySem.W.isFn K (.ref f11) = true)
    (mq_Breaker : PySem.W.keepIn K (.ref C_Breaker) = true)
    (mm_Ship : PySem.W.makesIn K C_Ship = true)
    (mi_Ship : PySem.W.findIn K (.ref C_Ship) "__init__" = some (some (.ref f13)))
    (mf_Ship : PySem.W.isFn K (.ref f13) = true)
    (mq_Ship : PySem.W.keepIn K (.ref C_Ship) = true)
    (mm_Vessel : PySem.W.makesIn K C_Vessel = true)
    (mi_Vessel : PySem.W.findIn K (.ref C_Vessel) "__init__" = some (some (.ref f8)))
    (mf_Vessel : PySem.W.isFn K (.ref f8) = true)
    (mq_Vessel : PySem.W.keepIn K (.ref C_Vessel) = true)
    (ma_Breaker_settle : PySem.W.findIn K (.ref C_Breaker) "settle" = some (some (.ref f9)))
    (mb_Breaker_settle : PySem.W.isFn K (.ref f9) = true)
    (ma_Ship_settle : PySem.W.findIn K (.ref C_Ship) "settle" = some (some (.ref f9)))
    (mb_Ship_settle : PySem.W.isFn K (.ref f9) = true)
    (ma_Vessel_settle : PySem.W.findIn K (.ref C_Vessel) "settle" = some (some (.ref f9)))
    (mb_Vessel_settle : PySem.W.isFn K (.ref f9) = true)
    (ra_Vessel : PySem.W.readsIn K C_Vessel (.type "type") = true)
    (gb_Vessel : PySem.W.specialIn K (.ref C_Vessel) "__getattribute__" = some (some (.builtin "type.__getattribute__")))
    (ra_IceError : PySem.W.readsIn K C_IceError (.type "type") = true)
    (gb_IceError : PySem.W.specialIn K (.ref C_IceError) "__getattribute__" = some (some (.builtin "type.__getattribute__")))
    (vj_IceError : PySem.W.findCls K (.ref C_IceError) (.type "type") "__init__" = some (.val (.builtin "ValueError.__init__")))
    (cn_Vessel___init__ : PySem.W.findCls K (.ref C_Vessel) (.type "type") "__init__" = some (.val (.ref f8)))
    {nm_NoName q_NoName : Str} {N_NoName : Addr} {bs_NoName : List Value} {sn_NoName : List Str} {sub_NoName : List Value} {ab_NoName : Bool} {col_NoName : Option Bool} {dd_NoName : Option Addr} {m0_NoName m1_NoName m2_NoName m3_NoName m5_NoName : Option Value}
    (xl_NoName : K.lookup C_NoName = some (excClassObj nm_NoName q_NoName C_NoName N_NoName bs_NoName [.ref C_IceError, .type "ValueError", .type "Exception", .type "BaseException", .type "object"] true sn_NoName sub_NoName ab_NoName col_NoName dd_NoName m0_NoName m1_NoName m2_NoName m3_NoName m5_NoName "ValueError.__new__"))
    (xs_NoName : PySem.W.findIn K (.ref C_NoName) "__setattr__" = some (some (.builtin "object.__setattr__")))
    (xe_NoName : PySem.W.subIn K (.ref C_NoName) (.type "BaseException") = some true)
    (xt_NoName : PySem.W.typeIn K (.ref C_NoName) = some (.type "type"))
    (xk_NoName : PySem.W.keepIn K (.ref C_NoName) = true)
    (xy_NoName : PySem.W.typeIn K (.ref f1) = some (.type "function"))
    (xg_NoName : PySem.W.findIn K (.ref C_NoName) "__getattribute__" = some (some (.builtin "BaseException.__getattribute__")))
    (xh_NoName : PySem.W.findIn K (.ref C_NoName) "__getattr__" = some none)
    (xd_NoName : PySem.W.hasDictIn K C_NoName = true)
    (nn_NoName_found : PySem.W.findIn K (.ref C_NoName) "found" = some none)
    {nm_NoNumber q_NoNumber : Str} {N_NoNumber : Addr} {bs_NoNumber : List Value} {sn_NoNumber : List Str} {sub_NoNumber : List Value} {ab_NoNumber : Bool} {col_NoNumber : Option Bool} {dd_NoNumber : Option Addr} {m0_NoNumber m1_NoNumber m2_NoNumber m3_NoNumber m5_NoNumber : Option Value}
    (xl_NoNumber : K.lookup C_NoNumber = some (excClassObj nm_NoNumber q_NoNumber C_NoNumber N_NoNumber bs_NoNumber [.ref C_IceError, .type "ValueError", .type "Exception", .type "BaseException", .type "object"] true sn_NoNumber sub_NoNumber ab_NoNumber col_NoNumber dd_NoNumber m0_NoNumber m1_NoNumber m2_NoNumber m3_NoNumber m5_NoNumber "ValueError.__new__"))
    (xs_NoNumber : PySem.W.findIn K (.ref C_NoNumber) "__setattr__" = some (some (.builtin "object.__setattr__")))
    (xe_NoNumber : PySem.W.subIn K (.ref C_NoNumber) (.type "BaseException") = some true)
    (xt_NoNumber : PySem.W.typeIn K (.ref C_NoNumber) = some (.type "type"))
    (xk_NoNumber : PySem.W.keepIn K (.ref C_NoNumber) = true)
    (xy_NoNumber : PySem.W.typeIn K (.ref f2) = some (.type "function"))
    (xg_NoNumber : PySem.W.findIn K (.ref C_NoNumber) "__getattribute__" = some (some (.builtin "BaseException.__getattribute__")))
    (xh_NoNumber : PySem.W.findIn K (.ref C_NoNumber) "__getattr__" = some none)
    (xd_NoNumber : PySem.W.hasDictIn K C_NoNumber = true)
    (nn_NoNumber_found : PySem.W.findIn K (.ref C_NoNumber) "found" = some none)
    (xe_IceError : PySem.W.subIn K (.ref C_IceError) (.type "BaseException") = some true)
    (xt_IceError : PySem.W.typeIn K (.ref C_IceError) = some (.type "type"))
    (xc_IceError : PySem.W.isClsIn K C_IceError = true)
    (tf_NoName_IceError : PySem.W.subIn K (.ref C_NoName) (.ref C_IceError) = some true)
    (tf_NoNumber_IceError : PySem.W.subIn K (.ref C_NoNumber) (.ref C_IceError) = some true)
    (xc_NoName : PySem.W.isClsIn K C_NoName = true)
    (tf_NoName_NoName : PySem.W.subIn K (.ref C_NoName) (.ref C_NoName) = some true)
    (tf_NoNumber_NoName : PySem.W.subIn K (.ref C_NoNumber) (.ref C_NoName) = some false)
    (xc_NoNumber : PySem.W.isClsIn K C_NoNumber = true)
    (tf_NoName_NoNumber : PySem.W.subIn K (.ref C_NoName) (.ref C_NoNumber) = some false)
    (tf_NoNumber_NoNumber : PySem.W.subIn K (.ref C_NoNumber) (.ref C_NoNumber) = some true)
    : ∃ fd : FuncData, (∀ (s : Shared) (v : Value), BindsTo s fd ⟨[v], []⟩ [("_law_script", v)]) ∧ ∀ base : Heap, K.In base → base.Ns mainGlobals mg → FnOkG l.prog w K mg base 9 fa fd ["_law_script"] (sp_law K) := by
  have e := hfa.symm.trans (PySem.W.mg_of X G a27)
  cases e
  have F0 := fun_mk (st := s_wall) l0 c0 k0
  have b0 := F0.binds (ps := ["k"]) fun _ _ _ _ _ _ us hl => match us, hl with | [_], _ => rfl
  have F1 := fun_mk (st := s_NoName___init__) l1 c1 k1
  have b1 := F1.binds (ps := ["self", "found"]) fun _ _ _ _ _ _ us hl => match us, hl with | [_, _], _ => rfl
  have F2 := fun_mk (st := s_NoNumber___init__) l2 c2 k2
  have b2 := F2.binds (ps := ["self", "found"]) fun _ _ _ _ _ _ us hl => match us, hl with | [_, _], _ => rfl
  have F3 := fun_mk (st := s_is_whole) l3 c3 k3
  have b3 := F3.binds (ps := ["thing"]) fun _ _ _ _ _ _ us hl => match us, hl with | [_], _ => rfl
  have F4 := fun_mk (st := s_is_within) l4 c4 k4
  have b4 := F4.binds (ps := ["thing", "low", "high"]) fun _ _ _ _ _ _ us hl => match us, hl with | [_, _, _], _ => rfl
  have F5 := fun_mk (st := s_is_name) l5 c5 k5
  have b5 := F5.binds (ps := ["thing"]) fun _ _ _ _ _ _ us hl => match us, hl with | [_], _ => rfl
  have F6 := fun_mk (st := s_need_names) l6 c6 k6
  have b6 := F6.binds (ps := ["things"]) fun _ _ _ _ _ _ us hl => match us, hl with | [_], _ => rfl
  have F7 := fun_mk (st := s_need_numbers) l7 c7 k7
  have b7 := F7.binds (ps := ["rows"]) fun _ _ _ _ _ _ us hl => match us, hl with | [_], _ => rfl
  have F8 := fun_mk (st := s_Vessel___init__) l8 c8 k8
  have b8 := F8.binds (ps := ["self", "name", "port", "hour", "strength", "draught"]) fun _ _ _ _ _ _ us hl => match us, hl with | [_, _, _, _, _, _], _ => rfl
  have F9 := fun_mk (st := s_Vessel_settle) l9 c9 k9
  have b9 := F9.binds (ps := ["self", "name", "port", "hour", "strength", "draught"]) fun _ _ _ _ _ _ us hl => match us, hl with | [_, _, _, _, _, _], _ => rfl
  have F10 := fun_mk (st := s_Vessel_thins) l10 c10 k10
  have b10 := F10.binds (ps := ["self"]) fun _ _ _ _ _ _ us hl => match us, hl with | [_], _ => rfl
  have F11 := fun_mk (st := s_Breaker___init__) l11 c11 k11
  have b11 := F11.binds (ps := ["self", "name", "port", "hour", "strength", "draught", "cut"]) fun _ _ _ _ _ _ us hl => match us, hl with | [_, _, _, _, _, _, _], _ => rfl
  have F12 := fun_mk (st := s_Breaker_thins) l12 c12 k12
  have b12 := F12.binds (ps := ["self"]) fun _ _ _ _ _ _ us hl => match us, hl with | [_], _ => rfl
  have F13 := fun_mk (st := s_Ship___init__) l13 c13 k13
  have b13 := F13.binds (ps := ["self", "name", "port", "goal", "hour", "strength", "draught"]) fun _ _ _ _ _ _ us hl => match us, hl with | [_, _, _, _, _, _, _], _ => rfl
  have F14 := fun_mk (st := s_law_cell) l14 c14 k14
  have b14 := F14.binds (ps := ["_law_script", "_law_k"]) fun _ _ _ _ _ _ us hl => match us, hl with | [_, _], _ => rfl
  have F15 := fun_mk (st := s_law_box) l15 c15 k15
  have b15 := F15.binds (ps := ["_law_cell_here"]) fun _ _ _ _ _ _ us hl => match us, hl with | [_], _ => rfl
  have F16 := fun_mk (st := s_law_take) l16 c16 k16
  have b16 := F16.binds (ps := ["_law_box_here", "_law_many"]) fun _ _ _ _ _ _ us hl => match us, hl with | [_, _], _ => rfl
  have F17 := fun_mk (st := s_law_names) l17 c17 k17
  have b17 := F17.binds (ps := ["_law_box_here", "_law_many"]) fun _ _ _ _ _ _ us hl => match us, hl with | [_, _], _ => rfl
  have F18 := fun_mk (st := s_law_number) l18 c18 k18
  have b18 := F18.binds (ps := ["_law_box_here", "_law_low", "_law_high"]) fun _ _ _ _ _ _ us hl => match us, hl with | [_, _, _], _ => rfl
  have F19 := fun_mk (st := s_law_odd) l19 c19 k19
  have b19 := F19.binds (ps := ["_law_box_here"]) fun _ _ _ _ _ _ us hl => match us, hl with | [_], _ => rfl
  have F20 := fun_mk (st := s_law_vessel_row) l20 c20 k20
  have b20 := F20.binds (ps := ["_law_box_here", "_law_kind", "_law_name", "_law_ports"]) fun _ _ _ _ _ _ us hl => match us, hl with | [_, _, _, _], _ => rfl
  have F21 := fun_mk (st := s_law_vessel) l21 c21 k21
  have b21 := F21.binds (ps := ["_law_kind", "_law_row"]) fun _ _ _ _ _ _ us hl => match us, hl with | [_, _], _ => rfl
  have F22 := fun_mk (st := s_law_is_name) l22 c22 k22
  have b22 := F22.binds (ps := ["_law_thing"]) fun _ _ _ _ _ _ us hl => match us, hl with | [_], _ => rfl
  have F23 := fun_mk (st := s_law_is_number) l23 c23 k23
  have b23 := F23.binds (ps := ["_law_thing", "_law_low", "_law_high"]) fun _ _ _ _ _ _ us hl => match us, hl with | [_, _, _], _ => rfl
  have F24 := fun_mk (st := s_law_due) l24 c24 k24
  have b24 := F24.binds (ps := ["_law_kind", "_law_row"]) fun _ _ _ _ _ _ us hl => match us, hl with | [_, _], _ => rfl
  have F25 := fun_mk (st := s_law_found) l25 c25 k25
  have b25 := F25.binds (ps := ["_law_kind", "_law_row"]) fun _ _ _ _ _ _ us hl => match us, hl with | [_, _], _ => rfl
  have F26 := fun_mk (st := s_law_spoilt) l26 c26 k26
  have b26 := F26.binds (ps := ["_law_box_here", "_law_kind", "_law_row"]) fun _ _ _ _ _ _ us hl => match us, hl with | [_, _, _], _ => rfl
  have F27 := fun_mk (st := s_law) l27 c27 k27
  have b27 := F27.binds (ps := ["_law_script"]) fun _ _ _ _ _ _ us hl => match us, hl with | [_], _ => rfl
  exact ⟨_, fun s v => .of_eq rfl, fun base _ _ => ok_law (T := { a_IceError := C_IceError, g_IceError := PySem.W.mg_of X G aC_IceError, a_NoName := C_NoName, g_NoName := PySem.W.mg_of X G aC_NoName, a_NoNumber := C_NoNumber, g_NoNumber := PySem.W.mg_of X G aC_NoNumber, a_Vessel := C_Vessel, g_Vessel := PySem.W.mg_of X G aC_Vessel, a_Breaker := C_Breaker, g_Breaker := PySem.W.mg_of X G aC_Breaker, a_Ship := C_Ship, g_Ship := PySem.W.mg_of X G aC_Ship, a_wall := f0, d_wall := _, F_wall := F0, g_wall := PySem.W.mg_of X G a0, b_wall := b0, a_NoName___init__ := f1, d_NoName___init__ := _, F_NoName___init__ := F1, b_NoName___init__ := b1, a_NoNumber___init__ := f2, d_NoNumber___init__ := _, F_NoNumber___init__ := F2, b_NoNumber___init__ := b2, a_is_whole := f3, d_is_whole := _, F_is_whole := F3, g_is_whole := PySem.W.mg_of X G a3, b_is_whole := b3, a_is_within := f4, d_is_within := _, F_is_within := F4, g_is_within := PySem.W.mg_of X G a4, b_is_within := b4, a_is_name := f5, d_is_name := _, F_is_name := F5, g_is_name := PySem.W.mg_of X G a5, b_is_name := b5, a_need_names := f6, d_need_names := _, F_need_names := F6, g_need_names := PySem.W.mg_of X G a6, b_need_names := b6, a_need_numbers := f7, d_need_numbers := _, F_need_numbers := F7, g_need_numbers := PySem.W.mg_of X G a7, b_need_numbers := b7, a_Vessel___init__ := f8, d_Vessel___init__ := _, F_Vessel___init__ := F8, b_Vessel___init__ := b8, a_Vessel_settle := f9, d_Vessel_settle := _, F_Vessel_settle := F9, b_Vessel_settle := b9, a_Vessel_thins := f10, d_Vessel_thins := _, F_Vessel_thins := F10, b_Vessel_thins := b10, a_Breaker___init__ := f11, d_Breaker___init__ := _, F_Breaker___init__ := F11, b_Breaker___init__ := b11, a_Breaker_thins := f12, d_Breaker_thins := _, F_Breaker_thins := F12, b_Breaker_thins := b12, a_Ship___init__ := f13, d_Ship___init__ := _, F_Ship___init__ := F13, b_Ship___init__ := b13, a_law_cell := f14, d_law_cell := _, F_law_cell := F14, g_law_cell := PySem.W.mg_of X G a14, b_law_cell := b14, a_law_box := f15, d_law_box := _, F_law_box := F15, g_law_box := PySem.W.mg_of X G a15, b_law_box := b15, a_law_take := f16, d_law_take := _, F_law_take := F16, g_law_take := PySem.W.mg_of X G a16, b_law_take := b16, a_law_names := f17, d_law_names := _, F_law_names := F17, g_law_names := PySem.W.mg_of X G a17, b_law_names := b17, a_law_number := f18, d_law_number := _, F_law_number := F18, g_law_number := PySem.W.mg_of X G a18, b_law_number := b18, a_law_odd := f19, d_law_odd := _, F_law_odd := F19, g_law_odd := PySem.W.mg_of X G a19, b_law_odd := b19, a_law_vessel_row := f20, d_law_vessel_row := _, F_law_vessel_row := F20, g_law_vessel_row := PySem.W.mg_of X G a20, b_law_vessel_row := b20, a_law_vessel := f21, d_law_vessel := _, F_law_vessel := F21, g_law_vessel := PySem.W.mg_of X G a21, b_law_vessel := b21, a_law_is_name := f22, d_law_is_name := _, F_law_is_name := F22, g_law_is_name := PySem.W.mg_of X G a22, b_law_is_name := b22, a_law_is_number := f23, d_law_is_number := _, F_law_is_number := F23, g_law_is_number := PySem.W.mg_of X G a23, b_law_is_number := b23, a_law_due := f24, d_law_due := _, F_law_due := F24, g_law_due := PySem.W.mg_of X G a24, b_law_due := b24, a_law_found := f25, d_law_found := _, F_law_found := F25, g_law_found := PySem.W.mg_of X G a25, b_law_found := b25, a_law_spoilt := f26, d_law_spoilt := _, F_law_spoilt := F26, g_law_spoilt := PySem.W.mg_of X G a26, b_law_spoilt := b26, a_law := fa, d_law := _, F_law := F27, g_law := PySem.W.mg_of X G a27, b_law := b27, cl_Vessel := ⟨p1_Vessel, p2_Vessel, p3_Vessel, p4_Vessel⟩, n_Vessel_name := nn_Vessel_name, n_Vessel_port := nn_Vessel_port, n_Vessel_hour := nn_Vessel_hour, n_Vessel_strength := nn_Vessel_strength, n_Vessel_draught := nn_Vessel_draught, cl_Breaker := ⟨p1_Breaker, p2_Breaker, p3_Breaker, p4_Breaker⟩, n_Breaker_name := nn_Breaker_name, n_Breaker_port := nn_Breaker_port, n_Breaker_hour := nn_Breaker_hour, n_Breaker_strength := nn_Breaker_strength, n_Breaker_draught := nn_Breaker_draught, n_Breaker_cut := nn_Breaker_cut, cl_Ship := ⟨p1_Ship, p2_Ship, p3_Ship, p4_Ship⟩, n_Ship_name := nn_Ship_name, n_Ship_port := nn_Ship_port, n_Ship_hour := nn_Ship_hour, n_Ship_strength := nn_Ship_strength, n_Ship_draught := nn_Ship_draught, n_Ship_goal := nn_Ship_goal, mk_Breaker := ⟨mm_Breaker, mi_Breaker, mf_Breaker, mq_Breaker⟩, mk_Ship := ⟨mm_Ship, mi_Ship, mf_Ship, mq_Ship⟩, mk_Vessel := ⟨mm_Vessel, mi_Vessel, mf_Vessel, mq_Vessel⟩, me_Breaker_settle := ⟨ma_Breaker_settle, mb_Breaker_settle, k9⟩, me_Ship_settle := ⟨ma_Ship_settle, mb_Ship_settle, k9⟩, me_Vessel_settle := ⟨ma_Vessel_settle, mb_Vessel_settle, k9⟩, rd_Vessel := ra_Vessel, ga_Vessel := gb_Vessel, rd_IceError := ra_IceError, ga_IceError := gb_IceError, vi_IceError := vj_IceError, cm_Vessel___init__ := cn_Vessel___init__, ox_NoName := ⟨⟨nm_NoName, q_NoName, N_NoName, bs_NoName, _, sn_NoName, sub_NoName, ab_NoName, col_NoName, dd_NoName, m0_NoName, m1_NoName, m2_NoName, m3_NoName, m5_NoName, xl_NoName, refs_ve1⟩, xs_NoName, xe_NoName, xt_NoName, xk_NoName⟩, ix_NoName := a1, tx_NoName := xy_NoName, xf_NoName := ⟨xg_NoName, xh_NoName, xe_NoName, xd_NoName⟩, n_NoName_found := nn_NoName_found, ox_NoNumber := ⟨⟨nm_NoNumber, q_NoNumber, N_NoNumber, bs_NoNumber, _, sn_NoNumber, sub_NoNumber, ab_NoNumber, col_NoNumber, dd_NoNumber, m0_NoNumber, m1_NoNumber, m2_NoNumber, m3_NoNumber, m5_NoNumber, xl_NoNumber, refs_ve1⟩, xs_NoNumber, xe_NoNumber, xt_NoNumber, xk_NoNumber⟩, ix_NoNumber := a2, tx_NoNumber := xy_NoNumber, xf_NoNumber := ⟨xg_NoNumber, xh_NoNumber, xe_NoNumber, xd_NoNumber⟩, n_NoNumber_found := nn_NoNumber_found, te_NoName_IceError := exm_of xe_IceError xc_IceError xt_IceError tf_NoName_IceError, te_NoNumber_IceError := exm_of xe_IceError xc_IceError xt_IceError tf_NoNumber_IceError, te_NoName_NoName := exm_of xe_NoName xc_NoName xt_NoName tf_NoName_NoName, te_NoNumber_NoName := exm_of xe_NoName xc_NoName xt_NoName tf_NoNumber_NoName, te_NoName_NoNumber := exm_of xe_NoNumber xc_NoNumber xt_NoNumber tf_NoName_NoNumber, te_NoNumber_NoNumber := exm_of xe_NoNumber xc_NoNumber xt_NoNumber tf_NoNumber_NoNumber, m_all := PySem.W.mg_none_of X G z_all, m_bool := PySem.W.mg_none_of X G z_bool, m_enumerate := PySem.W.mg_none_of X G z_enumerate, m_int := PySem.W.mg_none_of X G z_int, m_isinstance := PySem.W.mg_none_of X G z_isinstance, m_len := PySem.W.mg_none_of X G z_len, m_max := PySem.W.mg_none_of X G z_max, m_min := PySem.W.mg_none_of X G z_min, m_range := PySem.W.mg_none_of X G z_range, m_repr := PySem.W.mg_none_of X G z_repr, m_str := PySem.W.mg_none_of X G z_str, c_LETTERS := ⟨_, PySem.W.mg_of X G y_LETTERS, ⟨_, rfl⟩⟩, c_LONGEST_NAME := ⟨_, PySem.W.mg_of X G y_LONGEST_NAME, ⟨_, rfl⟩⟩, c_MOST_HOUR := ⟨_, PySem.W.mg_of X G y_MOST_HOUR, ⟨_, rfl⟩⟩, c_MOST_ICE := ⟨_, PySem.W.mg_of X G y_MOST_ICE, ⟨_, rfl⟩⟩, c_MOST_DEPTH := ⟨_, PySem.W.mg_of X G y_MOST_DEPTH, ⟨_, rfl⟩⟩ })⟩
end My
open PySem PySem.W PyProof.Rows
set_option maxHeartbeats 0 in
theorem PySem.Challenge.cw_iceopened_k09_vessels_refused_holds : PySem.Challenge.rw_iceopened_k09_vessels_refused.Holds := by
  w_on; o_law; k_head; (case hw => w_witness2)
  k_fill
  refine My.walk_ofG (l := PySem.Challenge.rw_iceopened_k09_vessels_refused) (n := 63) (k := 9) (x := "_law_script") (sp := fun w => My.sp_law _) rfl (by decide) rfl ⟨rfl, by decide, by decide⟩ (fun w h Y => PySem.W.kIn_of Y) ?F (fun _ _ a ns hl _ _ hS => ⟨a, ns, rfl, hS, hl, fun _ => rfl⟩)
  case F =>
    intro w mg fa h KX G hmg
    refine' My.all_mk KX G hmg ?aC_IceError ?aC_NoName ?aC_NoNumber ?aC_Vessel ?aC_Breaker ?aC_Ship ?a0 ?l0 ?c0 ?k0 ?a1 ?l1 ?c1 ?k1 ?a2 ?l2 ?c2 ?k2 ?a3 ?l3 ?c3 ?k3 ?a4 ?l4 ?c4 ?k4 ?a5 ?l5 ?c5 ?k5 ?a6 ?l6 ?c6 ?k6 ?a7 ?l7 ?c7 ?k7 ?a8 ?l8 ?c8 ?k8 ?a9 ?l9 ?c9 ?k9 ?a10 ?l10 ?c10 ?k10 ?a11 ?l11 ?c11 ?k11 ?a12 ?l12 ?c12 ?k12 ?a13 ?l13 ?c13 ?k13 ?a14 ?l14 ?c14 ?k14 ?a15 ?l15 ?c15 ?k15 ?a16 ?l16 ?c16 ?k16 ?a17 ?l17 ?c17 ?k17 ?a18 ?l18 ?c18 ?k18 ?a19 ?l19 ?c19 ?k19 ?a20 ?l20 ?c20 ?k20 ?a21 ?l21 ?c21 ?k21 ?a22 ?l22 ?c22 ?k22 ?a23 ?l23 ?c23 ?k23 ?a24 ?l24 ?c24 ?k24 ?a25 ?l25 ?c25 ?k25 ?a26 ?l26 ?c26 ?k26 ?a27 ?l27 ?c27 ?k27 ?z_all ?z_bool ?z_enumerate ?z_int ?z_isinstance ?z_len ?z_max ?z_min ?z_range ?z_repr ?z_str ?y_LETTERS ?y_LONGEST_NAME ?y_MOST_HOUR ?y_MOST_ICE ?y_MOST_DEPTH ?p1_Vessel ?p2_Vessel ?p3_Vessel ?p4_Vessel ?nn_Vessel_name ?nn_Vessel_port ?nn_Vessel_hour ?nn_Vessel_strength ?nn_Vessel_draught ?p1_Breaker ?p2_Breaker ?p3_Breaker ?p4_Breaker ?nn_Breaker_name ?nn_Breaker_port ?nn_Breaker_hour ?nn_Breaker_strength ?nn_Breaker_draught ?nn_Breaker_cut ?p1_Ship ?p2_Ship ?p3_Ship ?p4_Ship ?nn_Ship_name ?nn_Ship_port ?nn_Ship_hour ?nn_Ship_strength ?nn_Ship_draught ?nn_Ship_goal ?mm_Breaker ?mi_Breaker ?mf_Breaker ?mq_Breaker ?mm_Ship ?mi_Ship ?mf_Ship ?mq_Ship ?mm_Vessel ?mi_Vessel ?mf_Vessel ?mq_Vessel ?ma_Breaker_settle ?mb_Breaker_settle ?ma_Ship_settle ?mb_Ship_settle ?ma_Vessel_settle ?mb_Vessel_settle ?ra_Vessel ?gb_Vessel ?ra_IceError ?gb_IceError ?vj_IceError ?cn_Vessel___init__ ?xl_NoName ?xs_NoName ?xe_NoName ?xt_NoName ?xk_NoName ?xy_NoName ?xg_NoName ?xh_NoName ?xd_NoName ?nn_NoName_found ?xl_NoNumber ?xs_NoNumber ?xe_NoNumber ?xt_NoNumber ?xk_NoNumber ?xy_NoNumber ?xg_NoNumber ?xh_NoNumber ?xd_NoNumber ?nn_NoNumber_found ?xe_IceError ?xt_IceError ?xc_IceError ?tf_NoName_IceError ?tf_NoNumber_IceError ?xc_NoName ?tf_NoName_NoName ?tf_NoNumber_NoName ?xc_NoNumber ?tf_NoName_NoNumber ?tf_NoNumber_NoNumber
    (case aC_IceError => k_is); (case aC_NoName => k_is); (case aC_NoNumber => k_is); (case aC_Vessel => k_is); (case aC_Breaker => k_is); (case aC_Ship => k_is); (case a0 => k_is); (case l0 => k_is)
    (case c0 => k_is); (case k0 => k_is); (case a1 => k_is); (case l1 => k_is); (case c1 => k_is); (case k1 => k_is); (case a2 => k_is); (case l2 => k_is)
    (case c2 => k_is); (case k2 => k_is); (case a3 => k_is); (case l3 => k_is); (case c3 => k_is); (case k3 => k_is); (case a4 => k_is); (case l4 => k_is)
    (case c4 => k_is); (case k4 => k_is); (case a5 => k_is); (case l5 => k_is); (case c5 => k_is); (case k5 => k_is); (case a6 => k_is); (case l6 => k_is)
    (case c6 => k_is); (case k6 => k_is); (case a7 => k_is); (case l7 => k_is); (case c7 => k_is); (case k7 => k_is); (case a8 => k_is); (case l8 => k_is)
    (case c8 => k_is); (case k8 => k_is); (case a9 => k_is); (case l9 => k_is); (case c9 => k_is); (case k9 => k_is); (case a10 => k_is); (case l10 => k_is)
    (case c10 => k_is); (case k10 => k_is); (case a11 => k_is); (case l11 => k_is); (case c11 => k_is); (case k11 => k_is); (case a12 => k_is); (case l12 => k_is)
    (case c12 => k_is); (case k12 => k_is); (case a13 => k_is); (case l13 => k_is); (case c13 => k_is); (case k13 => k_is); (case a14 => k_is); (case l14 => k_is)
    (case c14 => k_is); (case k14 => k_is); (case a15 => k_is); (case l15 => k_is); (case c15 => k_is); (case k15 => k_is); (case a16 => k_is); (case l16 => k_is)
    (case c16 => k_is); (case k16 => k_is); (case a17 => k_is); (case l17 => k_is); (case c17 => k_is); (case k17 => k_is); (case a18 => k_is); (case l18 => k_is)
    (case c18 => k_is); (case k18 => k_is); (case a19 => k_is); (case l19 => k_is); (case c19 => k_is); (case k19 => k_is); (case a20 => k_is); (case l20 => k_is)
    (case c20 => k_is); (case k20 => k_is); (case a21 => k_is); (case l21 => k_is); (case c21 => k_is); (case k21 => k_is); (case a22 => k_is); (case l22 => k_is)
    (case c22 => k_is); (case k22 => k_is); (case a23 => k_is); (case l23 => k_is); (case c23 => k_is); (case k23 => k_is); (case a24 => k_is); (case l24 => k_is)
    (case c24 => k_is); (case k24 => k_is); (case a25 => k_is); (case l25 => k_is); (case c25 => k_is); (case k25 => k_is); (case a26 => k_is); (case l26 => k_is)
    (case c26 => k_is); (case k26 => k_is); (case a27 => k_is); (case l27 => k_is); (case c27 => k_is); (case k27 => k_is); (case z_all => k_is); (case z_bool => k_is)
    (case z_enumerate => k_is); (case z_int => k_is); (case z_isinstance => k_is); (case z_len => k_is); (case z_max => k_is); (case z_min => k_is); (case z_range => k_is); (case z_repr => k_is)
    (case z_str => k_is); (case y_LETTERS => k_is); (case y_LONGEST_NAME => k_is); (case y_MOST_HOUR => k_is); (case y_MOST_ICE => k_is); (case y_MOST_DEPTH => k_is); (case p1_Vessel => k_is); (case p2_Vessel => k_is)
    (case p3_Vessel => k_is); (case p4_Vessel => k_is); (case nn_Vessel_name => k_is); (case nn_Vessel_port => k_is); (case nn_Vessel_hour => k_is); (case nn_Vessel_strength => k_is); (case nn_Vessel_draught => k_is); (case p1_Breaker => k_is)
    (case p2_Breaker => k_is); (case p3_Breaker => k_is); (case p4_Breaker => k_is); (case nn_Breaker_name => k_is); (case nn_Breaker_port => k_is); (case nn_Breaker_hour => k_is); (case nn_Breaker_strength => k_is); (case nn_Breaker_draught => k_is)
    (case nn_Breaker_cut => k_is); (case p1_Ship => k_is); (case p2_Ship => k_is); (case p3_Ship => k_is); (case p4_Ship => k_is); (case nn_Ship_name => k_is); (case nn_Ship_port => k_is); (case nn_Ship_hour => k_is)
    (case nn_Ship_strength => k_is); (case nn_Ship_draught => k_is); (case nn_Ship_goal => k_is); (case mm_Breaker => k_is); (case mi_Breaker => k_is); (case mf_Breaker => k_is); (case mq_Breaker => k_is); (case mm_Ship => k_is)
    (case mi_Ship => k_is); (case mf_Ship => k_is); (case mq_Ship => k_is); (case mm_Vessel => k_is); (case mi_Vessel => k_is); (case mf_Vessel => k_is); (case mq_Vessel => k_is); (case ma_Breaker_settle => k_is)
    (case mb_Breaker_settle => k_is); (case ma_Ship_settle => k_is); (case mb_Ship_settle => k_is); (case ma_Vessel_settle => k_is); (case mb_Vessel_settle => k_is); (case ra_Vessel => k_is); (case gb_Vessel => k_is); (case ra_IceError => k_is)
    (case gb_IceError => k_is); (case vj_IceError => k_is); (case cn_Vessel___init__ => k_is); (case xl_NoName => k_is); (case xs_NoName => k_is); (case xe_NoName => k_is); (case xt_NoName => k_is); (case xk_NoName => k_is)
    (case xy_NoName => k_is); (case xg_NoName => k_is); (case xh_NoName => k_is); (case xd_NoName => k_is); (case nn_NoName_found => k_is); (case xl_NoNumber => k_is); (case xs_NoNumber => k_is); (case xe_NoNumber => k_is)
    (case xt_NoNumber => k_is); (case xk_NoNumber => k_is); (case xy_NoNumber => k_is); (case xg_NoNumber => k_is); (case xh_NoNumber => k_is); (case xd_NoNumber => k_is); (case nn_NoNumber_found => k_is); (case xe_IceError => k_is)
    (case xt_IceError => k_is); (case xc_IceError => k_is); (case tf_NoName_IceError => first | rfl | k_is); (case tf_NoNumber_IceError => first | rfl | k_is); (case xc_NoName => k_is); (case tf_NoName_NoName => first | rfl | k_is); (case tf_NoNumber_NoName => first | rfl | k_is); (case xc_NoNumber => k_is)
    (case tf_NoName_NoNumber => first | rfl | k_is); (case tf_NoNumber_NoNumber => first | rfl | k_is)
