import PyProof.Rows.All
import HandS.RaiseMore
import HandS.DictEq
import KE.GoesZip
import KE.GoesMore
import KE.GoesEnum
import HandS.SortInts
import HandS.SetFor
import HandS.TupMul
import Wide.All
import OpenK.AllK
import Wide.FinOn
import HandS.ForMost
import HandS.Exc
import HandS.TryOnly
import HandS.ExcOwn
import HandS.WordsExc
import HandS.IsInst
import HandS.Style
import HandS.Codes
import HandS.Wide
import HandS.TupAny
import HandS.EndBits
import KE.IntTextLaws
import HandS.NoneIn
import HandS.More
import HandS.Walk
import HandS.ExcInit
import HandS.ExcField
import HandS.ClsMeth
import HandS.TryMany
import HandS.ListItems
import PySem.Challenge.RW_iceopened_k75_later
set_option Elab.async false
set_option autoImplicit false
set_option linter.all false
set_option maxRecDepth 100000
set_option maxHeartbeats 4000000
/-! ### P0: more rules over the hand layer, and a tactic for readings (walk_at "rd") -/
namespace My
open PySem PySem.Spec PyProof.Rows L2

/-! #### values that repr shows without looking into the heap -/
def shown0 : V → Option Str
  | .non => some "None"
  | .bl b => some (if b then "True" else "False")
  | .int i => if i.natAbs.log2 < 1920 then some (toString i) else none
  | .str x => if (reprText x).length ≤ sizeLine then some (reprText x) else none
  | _ => none
def rRepr0 : List V → Hp → VK → Prop := fun xs H Q => ∃ v t, xs = [v] ∧ shown0 v = some t ∧ Q (.str t) H
section
variable {X : Cx}
theorem call_repr0 : CallR X (.builtin "repr") rRepr0 := by
  intro pins s σ H xs us Q I r h
  obtain ⟨v, t, rfl, e, q⟩ := h
  obtain ⟨u, rfl, r1⟩ := vals1 r
  cases v with
  | non =>
    cases (show u = Value.none from r1)
    cases e
    exact PySem.P.repr_of_none ⟨.str _, H, I.tok _, ⟨_, rfl⟩, q⟩
  | bl b =>
    cases (show u = Value.bool b from r1)
    cases e
    exact PySem.P.repr_of_bool ⟨.str _, H, I.tok _, ⟨_, rfl⟩, q⟩
  | int i =>
    obtain ⟨t', rfl⟩ := (show ∃ t, u = Value.int i t from r1)
    have e' : (if i.natAbs.log2 < 1920 then some (toString i : Str) else none) = some t := e
    split at e'
    · rename_i hz
      cases e'
      exact PySem.P.repr_of_int hz ⟨.str _, H, I.tok _, ⟨_, rfl⟩, q⟩
    · cases e'
  | str x =>
    obtain ⟨t', rfl⟩ := (show ∃ t, u = Value.str x t from r1)
    have e' : (if (reprText x).length ≤ sizeLine then some (reprText x) else none) = some t := e
    split at e'
    · rename_i hz
      cases e'
      exact PySem.P.repr_of_str ⟨.str _, H, I.tok _, ⟨_, rfl⟩, q⟩ hz
    · cases e'
  | byt _ => cases e
  | flt _ => cases e
  | ref _ => cases e
  | ty _ => cases e

/-! #### a text times a small number -/
def rRepS : R2 := fun x y H Q => ∃ a n, x = .str a ∧ y = .int n ∧ MulOk a n ∧ Q (.str (Txt.mul a n)) H
theorem op_repS : OpR X (binaryOp .Mult) rRepS := by
  intro pins s σ H x y v u Q I rx ry h
  obtain ⟨a, n, rfl, rfl, hm, q⟩ := h
  obtain ⟨t, rfl⟩ := rx
  obtain ⟨t', rfl⟩ := ry
  exact SB.mul hm fun t2 k => ⟨.str _, H, I.tok k, ⟨_, rfl⟩, q⟩
end

/-! #### rules with the written part named -/
section
variable {X : Cx} {K : PySem.W.Frag}
theorem ixK (h : X.K = K) : IxR X (rIx K) := h ▸ ix_seq
theorem ixLK (h : X.K = K) : IxR X (rIxL K) := h ▸ ix_list
theorem ixTK (h : X.K = K) : IxR X (rIxT K) := h ▸ ix_tup
def rLenA (K : PySem.W.Frag) : List V → Hp → VK → Prop := fun xs H Q => ∃ x n, xs = [x] ∧ LenV K x H n ∧ Q (.int n) H
theorem lenK (h : X.K = K) : CallR X (.builtin "len") (rLenA K) := h ▸ call_len
theorem isiK (h : X.K = K) : CallR X (.builtin "isinstance") (rIsi K) := h ▸ call_isi
theorem isiTK (h : X.K = K) : CallR X (.builtin "isinstance") (rIsiT K) := h ▸ call_isiT
theorem allK (h : X.K = K) (hc : X.calm = true) : CallR X (.builtin "all") (rAll K) := h ▸ cr_all hc
theorem anyK (h : X.K = K) (hc : X.calm = true) : CallR X (.builtin "any") (rAny K) := h ▸ cr_any hc
def rInt1 : List V → Hp → VK → Prop := fun xs H Q => (∃ i, xs = [.int i] ∧ Q (.int i) H) ∨ ∃ k, xs = [.bl k] ∧ Q (.int (if k then 1 else 0)) H
theorem int1 : CallR X (.type "int") rInt1 := call_int1
theorem slTK (h : X.K = K) : SlR X (rSlA K) := h ▸ sl_tupA
theorem eqDK (h : X.K = K) (hu : X.A.units + 64 < cLine) : OpR X (compareOp .Eq) (rEqD K) := h ▸ op_eqD hu
theorem neDK (h : X.K = K) (hu : X.A.units + 64 < cLine) : OpR X (compareOp .NotEq) (rNeD K) := h ▸ op_neD hu
theorem catAK (h : X.K = K) : OpR X (binaryOp .Add) (rCatA K) := h ▸ op_catA
theorem inSeqK (h : X.K = K) : OpR X (compareOp .In) (rIn K false) := h ▸ op_in_seq
theorem notInSeqK (h : X.K = K) : OpR X (compareOp .NotIn) (rIn K true) := h ▸ op_notIn_seq
theorem slLK (h : X.K = K) : SlR X (rSlL K) := h ▸ sl_list
theorem pi_listK {tg l : Expr} {tl : TE} (h : X.K = K) (hl : PE X l tl) : PI X tg l (iList K tl) := h ▸ pi_list hl
theorem pi_tupK {tg l : Expr} {tl : TE} (h : X.K = K) (hl : PE X l tl) : PI X tg l (iTup K tl) := h ▸ pi_tup hl
theorem pe_revLK {e : Expr} {te : TE} {k : Nat} {p1 p2 p3 pos : Pos} (h : X.K = K) (he : PE X e te) : PE X (.Subscript e (.Slice none none (some (.UnaryOp .USub (.Constant (.int 1) k p1) p2)) p3) pos) (tRevL K te) := h ▸ pe_revL he
def rAddSt : R2 := fun x y H Q => ∃ i j, x = .str i ∧ y = .str j ∧ i.length + j.length ≤ sizeLine ∧ Q (.str (i ++ j)) H
theorem addS : OpR X (binaryOp .Add) rAddSt := op_add_str
def rInSg : R2 := fun x y H Q => ∃ (c : Nat) (z : Str), x = .str ⟨#[c]⟩ ∧ y = .str z ∧ Q (.bl (decide (c ∈ z.cps.toList))) H
theorem inSg : OpR X (compareOp .In) rInSg := op_in_sign
def rNotInSg : R2 := fun x y H Q => ∃ (c : Nat) (z : Str), x = .str ⟨#[c]⟩ ∧ y = .str z ∧ Q (.bl (!decide (c ∈ z.cps.toList))) H
theorem notInSg : OpR X (compareOp .NotIn) rNotInSg := op_notIn_sign
def rIntS : List V → Hp → VK → Prop := fun xs H Q => ∃ a n, xs = [.str a] ∧ PySem.intText? a = some n ∧ a.length ≤ 640 ∧ Q (.int n) H
theorem intS : CallR X (.type "int") rIntS := call_int_str
def rStrI : List V → Hp → VK → Prop := fun xs H Q => ∃ i : Int, xs = [.int i] ∧ i.natAbs.log2 < 1920 ∧ Q (.str (toString i)) H
theorem strI : CallR X (.type "str") rStrI := call_str_int
def rMax2 : List V → Hp → VK → Prop := fun xs H Q => ∃ i j, xs = [.int i, .int j] ∧ Q (.int (if j > i then j else i)) H
theorem max2 (hc : X.calm = true) : CallR X (.builtin "max") rMax2 := call_max2 hc
def rMin2 : List V → Hp → VK → Prop := fun xs H Q => ∃ i j, xs = [.int i, .int j] ∧ Q (.int (if j < i then j else i)) H
theorem min2 (hc : X.calm = true) : CallR X (.builtin "min") rMin2 := call_min2 hc
def rFind : V → List V → Hp → VK → Prop := fun x xs H Q => ∃ a b, x = .str a ∧ xs = [.str b] ∧ Q (.int (Txt.find a b)) H
theorem findS : MtR X "str.find" rFind := mt_find
/-- is True, is False, of anything -/
def rIsBA : R2 := fun x y H Q => ∃ b, y = .bl b ∧ Q (.bl (decide (x = .bl b))) H
theorem isBA : OpR X (compareOp .Is) rIsBA := by
  intro pins s σ H x y v u Q I rx ry h
  obtain ⟨b, rfl, q⟩ := h
  cases (show u = Value.bool b from ry)
  have no : ∀ z : V, z ≠ .bl b → Q (.bl (decide (z = .bl b))) H → Q (.bl false) H := fun z hz q => by
    rw [decide_eq_false hz] at q
    exact q
  cases x with
  | bl a =>
    cases (show v = Value.bool a from rx)
    by_cases e : a = b
    · subst e
      exact wpAny_is_self rfl ⟨.bl true, H, I, rfl, by simpa using q⟩
    · exact wpAny_is_other rfl (fun z => e (Value.bool.inj z)) ⟨.bl false, H, I, rfl, by simpa [e] using q⟩
  | non => cases (show v = Value.none from rx); exact wpAny_is_other rfl (fun z => by cases z) ⟨.bl false, H, I, rfl, no _ (fun z => by cases z) q⟩
  | int i => obtain ⟨t, rfl⟩ := (show ∃ t, v = Value.int i t from rx); exact wpAny_is_other rfl (fun z => by cases z) ⟨.bl false, H, I, rfl, no _ (fun z => by cases z) q⟩
  | str i => obtain ⟨t, rfl⟩ := (show ∃ t, v = Value.str i t from rx); exact wpAny_is_other rfl (fun z => by cases z) ⟨.bl false, H, I, rfl, no _ (fun z => by cases z) q⟩
  | byt i => obtain ⟨t, rfl⟩ := (show ∃ t, v = Value.bytes i t from rx); exact wpAny_is_other rfl (fun z => by cases z) ⟨.bl false, H, I, rfl, no _ (fun z => by cases z) q⟩
  | flt i => obtain ⟨t, rfl⟩ := (show ∃ t, v = Value.float i t from rx); exact wpAny_is_other rfl (fun z => by cases z) ⟨.bl false, H, I, rfl, no _ (fun z => by cases z) q⟩
  | ref a => cases (show v = Value.ref a from rx); exact wpAny_is_other rfl (fun z => by cases z) ⟨.bl false, H, I, rfl, no _ (fun z => by cases z) q⟩
  | ty n => cases (show v = Value.type n from rx); exact wpAny_is_other rfl (fun z => by cases z) ⟨.bl false, H, I, rfl, no _ (fun z => by cases z) q⟩
def rJoin (K : PySem.W.Frag) : V → List V → Hp → VK → Prop := fun x xs H Q => ∃ a p, ∃ ys : List Str, x = .str a ∧ xs = [.ref p] ∧ (SqL K H p (ys.map V.str) ∨ SqT K H p (ys.map V.str)) ∧ (ys.map (·.length)).sum + ys.length * a.length ≤ 16777216 ∧ Q (.str (Txt.join a ys)) H
theorem pe_joinK {o e : Expr} {to te : TE} {pos apos : Pos} (h : X.K = K) (ho : PE X o to) (he : PE X e te) (hs : starEach [e] X.env = [(false, eval e X.env)] := by rfl) (hbase : attributeBase o "join" X.env (eval o X.env) = eval o X.env := by rfl)
    (hline : (apos.endLine == pos.line) = true := by rfl) : PE X (.Call (.Attribute o "join" apos) [e] [] pos) (tM1 (rJoin K) to te) := by
  subst h
  exact pe_join ho he hs hbase hline
end

/-! #### a list that is set aside while an expression is evaluated -/
/-- the heap without what stands at D -/
def Wo (D : Addr) (H : Hp) : Hp := fun b => if b = D then none else H b
theorem wo_same {D : Addr} {H : Hp} : Wo D H D = none := if_pos rfl
theorem wo_ne {D b : Addr} {H : Hp} (h : b ≠ D) : Wo D H b = H b := if_neg h
theorem wo_upd {D : Addr} {H : Hp} {o : HO} (h : H D = none) : Wo D (upd H D o) = H := by
  funext b
  by_cases e : b = D
  · subst e
    rw [wo_same, h]
  · rw [wo_ne e, upd_ne e]
def tFrm (te : TE) : TE := fun σ H Q => ∃ (D : Addr) (xs : List V), H D = some (.lst xs) ∧ te σ (Wo D H) fun v H' => H' D = none → Q v (upd H' D (.lst xs))
theorem pe_frm {X : Cx} {e : Expr} {te : TE} (he : PE X e te) : PE X e (tFrm te) := by
  refine ⟨fun pins s σ H Q I h => ?_⟩
  obtain ⟨D, xs, hD, h⟩ := h
  obtain ⟨hz, its, n, rv, hg⟩ := (show ObjOk X.prog X.w H s.heap D (.lst xs) from I.hok D _ hD)
  have nD : ∀ b, H b = none → b ≠ D := fun b hb e => by rw [e, hD] at hb; cases hb
  have nO : ∀ b o, H b = some o → o ≠ .lst xs → b ≠ D := fun b o hb ho e => by rw [e, hD] at hb; exact ho (Option.some.inj hb).symm
  have I2 : Inv X ((D, { cls := .type "list", data := .seq its.toArray n }) :: pins) σ (Wo D H) s := by
    refine ⟨I.ok, I.os, I.bare, ⟨I.base.keep, I.base.slot, fun b o e1 e2 e3 => ?_, I.base.there, fun b ys e => ?_, fun b o u e => ?_, fun b ps e => ?_⟩, I.loc, I.cell, ?_, fun x c e => ?_, fun p hp => ?_, fun a o e => ?_, I.len⟩
    · have q := I.base.free b o e1 e2 e3
      rw [wo_ne (nD b q)]
      exact q
    · have q := I.base.tups b ys e
      rw [wo_ne (nO b _ q (fun z => by cases z))]
      exact q
    · have q := I.base.frzs b o u e
      rw [wo_ne (nO b _ q (fun z => by cases z))]
      exact q
    · obtain ⟨m, q⟩ := I.base.tbls b ps e
      exact ⟨m, by rw [wo_ne (nO b _ q (fun z => by cases z))]; exact q⟩
    · rw [wo_ne (nD _ I.free)]
      exact I.free
    · rw [wo_ne (nD _ (I.freeC x c e))]
      exact I.freeC x c e
    · have old : ∀ p ∈ X.pn ++ pins, s.heap.get? p.1 = some p.2 ∧ Wo D H p.1 = none ∧ p.1 ≠ X.env.locals ∧ p.1 ∉ X.fs ∧ ∀ v, p.2.data ≠ .cell v := fun p hp => by
        obtain ⟨a1, a2, a3, a4, a5⟩ := I.pin p hp
        exact ⟨a1, by rw [wo_ne (nD _ a2)]; exact a2, a3, a4, a5⟩
      rcases List.mem_append.mp hp with hp | hp
      · exact old p (List.mem_append_left _ hp)
      · rcases List.mem_cons.mp hp with rfl | hp
        · refine ⟨hg, wo_same, fun z => nD _ I.free z.symm, fun z => ?_, fun v z => by cases z⟩
          by_cases hf : H D = none
          · rw [hD] at hf
            cases hf
          · obtain ⟨_, ob, ho, _⟩ := I.ok.funs.mem z
            exact hf (I.base.free D ob ho (I.ok.frf D z) fun y => I.ok.exfs D y z)
        · exact old p (List.mem_append_right _ hp)
    · by_cases ha : a = D
      · subst ha
        rw [wo_same] at e
        cases e
      · rw [wo_ne ha] at e
        refine (I.hok a o e).stay (fun b u _ q => q) (fun b q => ?_) fun b ys q => ?_
        · rw [wo_ne (nO b _ q (fun z => by cases z))]
          exact q
        · rw [wo_ne (nO b _ q (fun z => by cases z))]
          exact q
  refine thn (he.run _ s σ (Wo D H) _ I2 h) fun u s1 hh => ?_
  obtain ⟨v, H', I', r, q⟩ := hh
  obtain ⟨p1, p2, p3, p4, _⟩ := I'.pin (D, { cls := .type "list", data := .seq its.toArray n }) (List.mem_append_right _ List.mem_cons_self)
  have p1 : s1.heap.get? D = some { cls := .type "list", data := .seq its.toArray n } := p1
  have p2 : H' D = none := p2
  have mD : ∀ b o, H' b = some o → b ≠ D := fun b o e z => by rw [z, p2] at e; cases e
  refine ⟨v, upd H' D (.lst xs), ⟨I'.ok, I'.os, I'.bare, ⟨I'.base.keep, I'.base.slot, fun b o e1 e2 e3 => ?_, I'.base.there, fun b ys e => ?_, fun b o u e => ?_, fun b ps e => ?_⟩, I'.loc, I'.cell, ?_, fun x c e => ?_, fun p hp => ?_, fun a o e => ?_, I'.len⟩, r, q p2⟩
  · rw [upd_ne (nD _ (I.base.free b o e1 e2 e3))]
    exact I'.base.free b o e1 e2 e3
  · have z := I'.base.tups b ys e
    rw [upd_ne (mD _ _ z)]
    exact z
  · have z := I'.base.frzs b o u e
    rw [upd_ne (mD _ _ z)]
    exact z
  · obtain ⟨m, z⟩ := I'.base.tbls b ps e
    exact ⟨m, by rw [upd_ne (mD _ _ z)]; exact z⟩
  · rw [upd_ne (fun z => p3 z.symm)]
    exact I'.free
  · rw [upd_ne (nD _ (I.freeC x c e))]
    exact I'.freeC x c e
  · obtain ⟨a1, a2, a3, a4, a5⟩ := I'.pin p (by
      rcases List.mem_append.mp hp with hp | hp
      · exact List.mem_append_left _ hp
      · exact List.mem_append_right _ (List.mem_cons_of_mem _ hp))
    exact ⟨a1, by rw [upd_ne (nD _ (I.pin p hp).2.1)]; exact a2, a3, a4, a5⟩
  · by_cases ha : a = D
    · subst ha
      rw [upd_same] at e
      cases e
      exact ⟨hz, its, n, rv, p1⟩
    · rw [upd_ne ha] at e
      refine (I'.hok a o e).stay (fun b u _ q => q) (fun b z => ?_) fun b ys z => ?_
      · rw [upd_ne (mD _ _ z)]
        exact z
      · rw [upd_ne (mD _ _ z)]
        exact z

/-! #### readings, one step each -/
section
variable {K : PySem.W.Frag} {σ : L2.St} {H : Hp} {i : Nat} {v x y : V} {Q : VK} {r : R2} {ta tb te : TE} {D : Ends} {t u : TS} {tt tu : TT} {g : TG} {tr : TA}
theorem rd_var (h : σ[i]? = some (some v)) (q : Q v H) : tVar i σ H Q := ⟨v, h, q⟩
theorem rd_c (q : Q v H) : tC v σ H Q := q
theorem rd_op (h : ta σ H fun x H1 => tb σ H1 fun y H2 => r x y H2 Q) : tOp r ta tb σ H Q := h
theorem rd_seq (h : t { D with nx := u D } σ H) : tSeq t u D σ H := h
theorem rd_asg (h : te σ H fun x H1 => g x σ H1 D.nx) : tAsg te g D σ H := h
theorem rd_name {P : L2.St → Hp → Prop} (h : P (σ.set i (some v)) H) : gName i v σ H P := h
theorem rd_aug {ti : TIp} (h : σ[i]? = some (some v)) (q : te σ H fun y H1 => ti v y H1 fun z H2 => D.nx (σ.set i (some z)) H2) : tAug i te ti D σ H := ⟨v, h, q⟩
theorem rd_ipI {f : Int → Int → Int} {a b : Int} (q : Q (.int (f a b)) H) : ipI f (.int a) (.int b) H Q := ⟨a, b, rfl, rfl, q⟩
theorem rd_next (h : D.nx σ H) : tNext D σ H := h
theorem rd_ret (h : te σ H D.rt) : tRet te D σ H := h
theorem rd_retN (h : D.rt .non H) : tRetN D σ H := h
theorem rd_drop (h : te σ H fun _ H1 => D.nx σ H1) : tDrop te D σ H := h
theorem rd_ifS {tc : TT} (h : tc σ H fun b H1 => if b = true then t D σ H1 else u D σ H1) : tIfS tc t u D σ H := h
theorem rd_if {tc : TT} (h : tc σ H fun c H1 => if c = true then ta σ H1 Q else tb σ H1 Q) : tIf tc ta tb σ H Q := h
theorem rd_test {P : Bool → Hp → Prop} (h : te σ H fun x H' => ∃ k, x = .bl k ∧ P k H') : tTest te σ H P := h
theorem rd_B {P : Bool → Hp → Prop} (h : te σ H fun x H' => ∃ k, x = .bl k ∧ P k H') : tB te σ H P := h
theorem rd_not {P : Bool → Hp → Prop} (h : tt σ H fun c H1 => P (!c) H1) : tNot tt σ H P := h
theorem rd_and {P : Bool → Hp → Prop} (h : tt σ H fun c H1 => if c = true then tu σ H1 P else P false H1) : tAnd tt tu σ H P := h
theorem rd_or {P : Bool → Hp → Prop} (h : tt σ H fun c H1 => if c = true then P true H1 else tu σ H1 P) : tOr tt tu σ H P := h
theorem rd_nil {P : List V → Hp → Prop} (h : P [] H) : tNil σ H P := h
theorem rd_cons {P : List V → Hp → Prop} (h : te σ H fun x H1 => tr σ H1 fun xs H2 => P (x :: xs) H2) : tCons te tr σ H P := h
theorem rd_cb {rr : List V → Hp → VK → Prop} (h : tr σ H fun vs H1 => rr vs H1 Q) : tCB rr tr σ H Q := h
theorem rd_call {sp : Sp} {dvs : List V} {E : XK} (h : tr σ H fun vs H1 => sp (vs ++ dvs) H1 Q E) : tCall sp dvs E tr σ H Q := h
theorem rd_I0 {f : Int → Int → V} {a b : Int} (h : Q (f a b) H) : rI0 f (.int a) (.int b) H Q := ⟨a, b, rfl, rfl, h⟩
theorem rd_I {C : Int → Int → Prop} {f : Int → Int → V} {a b : Int} (hc : C a b) (h : Q (f a b) H) : rI C f (.int a) (.int b) H Q := ⟨a, b, rfl, rfl, hc, h⟩
theorem rd_eq (h : scal x y = true) (q : Q (.bl (decide (x = y))) H) : rEq x y H Q := ⟨h, q⟩
theorem rd_ne (h : scal x y = true) (q : Q (.bl (!decide (x = y))) H) : rNe x y H Q := ⟨h, q⟩
theorem rd_ex_bl {P : Bool → Prop} {b : Bool} (h : P b) : ∃ k, V.bl b = V.bl k ∧ P k := ⟨b, rfl, h⟩
theorem rd_un {rr : V → Hp → VK → Prop} (h : ta σ H fun x H1 => rr x H1 Q) : tUn rr ta σ H Q := h
theorem rd_U {f : Int → V} {a : Int} (h : Q (f a) H) : rU f (.int a) H Q := ⟨a, rfl, h⟩
theorem rd_chain {r' : R2} {tc : TE} (h : ta σ H fun x H1 => tb σ H1 fun y H2 => r x y H2 fun z H3 => ∃ k, z = .bl k ∧ (if k = true then tc σ H3 fun w' H4 => r' y w' H4 Q else Q (.bl false) H3)) : tChain r r' ta tb tc σ H Q := h
/-- what a new list, a new tuple hands on -/
def LstK (Q : VK) : List V → Hp → Prop := fun xs H1 => xs.length ≤ sizeLine ∧ ∀ p, H1 p = none → Q (.ref p) (upd H1 p (.lst xs))
def TupK (Q : VK) : List V → Hp → Prop := fun xs H1 => xs.length ≤ sizeLine ∧ ∀ p, H1 p = none → Q (.ref p) (upd H1 p (.tup xs))
theorem rd_lst (h : tr σ H (LstK Q)) : tLst tr σ H Q := h
theorem rd_tup (h : tr σ H (TupK Q)) : tTup tr σ H Q := h
theorem rd_andV (h : ta σ H fun x H1 => ∃ c, x = .bl c ∧ if c = true then tb σ H1 Q else Q (.bl false) H1) : tAndV ta tb σ H Q := h
theorem rd_orV (h : ta σ H fun x H1 => ∃ c, x = .bl c ∧ if c = true then Q (.bl true) H1 else tb σ H1 Q) : tOrV ta tb σ H Q := h
theorem rd_notV (h : ta σ H fun x H1 => ∃ c, x = .bl c ∧ Q (.bl (!c)) H1) : tNotV ta σ H Q := h
theorem rd_sub {tt3 : V → V → V → Hp → (Hp → Prop) → Prop} {P : L2.St → Hp → Prop} (h : ta σ H fun o H1 => tb σ H1 fun i H2 => tt3 o i v H2 fun H3 => P σ H3) : gSub ta tb tt3 v σ H P := h
theorem rd_ite {c : Prop} [Decidable c] {A B : Prop} (h1 : c → A) (h2 : ¬ c → B) : if c then A else B := ite2 h1 h2
theorem rd_iteD {c : Prop} [Decidable c] {A B : Prop} (h1 : c → A) (h2 : ¬ c → B) : if decide c = true then A else B := by
  by_cases h : c
  · rw [if_pos (decide_eq_true h)]; exact h1 h
  · rw [if_neg (by simpa using h)]; exact h2 h
theorem rd_iteN {b : Bool} {A B : Prop} (h : if b = true then B else A) : if (!b) = true then A else B := by
  cases b with
  | true => exact iteF (by simpa using h)
  | false => exact iteT (by simpa using h)
theorem rd_iteND {c : Prop} [Decidable c] {A B : Prop} (h1 : c → B) (h2 : ¬ c → A) : if (!decide c) = true then A else B := rd_iteN (rd_iteD h1 h2)
theorem rd_ixL {xs : List V} {p : Addr} {k : Int} (h : SqL K H p xs) (ha : atI xs k = some v) (q : Q v H) : rIx K (.ref p) (.int k) H Q := .inl ⟨p, xs, k, v, rfl, rfl, h, ha, q⟩
theorem rd_ixL1 {xs : List V} {p : Addr} {k : Int} (h : SqL K H p xs) (ha : atI xs k = some v) (q : Q v H) : rIxL K (.ref p) (.int k) H Q := ⟨p, xs, k, v, rfl, rfl, h, ha, q⟩
theorem rd_ixT {xs : List V} {p : Addr} {k : Int} (h : SqT K H p xs) (ha : atI xs k = some v) (q : Q v H) : rIx K (.ref p) (.int k) H Q := .inr (.inl ⟨p, xs, k, v, rfl, rfl, h, ha, q⟩)
theorem rd_ixT1 {xs : List V} {p : Addr} {k : Int} (h : SqT K H p xs) (ha : atI xs k = some v) (q : Q v H) : rIxT K (.ref p) (.int k) H Q := ⟨p, xs, k, v, rfl, rfl, h, ha, q⟩
theorem rd_ixS {z : Str} {k : Int} {c : Nat} (h : z.length ≤ sizeLine) (ha : atI z.cps.toList k = some c) (q : Q (.str ⟨#[c]⟩) H) : rIx K (.str z) (.int k) H Q := .inr (.inr ⟨z, k, c, rfl, rfl, h, ha, q⟩)
theorem rd_ixS1 {z : Str} {k : Int} {c : Nat} (h : z.length ≤ sizeLine) (ha : atI z.cps.toList k = some c) (q : Q (.str ⟨#[c]⟩) H) : rIxS (.str z) (.int k) H Q := ⟨z, k, c, rfl, rfl, h, ha, q⟩
theorem rd_modA {i j : Int} (hj : 0 < j) (q : ∀ r, 0 ≤ r → r < j → Q (.int r) H) : rI (fun _ j => 0 < j) (fun i j => .int (i % j)) (.int i) (.int j) H Q :=
  ⟨i, j, rfl, rfl, hj, q _ (Int.emod_nonneg _ (by omega)) (Int.emod_lt_of_pos _ hj)⟩
theorem rd_setL {p : Addr} {xs : List V} {k : Int} {j : Nat} {P : Hp → Prop} (h : H p = some (.lst xs)) (hj : ixN xs.length k = some j) (q : P (upd H p (.lst (xs.set j v)))) : rSetL (.ref p) (.int k) v H P := ⟨p, xs, k, j, rfl, rfl, h, hj, q⟩
theorem rd_isi {t n : String} {b : Bool} (ty : TyX K H v (.type t)) (k : kitB t n = some b) (q : Q (.bl b) H) : rIsi K [v, .ty n] H Q := ⟨v, .ty n, _, _, b, rfl, ClsV.ty n, ty, kit_ty k, q⟩
theorem rd_lenS {z : Str} (h : z.length ≤ sizeLine) (q : Q (.int (z.length : Nat)) H) : rLenA K [.str z] H Q := ⟨_, _, rfl, ⟨h, rfl⟩, q⟩
theorem rd_lenL {p : Addr} {xs : List V} (h : SqL K H p xs) (q : Q (.int (xs.length : Nat)) H) : rLenA K [.ref p] H Q := ⟨_, _, rfl, .inl ⟨_, h, rfl⟩, q⟩
theorem rd_lenT {p : Addr} {xs : List V} (h : SqT K H p xs) (q : Q (.int (xs.length : Nat)) H) : rLenA K [.ref p] H Q := ⟨_, _, rfl, .inr ⟨_, h, rfl⟩, q⟩
theorem rd_inS {z : Str} {c : Nat} (q : Q (.bl (decide (c ∈ z.cps.toList))) H) : rInSg (.str ⟨#[c]⟩) (.str z) H Q := ⟨c, z, rfl, rfl, q⟩
theorem rd_notInS {z : Str} {c : Nat} (q : Q (.bl (!decide (c ∈ z.cps.toList))) H) : rNotInSg (.str ⟨#[c]⟩) (.str z) H Q := ⟨c, z, rfl, rfl, q⟩
theorem rd_max2 {a b : Int} (q : ∀ c : Int, (c = a ∧ b ≤ a ∨ c = b ∧ a < b) → Q (.int c) H) : rMax2 [.int a, .int b] H Q := ⟨a, b, rfl, q _ (by by_cases h : b > a <;> simp [h] <;> omega)⟩
theorem rd_min2 {a b : Int} (q : ∀ c : Int, (c = a ∧ a ≤ b ∨ c = b ∧ b < a) → Q (.int c) H) : rMin2 [.int a, .int b] H Q := ⟨a, b, rfl, q _ (by by_cases h : b < a <;> simp [h] <;> omega)⟩
theorem rd_find {a b : Str} (q : Q (.int (Txt.find a b)) H) : rFind (.str a) [.str b] H Q := ⟨a, b, rfl, rfl, q⟩
theorem rd_m1 {rr : V → List V → Hp → VK → Prop} (h : ta σ H fun x H1 => (∃ a, x = .str a) ∧ tb σ H1 fun y H2 => rr x [y] H2 Q) : tM1 rr ta tb σ H Q := h
theorem rd_exStr {a : Str} {B : Prop} (h : B) : (∃ b, V.str a = V.str b) ∧ B := ⟨⟨a, rfl⟩, h⟩
theorem small_sz {n : Nat} (h : n ≤ 100000) : n ≤ sizeLine := Nat.le_trans h (by decide)
/-- what a comprehension's turn hands on: the list at D has one more item -/
def LcK (n : Nat) (D : Addr) (Pv : Nat → List V → Hp → Prop) (i : Nat) : VK := fun y H4 => ∃ acc, H4 D = some (.lst acc) ∧ acc.length < sizeLine ∧ ∃ acc', acc'.length = i + 1 ∧ (upd H4 D (.lst (acc ++ [y]))) D = some (.lst acc') ∧ Pv (i + 1) acc' (upd H4 D (.lst (acc ++ [y])))
theorem lcK {n : Nat} {D : Addr} {Pv : Nat → List V → Hp → Prop} {i : Nat} {y : V} {H4 : Hp} {acc : List V} (h : H4 D = some (.lst acc)) (hl : acc.length = i) (hn : i < n) (hz : n ≤ 100000) (hp : Pv (i + 1) (acc ++ [y]) (upd H4 D (.lst (acc ++ [y])))) : LcK n D Pv i y H4 :=
  ⟨acc, h, Nat.lt_of_lt_of_le (show acc.length < 100000 by omega) (by decide), acc ++ [y], by rw [List.length_append, hl]; rfl, upd_same, hp⟩
theorem lc_yes {J : It} {n : Nat} {G : Hp → Prop} {Y : Nat → Hp → V → Hp → Prop} (w : Walk J n G Y) {te : TE} {vs : List Nat} {σ : L2.St} {H1 : Hp} {D : Addr} {Qd : Hp → Prop} (Pv : Nat → List V → Hp → Prop) (h0 : Pv 0 [] (upd H1 D (.lst [])))
    (hG : ∀ i acc H, i ≤ n → Pv i acc H → G H)
    (hs : ∀ i x acc H H', i < n → acc.length = i → H D = some (.lst acc) → Pv i acc H → Y i H x H' → g x (wipe σ vs) H' fun σ2 H2 => wipe σ2 vs = wipe σ vs ∧ te σ2 H2 (LcK n D Pv i))
    (hd : ∀ acc H, acc.length = n → H D = some (.lst acc) → Pv n acc H → Qd H) :
    ∃ W : Nat → Nat → Hp → Prop, (∃ m, W 0 m (upd H1 D (.lst []))) ∧ ∀ i m H, W i m H →
      (J.stop i H ∧ Qd H) ∨ (J.go i H ∧ ∃ Nx : Hp → Prop, (∀ H', Nx H' → ∃ m', m' < m ∧ W (i + 1) m' H') ∧ ∀ x H', J.yld i H x H' → g x (wipe σ vs) H' fun σ2 H2 => wipe σ2 vs = wipe σ vs ∧ tYes σ2 H2 fun b H3 =>
        if b = true then te σ2 H3 fun y H4 => ∃ acc, H4 D = some (.lst acc) ∧ acc.length < sizeLine ∧ Nx (upd H4 D (.lst (acc ++ [y]))) else Nx H3) :=
  lc_it w (fun i H => ∃ acc, acc.length = i ∧ H D = some (.lst acc) ∧ Pv i acc H) ⟨[], rfl, upd_same, h0⟩ (fun i H hi ⟨acc, _, _, p⟩ => hG i acc H hi p)
    (fun i x H H' hi ⟨acc, hl, hD, p⟩ y => hs i x acc H H' hi hl hD p y) (fun H ⟨acc, hl, hD, p⟩ => hd acc H hl hD p)
/-! what is walked, comprehensions, loops -/
def Rng1K (R : It → Hp → Prop) : List V → Hp → Prop := fun vs H1 => ∃ j : Int, vs = [.int j] ∧ -(2 ^ 62) ≤ j ∧ j < 2 ^ 62 ∧ R (Itr 0 j.toNat) H1
def Rng2K (R : It → Hp → Prop) : List V → Hp → Prop := fun vs H1 => ∃ i j : Int, vs = [.int i, .int j] ∧ (-(2 ^ 62) ≤ i ∧ i < 2 ^ 62 ∧ -(2 ^ 62) ≤ j ∧ j < 2 ^ 62) ∧ R (Itr i (j - i).toNat) H1
def LstIt (K : PySem.W.Frag) (R : It → Hp → Prop) : VK := fun x H1 => ∃ a, x = .ref a ∧ (∃ xs, SqL K H1 a xs) ∧ R (Itl K a) H1
def TupIt (K : PySem.W.Frag) (R : It → Hp → Prop) : VK := fun x H1 => ∃ a, x = .ref a ∧ (∃ xs, SqT K H1 a xs) ∧ R (Itt K a) H1
def StrIt (R : It → Hp → Prop) : VK := fun v H1 => ∃ x, v = .str x ∧ R (Its x) H1
theorem rd_iR1 {R : It → Hp → Prop} (h : tr σ H (Rng1K R)) : iRng1 tr σ H R := h
theorem rd_iR2 {R : It → Hp → Prop} (h : tr σ H (Rng2K R)) : iRng2 tr σ H R := h
theorem rd_iL {R : It → Hp → Prop} (h : te σ H (LstIt K R)) : iList K te σ H R := h
theorem rd_iT {R : It → Hp → Prop} (h : te σ H (TupIt K R)) : iTup K te σ H R := h
theorem rd_iS {R : It → Hp → Prop} (h : te σ H (StrIt R)) : iStr te σ H R := h
theorem rd_r1 {R : It → Hp → Prop} {j : Int} (h0 : -1000000 ≤ j) (h1 : j ≤ 1000000) (q : R (Itr 0 j.toNat) H) : Rng1K R [.int j] H := ⟨j, rfl, by omega, by omega, q⟩
theorem rd_r2 {R : It → Hp → Prop} {i j : Int} (h0 : -1000000000000 ≤ i ∧ i ≤ 1000000000000) (h1 : -1000000000000 ≤ j ∧ j ≤ 1000000000000) (q : R (Itr i (j - i).toNat) H) : Rng2K R [.int i, .int j] H := ⟨i, j, rfl, by omega, q⟩
theorem rd_il {R : It → Hp → Prop} {p : Addr} {xs : List V} (h : SqL K H p xs) (q : R (Itl K p) H) : LstIt K R (.ref p) H := ⟨p, rfl, ⟨xs, h⟩, q⟩
theorem rd_it {R : It → Hp → Prop} {p : Addr} {xs : List V} (h : SqT K H p xs) (q : R (Itt K p) H) : TupIt K R (.ref p) H := ⟨p, rfl, ⟨xs, h⟩, q⟩
theorem rd_is {R : It → Hp → Prop} {z : Str} (q : R (Its z) H) : StrIt R (.str z) H := ⟨z, rfl, q⟩
def LcGo (J : It) (g : TG) (tt : TT) (te : TE) (vs : List Nat) (σ : L2.St) (H1 : Hp) (Q : VK) : Prop := ∀ D, H1 D = none → ∃ W : Nat → Nat → Hp → Prop, (∃ m, W 0 m (upd H1 D (.lst []))) ∧ ∀ i m H, W i m H →
  (J.stop i H ∧ Q (.ref D) H) ∨ (J.go i H ∧ ∃ Nx : Hp → Prop, (∀ H', Nx H' → ∃ m', m' < m ∧ W (i + 1) m' H') ∧ ∀ x H', J.yld i H x H' → g x (wipe σ vs) H' fun σ2 H2 => wipe σ2 vs = wipe σ vs ∧ tt σ2 H2 fun b H3 =>
    if b = true then te σ2 H3 fun y H4 => ∃ acc, H4 D = some (.lst acc) ∧ acc.length < sizeLine ∧ Nx (upd H4 D (.lst (acc ++ [y]))) else Nx H3)
theorem rd_lc {wi : TI} {vs : List Nat} (h : wi σ H fun J H1 => LcGo J g tt te vs σ H1 Q) : tLc wi g tt te vs σ H Q := h
theorem lcgo {J : It} {n : Nat} {G : Hp → Prop} {Y : Nat → Hp → V → Hp → Prop} (w : Walk J n G Y) {vs : List Nat} {H1 : Hp} (Pv : Addr → Nat → List V → Hp → Prop) (h0 : ∀ D, H1 D = none → Pv D 0 [] (upd H1 D (.lst [])))
    (hG : ∀ D i acc H, H1 D = none → i ≤ n → Pv D i acc H → G H)
    (hs : ∀ D i x acc H H', H1 D = none → i < n → acc.length = i → H D = some (.lst acc) → Pv D i acc H → Y i H x H' → g x (wipe σ vs) H' fun σ2 H2 => wipe σ2 vs = wipe σ vs ∧ te σ2 H2 (LcK n D (Pv D) i))
    (hd : ∀ D acc H, H1 D = none → acc.length = n → H D = some (.lst acc) → Pv D n acc H → Q (.ref D) H) : LcGo J g tYes te vs σ H1 Q :=
  fun D hD => lc_yes w (Pv D) (h0 D hD) (fun i acc H a b => hG D i acc H hD a b) (fun i x acc H H' a b c d e => hs D i x acc H H' hD a b c d e) fun acc H a b c => hd D acc H hD a b c
def ForGo (J : It) (g : TG) (tb : TS) (D : Ends) (σ : L2.St) (H1 : Hp) : Prop := ∃ W : Nat → Nat → L2.St → Hp → Prop, (∃ m, W 0 m σ H1) ∧ ∀ i m σ H, W i m σ H →
  (J.stop i H ∧ D.nx σ H) ∨ (J.go i H ∧ ∃ N : L2.St → Hp → Prop, (∀ σ' H', N σ' H' → ∃ m', m' < m ∧ W (i + 1) m' σ' H') ∧ ∀ x H', J.yld i H x H' → g x σ H' fun σ2 H2 => tb { D with nx := N, ct := N, bk := D.nx } σ2 H2)
theorem rd_for {wi : TI} (h : wi σ H fun J H1 => ForGo J g t D σ H1) : tFor wi g t D σ H := h
theorem forgo {J : It} {n : Nat} {G : Hp → Prop} {Y : Nat → Hp → V → Hp → Prop} (w : Walk J n G Y) (Pv : Nat → L2.St → Hp → Prop) (h0 : Pv 0 σ H) (hG : ∀ i σ H, i ≤ n → Pv i σ H → G H)
    (hs : ∀ i x σ H H', i < n → Pv i σ H → Y i H x H' → g x σ H' fun σ2 H2 => t { D with nx := Pv (i + 1), ct := Pv (i + 1), bk := D.nx } σ2 H2) (hd : ∀ σ H, Pv n σ H → D.nx σ H) : ForGo J g t D σ H := for_it w Pv h0 hG hs hd
theorem rd_lstA {xs : List V} (hz : xs.length ≤ 100000) (q : ∀ p H', H p = none → Same H H' → H' p = some (.lst xs) → Q (.ref p) H') : LstK Q xs H :=
  ⟨Nat.le_trans hz (by decide), fun p hp => q p _ hp (fun b x e => by rw [upd_ne (ne_of_none e hp)]; exact e) upd_same⟩
theorem rd_tupA {xs : List V} (hz : xs.length ≤ 100000) (q : ∀ p H', H p = none → Same H H' → H' p = some (.tup xs) → Q (.ref p) H') : TupK Q xs H :=
  ⟨Nat.le_trans hz (by decide), fun p hp => q p _ hp (fun b x e => by rw [upd_ne (ne_of_none e hp)]; exact e) upd_same⟩
theorem len_le : ∀ {xs : List V} {n : Nat}, xs.length = n → n ≤ 100000 → xs.length ≤ 100000 := fun e h => e ▸ h
theorem rd_nx {a c d : L2.St → Hp → Prop} {b : VK} (h : a σ H) : Ends.nx ⟨a, b, c, d⟩ σ H := h
theorem rd_rt {a c d : L2.St → Hp → Prop} {b : VK} (h : b v H) : Ends.rt ⟨a, b, c, d⟩ v H := h
theorem rd_sl {rs : V → Option Int → Option Int → Hp → VK → Prop} {tl th : TO} (h : ta σ H fun x H1 => tl σ H1 fun lo H2 => th σ H2 fun hi H3 => rs x lo hi H3 Q) : tSl rs ta tl th σ H Q := h
theorem rd_nopart {P : Option Int → Hp → Prop} (h : P none H) : tNoPart σ H P := h
theorem rd_part {P : Option Int → Hp → Prop} (h : te σ H fun x H1 => ∃ i, x = .int i ∧ P (some i) H1) : tPart te σ H P := h
theorem rd_ex_int {P : Int → Prop} {b : Int} (h : P b) : ∃ k, V.int b = V.int k ∧ P k := ⟨b, rfl, h⟩
theorem rd_slS {z : Str} {lo hi : Option Int} (hz : z.length ≤ sizeLine) (h : Q (.str (cutS z lo hi)) H) : rSlS (.str z) lo hi H Q := ⟨z, rfl, hz, h⟩
theorem rd_addS {a b : Str} (hz : a.length + b.length ≤ 100000) (h : Q (.str (a ++ b)) H) : rAddSt (.str a) (.str b) H Q := ⟨a, b, rfl, rfl, Nat.le_trans hz (by decide), h⟩
theorem rd_repS {a : Str} {n : Int} (hm : MulOk a n) (h : Q (.str (Txt.mul a n)) H) : rRepS (.str a) (.int n) H Q := ⟨a, n, rfl, rfl, hm, h⟩
theorem rd_repr0 {t : Str} (h : shown0 v = some t) (q : Q (.str t) H) : rRepr0 [v] H Q := ⟨v, t, rfl, h, q⟩
def RevK (K : PySem.W.Frag) (Q : VK) : VK := fun x H1 => ∃ a xs, x = .ref a ∧ SqL K H1 a xs ∧ ∀ p, H1 p = none → Q (.ref p) (upd H1 p (.lst xs.reverse))
theorem rd_revL (h : te σ H (RevK K Q)) : tRevL K te σ H Q := h
theorem rd_revK {p : Addr} {xs : List V} (h : SqL K H p xs) (q : ∀ p H', H p = none → Same H H' → H' p = some (.lst xs.reverse) → Q (.ref p) H') : RevK K Q (.ref p) H :=
  ⟨p, xs, rfl, h, fun p hp => q p _ hp (fun b x e => by rw [upd_ne (ne_of_none e hp)]; exact e) upd_same⟩
theorem rd_cat {l b : Addr} {xs zs : List V} (h1 : H l = some (.lst xs)) (h2 : H b = some (.lst zs)) (hz : xs.length + zs.length ≤ 100000) (q : ∀ p H', H p = none → Same H H' → H' p = some (.lst (xs ++ zs)) → Q (.ref p) H') : rCat (.ref l) (.ref b) H Q :=
  ⟨l, b, xs, zs, rfl, rfl, h1, h2, Nat.le_trans hz (by decide), fun p hp => q p _ hp (fun b x e => by rw [upd_ne (ne_of_none e hp)]; exact e) upd_same⟩
theorem rd_catA {a b : Addr} {x y : V} {xs ys : List V} (h1 : SqT K H a (x :: xs)) (h2 : SqT K H b (y :: ys)) (hz : (x :: xs).length + (y :: ys).length ≤ 100000) (q : ∀ p H', H p = none → Same H H' → H' p = some (.tup ((x :: xs) ++ (y :: ys))) → Q (.ref p) H') : rCatA K (.ref a) (.ref b) H Q :=
  ⟨a, b, _, _, rfl, rfl, h1, h2, Nat.le_trans hz (by decide), (fun e => nomatch e), (fun _ e => nomatch e), fun _ _ p hp => q p _ hp (fun b x e => by rw [upd_ne (ne_of_none e hp)]; exact e) upd_same⟩
theorem cutV_whole {xs : List V} {lo hi : Option Int} (h : HT.sIx xs.length 0 lo = 0 ∧ HT.sIx xs.length xs.length hi = xs.length) : cutV xs lo hi = xs := by
  unfold cutV
  rw [h.1, h.2, List.drop_zero, Nat.sub_zero, List.take_length]
/-- a part of a tuple -/
theorem rd_slA {a : Addr} {xs : List V} {lo hi : Option Int} (h : H a = some (.tup xs)) (q : ∀ p H', Same H H' → H' p = some (.tup (cutV xs lo hi)) → Q (.ref p) H') : rSlA K (.ref a) lo hi H Q :=
  ⟨a, xs, rfl, .inl (.inl h), fun w => q a H (Same.refl H) (by rw [cutV_whole w]; exact h), fun _ p hp => q p _ (fun b x e => by rw [upd_ne (ne_of_none e hp)]; exact e) upd_same⟩
theorem rd_neD {x y : V} {d e : PyData} (hd : Dp K H x d) (he : Dp K H y e) (sd : SeqAt.shaped d = true) (se : SeqAt.shaped e = true) (q : Q (.bl (!PyData.eqv d e)) H) : rNeD K x y H Q := ⟨d, e, hd, he, sd, se, q⟩
theorem rd_eqD {x y : V} {d e : PyData} (hd : Dp K H x d) (he : Dp K H y e) (sd : SeqAt.shaped d = true) (se : SeqAt.shaped e = true) (q : Q (.bl (PyData.eqv d e)) H) : rEqD K x y H Q := ⟨d, e, hd, he, sd, se, q⟩
theorem rd_inT {x : V} {p : Addr} {xs : List V} (h : SqT K H p xs) (f1 : flatV x = true) (f2 : xs.all flatV = true) (q : Q (.bl (inV x xs)) H) : rIn K false x (.ref p) H Q := ⟨p, xs, rfl, .inr h, f1, f2, q⟩
theorem rd_inL {x : V} {p : Addr} {xs : List V} (h : SqL K H p xs) (f1 : flatV x = true) (f2 : xs.all flatV = true) (q : Q (.bl (inV x xs)) H) : rIn K false x (.ref p) H Q := ⟨p, xs, rfl, .inl h, f1, f2, q⟩
theorem rd_isBA {b : Bool} (q : Q (.bl (decide (v = .bl b))) H) : rIsBA v (.bl b) H Q := ⟨b, rfl, q⟩
theorem rd_gtup {n : Nat} {tt2 : List V → L2.St → Hp → (L2.St → Hp → Prop) → Prop} {P : L2.St → Hp → Prop} {p : Addr} {xs : List V} (h : SqT K H p xs) (hl : xs.length = n) (q : tt2 xs σ H P) : gTup K n tt2 (.ref p) σ H P := ⟨p, xs, rfl, h, hl, q⟩
theorem rd_glst {n : Nat} {tt2 : List V → L2.St → Hp → (L2.St → Hp → Prop) → Prop} {P : L2.St → Hp → Prop} {p : Addr} {xs : List V} (h : SqL K H p xs) (hl : xs.length = n) (q : tt2 xs σ H P) : gLst K n tt2 (.ref p) σ H P := ⟨p, xs, rfl, h, hl, q⟩
theorem rd_intB {b : Bool} (q : ∀ i : Int, 0 ≤ i → i < 2 → Q (.int i) H) : rInt1 [.bl b] H Q := .inr ⟨b, rfl, q _ (by cases b <;> decide) (by cases b <;> decide)⟩
theorem rd_gcons {tt2 : List V → L2.St → Hp → (L2.St → Hp → Prop) → Prop} {P : L2.St → Hp → Prop} {xs : List V} (h : g v σ H fun σ' H' => tt2 xs σ' H' P) : gCons g tt2 (v :: xs) σ H P := ⟨v, xs, rfl, h⟩
theorem rd_gnil {P : L2.St → Hp → Prop} (h : P σ H) : gNil [] σ H P := ⟨rfl, h⟩
/-- xs.append(e) -/
theorem rd_bm {T : String} {rr : V → List V → Hp → VK → Prop} (h : te σ H fun x H1 => tyV K T x H1 ∧ tr σ H1 fun xs H2 => rr x xs H2 Q) : tBM K T rr te tr σ H Q := h
theorem rd_tyL {p : Addr} {xs : List V} {B : Prop} (h : SqL K H p xs) (q : B) : tyV K "list" (.ref p) H ∧ B := ⟨.inl ⟨rfl, xs, h⟩, q⟩
theorem rd_append {l : Addr} {xs : List V} {y : V} (h : H l = some (.lst xs)) (hz : xs.length < 100000) (q : Q .non (upd H l (.lst (xs ++ [y])))) : rAppend (.ref l) [y] H Q := ⟨l, xs, y, rfl, rfl, h, Nat.lt_of_lt_of_le hz (by decide), q⟩
theorem rd_frm {D : Addr} {xs : List V} (h : H D = some (.lst xs)) (q : te σ (Wo D H) fun v H' => H' D = none → Q v (upd H' D (.lst xs))) : tFrm te σ H Q := ⟨D, xs, h, q⟩
theorem join_len {ys : List Str} (h : ∀ y ∈ ys, y.length = 1) : (Txt.join (Str.ofString "") ys).length ≤ ys.length ∧ (ys.map (·.length)).sum = ys.length := by
  have e : (ys.map (·.length)).sum = ys.length := by
    induction ys with
    | nil => rfl
    | cons a r ih =>
      rw [List.map_cons, List.sum_cons, ih fun y hy => h y (List.mem_cons_of_mem _ hy), h a List.mem_cons_self, List.length_cons]
      omega
  refine ⟨?_, e⟩
  have := size_glued (Str.ofString "") ys
  have e0 : (Str.ofString "").length = 0 := by decide +kernel
  rw [e0, Nat.mul_zero, Nat.add_zero, e] at this
  exact Nat.le_of_eq this
/-- "".join of signs -/
theorem rd_join1 {p : Addr} {ys : List Str} (h : SqL K H p (ys.map V.str)) (h1 : ∀ y ∈ ys, y.length = 1) (hl : ys.length ≤ 100000) (q : ∀ z : Str, z = Txt.join (Str.ofString "") ys → z.length ≤ ys.length → Q (.str z) H) : rJoin K (.str (Str.ofString "")) [.ref p] H Q := by
  obtain ⟨j1, j2⟩ := join_len h1
  have e0 : (Str.ofString "").length = 0 := by decide +kernel
  refine ⟨_, p, ys, rfl, rfl, .inl h, ?_, q _ rfl j1⟩
  rw [j2, e0]
  omega
theorem rd_disp1 {tk tv : TE} {kx : Key} {y : V} (hk : ∀ H' (P : VK), P (kV kx) H' → tk σ H' P) (hv : ∀ H' (P : VK), P y H' → tv σ H' P) (q : ∀ p H', H p = none → Same H H' → H' p = some (.dK [(kx, y)]) → Q (.ref p) H') : tDisp [(tk, tv)] σ H Q := by
  intro p hp
  refine hk _ _ (hv _ _ ⟨upd_same, [(kx, y)], rfl, (show 1 ≤ 15 by decide), ?_⟩)
  rw [upd_upd]
  exact q p _ hp (fun b x e => by rw [upd_ne (ne_of_none e hp)]; exact e) upd_same
theorem rd_dnew (q : ∀ p H', H p = none → Same H H' → H' p = some (.dK []) → Q (.ref p) H') : tDNewK σ H Q :=
  fun p hp => q p _ hp (fun b x e => by rw [upd_ne (ne_of_none e hp)]; exact e) upd_same
theorem atI_mem {xs : List V} {k : Int} (h0 : 0 ≤ k) (h1 : k < (xs.length : Int)) : ∃ v, v ∈ xs ∧ atI xs k = some v := by
  obtain ⟨j, rfl⟩ : ∃ j : Nat, k = (j : Int) := ⟨k.toNat, by omega⟩
  have hj : j < xs.length := by omega
  exact ⟨xs[j], List.getElem_mem hj, atI_nat (List.getElem?_eq_getElem hj)⟩
theorem rd_ixAny1 {xs : List V} {p : Addr} {k : Int} (h : SqL K H p xs) (h0 : 0 ≤ k) (h1 : k < (xs.length : Int)) (q : ∀ v, v ∈ xs → Q v H) : rIxL K (.ref p) (.int k) H Q := by
  obtain ⟨v, hv, ha⟩ := atI_mem h0 h1
  exact ⟨p, xs, k, v, rfl, rfl, h, ha, q v hv⟩
theorem rd_ixAny {xs : List V} {p : Addr} {k : Int} (h : SqL K H p xs) (h0 : 0 ≤ k) (h1 : k < (xs.length : Int)) (q : ∀ v, v ∈ xs → Q v H) : rIx K (.ref p) (.int k) H Q := .inl (rd_ixAny1 h h0 h1 q)
theorem rd_ixSany {z : Str} {k : Int} (hz : z.length ≤ 100000) (h0 : 0 ≤ k) (h1 : k < (z.length : Int)) (q : ∀ c, c ∈ z.cps.toList → Q (.str ⟨#[c]⟩) H) : rIxS (.str z) (.int k) H Q := by
  obtain ⟨j, rfl⟩ : ∃ j : Nat, k = (j : Int) := ⟨k.toNat, by omega⟩
  have hl : z.length = z.cps.toList.length := by simp [Str.length]
  have hj : j < z.cps.toList.length := by omega
  exact ⟨z, _, z.cps.toList[j], rfl, rfl, Nat.le_trans hz (by decide), atI_nat (List.getElem?_eq_getElem hj), q _ (List.getElem_mem hj)⟩
/-- a comprehension whose list is set aside while an element is evaluated -/
theorem lcgoF {J : It} {n k : Nat} {G : Hp → Prop} {Y : Nat → Hp → V → Hp → Prop} {te : TE} {vs : List Nat} {H1 : Hp} (w : Walk J n G Y) (hz : n ≤ 100000) (Yx : Nat → V → Prop) (hY : ∀ i H x H', i < n → G H → Y i H x H' → H' = H ∧ Yx i x)
    (hw : ∀ x, wipe ((wipe σ vs).set k (some x)) vs = wipe σ vs) (Pv : Nat → List V → Hp → Prop) (h0 : Pv 0 [] H1) (hG : ∀ i acc H D, i ≤ n → Pv i acc H → H D = none → G (upd H D (.lst acc)))
    (hs : ∀ i x acc H (Qc : VK), i < n → acc.length = i → Pv i acc H → Yx i x → (∀ y H', Pv (i + 1) (acc ++ [y]) H' → Qc y H') → te ((wipe σ vs).set k (some x)) H Qc)
    (hd : ∀ acc H D, acc.length = n → Pv n acc H → H D = none → Q (.ref D) (upd H D (.lst acc))) : LcGo J (gName k) tYes (tFrm te) vs σ H1 Q := by
  refine fun D hD => lc_yes w (fun i acc H => ∃ H0, H = upd H0 D (.lst acc) ∧ H0 D = none ∧ Pv i acc H0) ⟨H1, rfl, hD, h0⟩ (fun i acc H hi ⟨H0, e, hn, p⟩ => e ▸ hG i acc H0 D hi p hn) ?_ ?_
  · rintro i x acc H H' hi hla hDa ⟨H0, rfl, hn, p⟩ y
    obtain ⟨rfl, yx⟩ := hY i _ x H' hi (hG i acc H0 D (Nat.le_of_lt hi) p hn) y
    refine ⟨hw _, D, acc, upd_same, ?_⟩
    rw [wo_upd hn]
    exact hs i x acc H0 _ hi hla p yx fun y H' p' hD' => lcK (acc := acc) upd_same hla hi hz ⟨H', by rw [upd_upd], hD', p'⟩
  · rintro acc H hla hDa ⟨H0, rfl, hn, p⟩
    exact hd acc H0 D hla p hn
theorem walkR_Y {lo : Int} {i : Nat} {H : Hp} {x : V} {H' : Hp} (h : YFn (fun i => .int (lo + (i : Nat))) i H x H') : H' = H ∧ x = .int (lo + (i : Nat)) := h
/-- a comprehension over the signs of a text, its element a function of the sign -/
theorem lcgo_str {te : TE} {vs : List Nat} {k : Nat} {f : Nat → V} {z : Str} (hz : z.length ≤ 100000) (hw : ∀ x, wipe ((wipe σ vs).set k (some x)) vs = wipe σ vs)
    (he : ∀ (c : Nat) (H' : Hp) (Q' : VK), c ∈ z.cps.toList → Q' (f c) H' → te ((wipe σ vs).set k (some (.str ⟨#[c]⟩))) H' Q')
    (hq : ∀ D, H D = none → Q (.ref D) (upd H D (.lst (z.cps.toList.map f)))) : LcGo (Its z) (gName k) tYes (tFrm te) vs σ H Q := by
  have hl : z.cps.size = z.cps.toList.length := by simp
  refine lcgoF walk_str hz (fun i x => ∃ c, z.cps.toList[i]? = some c ∧ x = .str ⟨#[c]⟩) (fun i H x H' _ _ ⟨e, c, hc, hx⟩ => ⟨e, c, by simpa using hc, hx⟩) hw (fun i acc H' => H' = H ∧ acc = (z.cps.toList.take i).map f) ⟨rfl, rfl⟩ (fun _ _ _ _ _ _ _ => trivial) ?_ ?_
  · rintro i x acc H' Qc hin hla ⟨rfl, ha⟩ ⟨c, hc, rfl⟩ hq'
    refine he c _ _ (List.mem_of_getElem? hc) (hq' _ _ ⟨rfl, ?_⟩)
    rw [List.take_add_one, hc, List.map_append, ← ha]
    rfl
  · rintro acc H' D hla ⟨rfl, ha⟩ hD
    have e : z.cps.toList.take z.cps.size = z.cps.toList := List.take_of_length_le (by rw [← hl]; exact Nat.le_refl _)
    rw [e] at ha
    subst ha
    exact hq D hD
theorem rd_all {p : Addr} {bs : List Bool} (h : SqL K H p (bs.map V.bl)) (q : Q (.bl (bs.all id)) H) : rAll K [.ref p] H Q := ⟨p, bs, rfl, h, q⟩
theorem rd_intStr {z : Str} {n : Int} (h : PySem.intText? z = some n) (hz : z.length ≤ 640) (q : Q (.int n) H) : rIntS [.str z] H Q := ⟨z, n, rfl, h, hz, q⟩
theorem rd_strI {i : Int} (h : i.natAbs.log2 < 1920) (q : Q (.str (toString i)) H) : rStrI [.int i] H Q := ⟨i, rfl, h, q⟩
theorem atI0 {α : Type} {a : α} {l : List α} : atI (a :: l) (0 : Int) = some a := atI_nat (j := 0) rfl
theorem atI1 {α : Type} {a b : α} {l : List α} : atI (a :: b :: l) (1 : Int) = some b := atI_nat (j := 1) rfl
theorem atI2 {α : Type} {a b c : α} {l : List α} : atI (a :: b :: c :: l) (2 : Int) = some c := atI_nat (j := 2) rfl
theorem atI3 {α : Type} {a b c d : α} {l : List α} : atI (a :: b :: c :: d :: l) (3 : Int) = some d := atI_nat (j := 3) rfl
theorem atI4 {α : Type} {a b c d e : α} {l : List α} : atI (a :: b :: c :: d :: e :: l) (4 : Int) = some e := atI_nat (j := 4) rfl
theorem atI5 {α : Type} {a b c d e f : α} {l : List α} : atI (a :: b :: c :: d :: e :: f :: l) (5 : Int) = some f := atI_nat (j := 5) rfl
theorem atI6 {α : Type} {a b c d e f g : α} {l : List α} : atI (a :: b :: c :: d :: e :: f :: g :: l) (6 : Int) = some g := atI_nat (j := 6) rfl
theorem atI7 {α : Type} {a b c d e f g h : α} {l : List α} : atI (a :: b :: c :: d :: e :: f :: g :: h :: l) (7 : Int) = some h := atI_nat (j := 7) rfl
theorem sqL_of {K : PySem.W.Frag} {H : Hp} {p : Addr} {xs : List V} (h : H p = some (.lst xs)) : SqL K H p xs := .inl (.inl h)
theorem sqT_of {K : PySem.W.Frag} {H : Hp} {p : Addr} {xs : List V} (h : H p = some (.tup xs)) : SqT K H p xs := .inl (.inl h)
end
end My
local macro_rules | `(tactic| walk_at "sql") => `(tactic| first | assumption | exact My.sqL_of L2.upd_same | (refine My.sqL_of ?_; assumption))
local macro_rules | `(tactic| walk_at "sz") => `(tactic| first | assumption | exact My.small_sz (by omega) | exact My.small_sz (by decide +kernel))
local macro_rules | `(tactic| walk_at "sqt") => `(tactic| first | assumption | exact My.sqT_of L2.upd_same | (refine My.sqT_of ?_; assumption))
local macro_rules | `(tactic| walk_at "ati") => `(tactic| first | with_reducible exact My.atI0 | with_reducible exact My.atI1 | with_reducible exact My.atI2 | with_reducible exact My.atI3 | with_reducible exact My.atI4 | with_reducible exact My.atI5 | with_reducible exact My.atI6 | with_reducible exact My.atI7)
local macro_rules | `(tactic| walk_at "ri") => `(tactic| first | exact ⟨by decide, by decide, by decide⟩ | exact ⟨by decide, by decide +kernel⟩ | exact .inl ⟨by decide, by decide⟩ | exact .inr ⟨by decide, by decide⟩)
local macro_rules | `(tactic| walk_at "rd1") => `(tactic| first
  | (with_reducible refine My.rd_seq ?_)
  | (with_reducible refine My.rd_asg ?_)
  | ((with_reducible refine My.rd_var (v := ?vv) ?hvar ?_); (case hvar => exact rfl))
  | (with_reducible refine My.rd_c ?_)
  | (with_reducible refine My.rd_op ?_)
  | (with_reducible refine My.rd_I0 ?_)
  | ((with_reducible refine My.rd_I ?hri ?_); (case hri => walk_at "ri"))
  | (with_reducible refine My.rd_name ?_)
  | ((with_reducible refine My.rd_aug (v := ?vv) ?hvar ?_); (case hvar => exact rfl))
  | (with_reducible refine My.rd_ipI ?_)
  | (with_reducible refine My.rd_next ?_)
  | (with_reducible refine My.rd_ret ?_)
  | (with_reducible refine My.rd_retN ?_)
  | (with_reducible refine My.rd_drop ?_)
  | (with_reducible refine My.rd_ifS ?_)
  | (with_reducible refine My.rd_if ?_)
  | (with_reducible refine My.rd_test ?_)
  | (with_reducible refine My.rd_B ?_)
  | (with_reducible refine My.rd_not ?_)
  | (with_reducible refine My.rd_and ?_)
  | (with_reducible refine My.rd_or ?_)
  | (with_reducible refine My.rd_nil ?_)
  | (with_reducible refine My.rd_cons ?_)
  | (with_reducible refine My.rd_cb ?_)
  | (with_reducible refine My.rd_call ?_)
  | (with_reducible refine My.rd_ex_bl ?_)
  | (with_reducible refine L2.iteT ?_)
  | (with_reducible refine L2.iteF ?_)
  | (with_reducible refine My.rd_iteN ?_)
  | (with_reducible refine My.rd_inS ?_)
  | (with_reducible refine My.rd_notInS ?_)
  | (with_reducible refine My.rd_find ?_)
  | (with_reducible refine My.rd_gcons ?_)
  | (with_reducible refine My.rd_gnil ?_)
  | (with_reducible refine My.rd_bm ?_)
  | (with_reducible refine My.rd_isBA ?_)
  | (with_reducible refine My.rd_m1 ?_)
  | (with_reducible refine My.rd_exStr ?_)
  | ((with_reducible refine My.rd_lenS ?hsz ?_); (case hsz => walk_at "sz"))
  | ((with_reducible refine My.rd_lenL (xs := ?xx) ?hsql ?_); (case hsql => walk_at "sql"))
  | ((with_reducible refine My.rd_lenT (xs := ?xx) ?hsql ?_); (case hsql => walk_at "sqt"))
  | (with_reducible refine My.rd_nx ?_)
  | (with_reducible refine My.rd_rt ?_)
  | (with_reducible refine My.rd_lc ?_)
  | (with_reducible refine My.rd_for ?_)
  | (with_reducible refine My.rd_iR1 ?_)
  | (with_reducible refine My.rd_iR2 ?_)
  | (with_reducible refine My.rd_iL ?_)
  | (with_reducible refine My.rd_iT ?_)
  | (with_reducible refine My.rd_iS ?_)
  | (with_reducible refine My.rd_is ?_)
  | (with_reducible refine My.rd_sl ?_)
  | (with_reducible refine My.rd_revL ?_)
  | (with_reducible refine My.rd_nopart ?_)
  | (with_reducible refine My.rd_part ?_)
  | (with_reducible refine My.rd_ex_int ?_)
  | ((with_reducible refine My.rd_slS ?hsz ?_); (case hsz => walk_at "sz"))
  | (with_reducible refine My.rd_un ?_)
  | (with_reducible refine My.rd_U ?_)
  | (with_reducible refine My.rd_chain ?_)
  | (with_reducible refine My.rd_lst ?_)
  | (with_reducible refine My.rd_tup ?_)
  | (with_reducible refine My.rd_andV ?_)
  | (with_reducible refine My.rd_orV ?_)
  | (with_reducible refine My.rd_notV ?_)
  | (with_reducible refine My.rd_sub ?_)
  | ((with_reducible refine My.rd_ixL (v := ?vv) (xs := ?xx) ?hsql ?hati ?_); (case hsql => walk_at "sql"); (case hati => walk_at "ati"))
  | ((with_reducible refine My.rd_ixL1 (v := ?vv) (xs := ?xx) ?hsql ?hati ?_); (case hsql => walk_at "sql"); (case hati => walk_at "ati"))
  | ((with_reducible refine My.rd_ixT (v := ?vv) (xs := ?xx) ?hsql ?hati ?_); (case hsql => walk_at "sqt"); (case hati => walk_at "ati"))
  | ((with_reducible refine My.rd_ixT1 (v := ?vv) (xs := ?xx) ?hsql ?hati ?_); (case hsql => walk_at "sqt"); (case hati => walk_at "ati"))
  | ((with_reducible refine My.rd_eq ?hscal ?_); (case hscal => rfl))
  | ((with_reducible refine My.rd_ne ?hscal ?_); (case hscal => rfl)))
local macro_rules | `(tactic| walk_at "rd") => `(tactic| (repeat' walk_at "rd1"))

/-! ### P0G: defs that are called where no repr is under way (so that repr of lists, tuples, dicts is told), and the law's end for such a def -/
namespace My
open PySem PySem.Spec PyProof.Rows L2
/-- as FnOk, where the guards around are known to be none; no exception leaves the def -/
structure FnOkG (P : Program) (w : World) (K : PySem.W.Frag) (mg : Str → Option Value) (base : Heap) (k : Nat) (f : Addr) (fd : FuncData) (ps : List Str) (sp : Sp) : Prop where
  len : ∀ vs H Q E, sp vs H Q E → vs.length = ps.length
  run : ∀ (A : Around) (outer : List Env) (s : Shared) (H : Hp) (args : Args) (us : List Value) (vs : List V) (Q : VK) (E : XK), A.guards = some [] → Room k A → Env0 P w K mg base A outer s H →
    BindsTo s fd args (ps.zip us) → Vals vs us → sp vs H Q E → codeAny (model P w) A (.call (.ref f) args) (CR CX0 outer P w H s Q E) s
section
variable {P : Program} {w : World} {K : PySem.W.Frag} {mg : Str → Option Value} {base : Heap}
theorem okG {x qual : Str} {st : Stmt} {f : Addr} {fd : FuncData} {N ps : List Str} {k : Nat} {sp : Sp} (F : Fun K x qual st f fd) (S : FnScope N ps (defScope st)) (len : ∀ vs H Q E, sp vs H Q E → vs.length = ps.length)
    (hbody : ∀ (cdv : Value) (A : Around) (outer : List Env) (s : Shared) (H : Hp) (vs : List V) (Q : VK) (E : XK), A.guards = some [] → Room k (A.deeper (envOfC qual (defScope st) s.heap.objs.size f cdv)) → sp vs H Q E →
      ∃ t, PSs (cxOf CX0 P w K mg base N qual (defScope st) f cdv A outer s H E).nox (defBody st) t ∧ t { nx := fun _ H' => Q .non H', rt := Q } (L2.start N vs) H) : FnOkG P w K mg base (k + 1) f fd ps sp := by
  obtain ⟨oc, od, kV, doc, pm, an, cdv, ct, osl, rfl, lk, hcd⟩ := F.ex
  constructor
  · exact len
  intro A outer s H args us vs Q E hguard hroom env bind rel hsp
  have inK : K.In s.heap := env.mod.kin.keeps fun b o e => And.left (env.bs b o e)
  have nolim : s.heap.NoLimit := env.mod.nolimit.keeps fun b o e => And.left (env.bs b o e)
  have kinds : ∀ y ∈ ps.zip us, (defScope st).names.lookup y.1 = some .local ∨ ((defScope st).names.lookup y.1 = some .cell ∧ ((cellsFrom (s.heap.objs.size + 1) (defScope st).names []).lookup y.1).isSome = true) := by
    rintro ⟨n, v⟩ hy
    have hn : n ∈ ps := And.left (List.of_mem_zip hy)
    exact (S.par n hn).imp id fun q => ⟨q, PySem.W.cellsFrom_some _ _ _ (.inl q)⟩
  have cr := PySem.W.codeRec_of inK hcd
  refine codeAny_call_function (Room.depth hroom) (inK _ _ lk) rfl S.co S.gen rfl cr (bind _ _ _ _ ?enter)
  case enter =>
    refine wpAny_newFunctionEnv_cells S.kind kinds ?_
    rintro env' rfl s1 made
    refine ⟨Heap.NoLimit.keeps nolim made.toInCall.keep, ?_⟩
    refine codeAny_func ?_
    obtain ⟨t, drv, rd⟩ := hbody cdv A outer s H vs Q E hguard (Room.deeper hroom _) hsp
    have I0 := inv_start (CX := CX0) (cd := cdv) (A := A) (E := E) S hroom.hd env (len _ _ _ _ hsp) rel made
    refine wpAny_mono (drv.nox.run [] s1 (L2.start N vs) H _ I0 rd) ?_ fun e s' q => q
    intro fl s' q
    cases fl with
    | next =>
      obtain ⟨σ', H', J, z⟩ := q
      exact ⟨V.non, H', J.os, J.bare, J.base, J.hok, rfl, z⟩
    | ret u =>
      obtain ⟨v, σ', H', J, rv, z⟩ := q
      exact ⟨v, H', J.os, J.bare, J.base, J.hok, rv, z⟩
    | brk => exact q.elim fun _ q => q.elim fun _ q => False.elim q.2
    | cont => exact q.elim fun _ q => q.elim fun _ q => False.elim q.2
/-- f(e, ..), f such a def -/
theorem pe_callG {X : Cx} {k : Nat} {f : Addr} {fd : FuncData} {ps : List Str} {sp : Sp} {x : Str} {p pos : Pos} {e : Expr} {es : List Expr} {t : TA} (hG : X.A.guards = some []) (F : FnOkG X.prog X.w X.K X.mg X.base k f fd ps sp) (hr : Room k X.A) (hg : Gl X x)
    (hm : X.mg x = some (.ref f)) (hk : PySem.W.keepIn X.K (.ref f) = true) (hb : Binds X.K fd ps []) (ha : PA X (e :: es) t) (hdb : (x == ("__debug__" : Str)) = false := by decide)
    (he : starEach (e :: es) X.env = (false, eval e X.env) :: starEach es X.env := by rfl) (hpl : (backTo pos (starEach es X.env)).any (·.1) = false := by rfl) : PE X (.Call (.Name x p) (e :: es) [] pos) (tCall sp [] E0 t) := by
  constructor
  intro pins s σ H Q I h
  refine wpAny_Call_Name_kw (ld_glob I hg hm ?go hdb)
  case go =>
    have args := ha.run pos pins s σ H _ I h
    refine PySem.W.callWith_K (h₀ := X.base) I.ok.mod.kin hk (thn args ?then_) he hpl
    rintro us s1 ⟨vs, H1, I1, rel, q⟩
    have q : sp vs H1 Q E0 := by rw [List.append_nil] at q; exact q
    have hl : us.length = ps.length := rel.length.symm.trans (F.len _ _ _ _ q)
    have bind := hb s1 us I1.kIn (by rw [List.append_nil]; exact hl)
    rw [List.append_nil] at bind
    refine ⟨I1.kIn, wpAny_call (codeAny_mono (F.run X.A X.stack s1 H1 ⟨us, []⟩ us vs Q E0 hG hr I1.env0 bind rel q) ?_)⟩
    intro r s2 hq
    match r, hq with
    | .error _, hq => exact False.elim hq
    | .ok (.ret u), hq => exact I1.after hq
    | .ok .next, hq => exact False.elim hq
    | .ok .brk, hq => exact False.elim hq
    | .ok .cont, hq => exact False.elim hq
/-- the script's list in the abstract heap: tracked as it stands, or an object of the written part -/
theorem script_heap {s : Shared} {a : Addr} {vs : List Value} {ns : List Int} (KX : K.In s.heap) (ha : s.heap.get? a = some { cls := .type "list", data := .seq vs.toArray }) (hi : IntsAre vs ns) (hl : ns.length ≤ sizeLine) :
    ∃ H : Hp, Only H ∧ SqL K H a (ns.map V.int) ∧ HOk P w H s.heap ∧ ∀ b u, H b = some u → b = a ∧ K.lookup a = none := by
  have rv := vals_ints hi
  cases hk : K.lookup a with
  | some o =>
    have e := KX a o hk
    rw [ha] at e
    cases e
    have no : ∀ (b : Addr) (u : HO), ¬ (fun _ => none : Hp) b = some u := fun b u z => by
      have z' : (none : Option HO) = some u := z
      cases z'
    refine ⟨fun _ => none, fun _ => .inl rfl, ?_, fun b u z => (no b u z).elim, fun b u z => (no b u z).elim⟩
    exact .inr ⟨_, vs.toArray, _, hk, rfl, rfl, rfl, by rw [List.size_toArray, hi.length]; exact hl, by simpa using rv⟩
  | none =>
    refine ⟨fun b => if b = a then some (.frz { cls := .type "list", data := .seq vs.toArray } (.lst (ns.map V.int))) else none, ?_, .inl (.inr ⟨_, if_pos rfl⟩), ?_, ?_⟩
    · intro b
      by_cases e : b = a
      · exact .inr ⟨_, _, if_pos e⟩
      · exact .inl (if_neg e)
    · intro b u z
      by_cases e : b = a
      · subst e
        cases (if_pos rfl).symm.trans z
        refine ⟨ha, ?_, vs, _, rv, ha⟩
        rw [List.length_map]
        exact hl
      · cases (if_neg e).symm.trans z
    · intro b u z
      by_cases e : b = a
      · exact ⟨e, rfl⟩
      · cases (if_neg e).symm.trans z
/-- the law's def, called at the heap behind the top -/
theorem law_callG {mb : Str → Option Value} {k : Nat} {fa a : Addr} {fd : FuncData} {x : Str} {sp : Sp} {s : Shared} {vs : List Value} {ns : List Int} (KX : K.In s.heap) (hns : s.heap.Ns mainGlobals mg) (hb : s.heap.Ns builtinsNs mb)
    (hbb : ∀ x : Str, x ≠ "__name__" → mb x = bootBuiltins x) (hlim : s.heap.NoLimit) (hg : s.gens = #[]) (ha : s.heap.get? a = some { cls := .type "list", data := .seq vs.toArray }) (hi : IntsAre vs ns) (hl : ns.length ≤ sizeLine) (hr : Room k callerA)
    (F : ∀ base : Heap, K.In base → base.Ns mainGlobals mg → FnOkG P w K mg base k fa fd [x] sp) (hbind : ∀ (s : Shared) (u : Value), BindsTo s fd ⟨[u], []⟩ [(x, u)])
    (hsp : ∀ H : Hp, Only H → SqL K H a (ns.map V.int) → sp [.ref a] H (fun v _ => v = .bl true) fun _ _ _ => False) :
    codeAny (model P w) callerA (.call (.ref fa) ⟨[.ref a], []⟩) (fun r s' => r = .ok (.ret (.bool true)) ∧ OldK s.heap s'.heap ∧ s'.os = s.os ∧ AllBare s'.gens) s := by
  obtain ⟨H, only, seq, hok, at_⟩ := script_heap (P := P) (w := w) KX ha hi hl
  have hid : ∀ {b : Addr} {o : Obj}, s.heap.get? b = some o → (∀ u, H b ≠ some u) → (hidT s.heap H).get? b = some o := fun {b o} e n => hidT_get e (by
    cases q : H b with
    | none => rfl
    | some u => exact (n u q).elim)
  have nodict : ∀ {b : Addr} {o : Obj} {es : Array DictEntry} {ep : Nat}, s.heap.get? b = some o → o.data = .dict es ep → ∀ u, H b ≠ some u := fun {b o es ep} e d u q => by
    have eb := (at_ b u q).1
    subst eb
    rw [ha] at e
    cases e
    cases (show Data.seq vs.toArray _ = Data.dict es ep from d)
  have names : ∀ {b : Addr} {m : Str → Option Value}, s.heap.Ns b m → (hidT s.heap H).Ns b m := by
    rintro b m ⟨o, es, ep, e, d, r⟩
    exact ⟨o, es, ep, hid e (nodict e d), d, r⟩
  have inK : K.In (hidT s.heap H) := by
    intro b o e
    refine hid (KX b o e) fun u q => ?_
    obtain ⟨eb, ek⟩ := at_ b u q
    rw [← eb, e] at ek
    cases ek
  have md : Mod K mg (hidT s.heap H) := by
    obtain ⟨mc, h1, h2⟩ := hlim
    exact ⟨inK, names hns, ⟨mb, names hb, hbb⟩, mc, names h1, h2⟩
  have env : Env0 P w K mg (hidT s.heap H) callerA [] s H := by
    refine ⟨rfl, md, ?_, Nat.le_of_eq (hidT_size _ _), trivial, fun b hb => absurd hb (List.not_mem_nil (a := b)), hok, .of_eq hg⟩
    exact fun b o e => of_hidT e
  have run := (F _ inK (names hns)).run callerA [] s H ⟨[.ref a], []⟩ [.ref a] [.ref a] _ _ rfl hr env (hbind s (.ref a)) (.cons rfl .nil) (hsp H only seq)
  refine codeAny_mono run ?_
  intro r s' h
  match r, h with
  | .error _, h => exact False.elim h
  | .ok .next, h => exact False.elim h
  | .ok .brk, h => exact False.elim h
  | .ok .cont, h => exact False.elim h
  | .ok (.ret u), h =>
    obtain ⟨v, H', os, bare, un, hok', rel, rfl⟩ := h
    cases (show u = Value.bool true from rel)
    refine ⟨rfl, OldK.of_keep ?_, os, bare⟩
    intro b o e
    cases q : H b with
    | none => exact un.keep b o e q (List.not_mem_nil (a := b)) (List.not_mem_nil (a := b))
    | some u =>
      rcases only b with z | ⟨ob, xs, z⟩
      · rw [q] at z
        cases z
      · have g1 := (hok b _ z).1
        have g2 := (hok' b _ (un.frzs b ob _ z)).1
        rw [g1] at e
        cases e
        exact g2
end
theorem walk_ofG {l : PySem.W.OpenLaw} {n k : Nat} {q : Program} {loose : List Str} {XP : (Str → Option Value) → Heap → Prop} {YP : World → Heap → Prop} {d : DefRec} {K : Params → PySem.W.Frag} {sp : World → Sp} {x : Str} (hn : l.most = some n) (hn2 : n ≤ sizeLine)
    (hdf : d.params.defaults = []) (hr : Room k callerA) (hY : ∀ (w : World) (h : Heap), YP w h → (K w.params).In h)
    (F : ∀ (w : World) (mg : Str → Option Value) (fa : Addr) (h : Heap), (K w.params).In h → h.Ns mainGlobals mg → mg d.name = some (.ref fa) →
      ∃ fd : FuncData, (∀ (s : Shared) (u : Value), BindsTo s fd ⟨[u], []⟩ [(x, u)]) ∧ ∀ base : Heap, (K w.params).In base → base.Ns mainGlobals mg → FnOkG l.prog w (K w.params) mg base k fa fd [x] (sp w))
    (hsp : ∀ (w : World) (H : Hp) (a : Addr) (ns : List Int), ns.length ≤ n → (∀ z ∈ ns, Builtin.Int.intBits z ≤ 1048576) → Only H → SqL (K w.params) H a (ns.map V.int) → sp w [.ref a] H (fun v _ => v = .bl true) fun _ _ _ => False) :
    PySem.W.WalkO q loose XP YP l.row.toRowW d [] (fun f vs => PySem.call f vs) := by
  refine Att.attach_callB hn hdf ?_
  intro w s0 s1 mg mb fa o pm cd doc a vs ns G Y _ _ _ hmg hobj hints hlen hbits hgens
  have KX := hY w _ Y
  obtain ⟨fd, hb, hF⟩ := F w mg fa _ KX G.T.g hmg
  exact law_callG KX G.T.g G.T.b G.T.builtins G.T.nolimit hgens hobj hints (Nat.le_trans hlen hn2) hr hF hb fun H hO hS => hsp w H a ns hlen hbits hO hS
/-! #### repr of data -/
mutual
theorem dp_nodict {K : PySem.W.Frag} {H : Hp} : ∀ (d : PyData) (v : V), Dp K H v d → d.hasDict = false
  | .none, _, _ => by simp only [PyData.hasDict]
  | .bool _, _, _ => by simp only [PyData.hasDict]
  | .int _, _, _ => by simp only [PyData.hasDict]
  | .str _, _, _ => by simp only [PyData.hasDict]
  | .list ds, _, h => by
    cases h with
    | lst _ ha =>
      simp only [PyData.hasDict]
      exact dp_nodictAll ds _ ha
  | .tuple ds, _, h => by
    cases h with
    | tup _ ha =>
      simp only [PyData.hasDict]
      exact dp_nodictAll ds _ ha
  | .dict _, _, h => by cases h
theorem dp_nodictAll {K : PySem.W.Frag} {H : Hp} : ∀ (ds : List PyData) (vs : List V), DpAll K H vs ds → PyData.hasDictAll ds = false
  | [], _, _ => by simp only [PyData.hasDictAll]
  | d :: ds, _, h => by
    cases h with
    | cons h1 h2 => simp only [PyData.hasDictAll, dp_nodict d _ h1, dp_nodictAll ds _ h2, Bool.or_self]
end
def rReprD (K : PySem.W.Frag) : List V → Hp → VK → Prop := fun xs H Q => ∃ v d, xs = [v] ∧ Dp K H v d ∧ d.showable = true ∧ d.depth ≤ 60 ∧ d.shown.length ≤ 10000000 ∧ Q (.str d.shown) H
theorem reprD {X : Cx} {K : PySem.W.Frag} (hK : X.K = K) (hG : X.A.guards = some []) (hu : X.A.units + 64 < cLine) : CallR X (.builtin "repr") (rReprD K) := by
  subst hK
  intro pins s σ H xs us Q I r h
  obtain ⟨v, d, rfl, hd, hs, hdep, hlen, q⟩ := h
  obtain ⟨u, rfl, r1⟩ := vals1 r
  have hlen' : d.shown.length ≤ sizeLine := Nat.le_trans hlen (by decide)
  cases v with
  | ref a =>
    cases (show u = Value.ref a from r1)
    obtain ⟨as, rd⟩ := Dp.reads I d (.ref a) (.ref a) hd rfl
    refine repr_of_reads' rd hs (PyData.noDict_hsm (dp_nodict d _ hd)) hG (by omega) (fun b o e => e) (fun h' u tk keep => ?_) hlen'
    exact ⟨.str _, H, I.kept (t' := tk) keep, ⟨_, rfl⟩, q⟩
  | non =>
    cases hd
    cases (show u = Value.none from r1)
    simp only [PyData.shown] at q
    exact PySem.P.repr_of_none ⟨.str _, H, I.tok _, ⟨_, rfl⟩, q⟩
  | bl b =>
    cases hd
    cases (show u = Value.bool b from r1)
    simp only [PyData.shown] at q
    refine PySem.P.repr_of_bool ⟨.str _, H, I.tok _, ⟨_, rfl⟩, ?_⟩
    cases b <;> exact q
  | int i =>
    cases hd
    obtain ⟨t', rfl⟩ := (show ∃ t, u = Value.int i t from r1)
    simp only [PyData.shown] at q
    simp only [PyData.showable, decide_eq_true_eq] at hs
    exact PySem.P.repr_of_int hs ⟨.str _, H, I.tok _, ⟨_, rfl⟩, q⟩
  | str x =>
    cases hd
    obtain ⟨t', rfl⟩ := (show ∃ t, u = Value.str x t from r1)
    simp only [PyData.shown] at q hlen'
    exact PySem.P.repr_of_str ⟨.str _, H, I.tok _, ⟨_, rfl⟩, q⟩ hlen'
  | byt _ => cases hd
  | flt _ => cases hd
  | ty _ => cases hd
theorem rd_reprD {K : PySem.W.Frag} {H : Hp} {Q : VK} {v : V} {d : PyData} (hd : Dp K H v d) (h1 : d.showable = true) (h2 : d.depth ≤ 60) (h3 : d.shown.length ≤ 10000000) (q : Q (.str d.shown) H) : rReprD K [v] H Q := ⟨v, d, rfl, hd, h1, h2, h3, q⟩
theorem dp_tup {K : PySem.W.Frag} {H : Hp} {p : Addr} {xs : List V} {ds : List PyData} (h : H p = some (.tup xs)) (a : DpAll K H xs ds) : Dp K H (.ref p) (.tuple ds) := .tup (sqT_of h) a
theorem dp_lst {K : PySem.W.Frag} {H : Hp} {p : Addr} {xs : List V} {ds : List PyData} (h : H p = some (.lst xs)) (a : DpAll K H xs ds) : Dp K H (.ref p) (.list ds) := .lst (sqL_of h) a
mutual
theorem dp_same {K : PySem.W.Frag} {H H' : Hp} (e : ∀ b o, H b = some o → H' b = some o) : ∀ (d : PyData) (v : V), Dp K H v d → Dp K H' v d
  | .none, _, h => by cases h; exact .non
  | .bool b, _, h => by cases h; exact .bl b
  | .int i, _, h => by cases h; exact .int i
  | .str x, _, h => by cases h; exact .str x
  | .list ds, _, h => by
    cases h with
    | lst hs ha =>
      refine .lst ?_ (dp_sameAll e ds _ ha)
      rcases hs with (h | ⟨o, h⟩) | h
      · exact .inl (.inl (e _ _ h))
      · exact .inl (.inr ⟨o, e _ _ h⟩)
      · exact .inr h
  | .tuple ds, _, h => by
    cases h with
    | tup hs ha =>
      refine .tup ?_ (dp_sameAll e ds _ ha)
      rcases hs with (h | ⟨o, h⟩) | h
      · exact .inl (.inl (e _ _ h))
      · exact .inl (.inr ⟨o, e _ _ h⟩)
      · exact .inr h
  | .dict _, _, h => by cases h
theorem dp_sameAll {K : PySem.W.Frag} {H H' : Hp} (e : ∀ b o, H b = some o → H' b = some o) : ∀ (ds : List PyData) (vs : List V), DpAll K H vs ds → DpAll K H' vs ds
  | [], _, h => by cases h; exact .nil
  | d :: ds, _, h => by
    cases h with
    | cons h1 h2 => exact .cons (dp_same e d _ h1) (dp_sameAll e ds _ h2)
end
/-- an expression, then what is made of it, with a word between them -/
def tCutE (te : TE) : TE := fun σ H Q => ∃ P : VK, te σ H P ∧ ∀ v H', P v H' → Q v H'
theorem pe_cutE {X : Cx} {e : Expr} {te : TE} (he : PE X e te) : PE X e (tCutE te) := by
  refine ⟨fun pins s σ H Q I h => ?_⟩
  obtain ⟨P, h, k⟩ := h
  exact thn (he.run pins s σ H P I h) fun v s1 ⟨x, H1, I1, r, q⟩ => ⟨x, H1, I1, r, k _ _ q⟩
theorem rd_cutE {te : TE} {σ : L2.St} {H : Hp} {Q : VK} (P : VK) (h : te σ H P) (k : ∀ v H', P v H' → Q v H') : tCutE te σ H Q := ⟨P, h, k⟩
/-- max of a list of numbers -/
def rMaxI (K : PySem.W.Frag) : List V → Hp → VK → Prop := fun vs H Q => ∃ (a : Addr) (ns : List Int), vs = [V.ref a] ∧ SqL K H a (ns.map V.int) ∧ 0 < ns.length ∧ ∀ m, m ∈ ns → (∀ y, y ∈ ns → y ≤ m) → Q (.int m) H
theorem maxIK {X : Cx} {K : PySem.W.Frag} (h : X.K = K) (hc : X.calm = true) : CallR X (.builtin "max") (rMaxI K) := by
  subst h
  exact cr_max hc
theorem rd_maxI {K : PySem.W.Frag} {H : Hp} {Q : VK} {a : Addr} {ns : List Int} (h : SqL K H a (ns.map V.int)) (n : 0 < ns.length) (q : ∀ m, m ∈ ns → (∀ y, y ∈ ns → y ≤ m) → Q (.int m) H) : rMaxI K [.ref a] H Q := ⟨a, ns, rfl, h, n, q⟩
end My

/-! ### P0E: == and != of nested lists, tuples, objects (by identity), flat values: what comes of it, as it comes -/
namespace My
open PySem PySem.Spec PyProof.Rows L2
/-- two sequences -/
def EqS (K : PySem.W.Frag) (H : Hp) (E : V → V → Bool → Prop) (x y : V) (c : Bool) : Prop :=
  (∃ (a b : Addr) (xs ys : List V) (e : Nat → Bool), x = .ref a ∧ y = .ref b ∧ SqL K H a xs ∧ SqL K H b ys ∧ (a ≠ b ∨ c = true) ∧ xs.length = ys.length ∧ (∀ j u v, xs[j]? = some u → ys[j]? = some v → E u v (e j)) ∧ c = (List.range xs.length).all e) ∨
  (∃ (a b : Addr) (xs ys : List V) (e : Nat → Bool), x = .ref a ∧ y = .ref b ∧ SqT K H a xs ∧ SqT K H b ys ∧ (a ≠ b ∨ c = true) ∧ (∀ j u v, xs[j]? = some u → ys[j]? = some v → E u v (e j)) ∧ c = ((List.range (min xs.length ys.length)).all e && xs.length == ys.length)) ∨
  (∃ (a b : Addr) (xs ys : List V), x = .ref a ∧ y = .ref b ∧ SqL K H a xs ∧ SqL K H b ys ∧ a ≠ b ∧ xs.length ≠ ys.length ∧ c = false)
/-- what x == y comes to, of nesting below n -/
def EqQ (K : PySem.W.Frag) (H : Hp) : Nat → V → V → Bool → Prop
  | 0 => fun _ _ _ => False
  | n + 1 => fun x y c => (flatV x = true ∧ flatV y = true ∧ c = eqV x y) ∨ (∃ a, x = .ref a ∧ y = .ref a ∧ c = true) ∨ EqS K H (EqQ K H n) x y c
theorem rc_atQ {prog : Program} {w : World} {A : Around} {s : Shared} {a b : Value} {k : Bool} {E Q : Value → Shared → Prop} (h : SeqAt.RcAt A s a b k) (q : Q (.bool k) s) : wpAny (model prog w) A (compareOp .Eq a b) Q E s := h prog w E Q q
section
variable {X : Cx} {pins : List (Addr × Obj)} {σ : L2.St} {H : Hp} {s : Shared}
theorem vals_at {xs : List V} {us : List Value} (h : Vals xs us) : ∀ (j : Nat) (x : V) (u : Value), xs[j]? = some x → us[j]? = some u → RelV x u := by
  induction h with
  | nil => exact fun _ _ _ e _ => nomatch e
  | cons r _ ih =>
    intro j x u e1 e2
    cases j with
    | zero =>
      cases e1
      cases e2
      exact r
    | succ j => exact ih j x u e1 e2
theorem get_of {α : Type} {l : List α} {j : Nat} (h : j < l.length) : l[j]? = some l[j] := List.getElem?_eq_getElem h
theorem eqS_run (I : Inv X pins σ H s) {A : Around} {F : V → V → Bool → Prop} (hu : A.units < cLine) (ih : ∀ x y v u c, F x y c → RelV x v → RelV y u → SeqAt.EqAt A.in1 s v u c) {x y : V} {v u : Value} {c : Bool} (h : EqS X.K H F x y c) (rx : RelV x v) (ry : RelV y u) :
    SeqAt.RcAt A s v u c ∧ SeqAt.RcNeAt A s v u (!c) := by
  have items : ∀ {xs ys : List V} {us ws : List Value} {e : Nat → Bool}, Vals xs us → Vals ys ws → (∀ j a b, xs[j]? = some a → ys[j]? = some b → F a b (e j)) → ∀ j (h1 : j < us.toArray.size) (h2 : j < ws.toArray.size), SeqAt.EqAt A.in1 s us.toArray[j] ws.toArray[j] (e j) := by
    intro xs ys us ws e r1 r2 hp j h1 h2
    have l1 : j < xs.length := by rw [r1.length]; simpa using h1
    have l2 : j < ys.length := by rw [r2.length]; simpa using h2
    have q1 := vals_at r1 j _ us[j] (get_of l1) (get_of (by simpa using h1))
    have q2 := vals_at r2 j _ ws[j] (get_of l2) (get_of (by simpa using h2))
    exact ih _ _ _ _ _ (hp j _ _ (get_of l1) (get_of l2)) q1 q2
  rcases h with ⟨a, b, xs, ys, e, rfl, rfl, ha, hb, hn, hl, hp, rfl⟩ | ⟨a, b, xs, ys, e, rfl, rfl, ha, hb, hn, hp, rfl⟩ | ⟨a, b, xs, ys, rfl, rfl, ha, hb, hn, hl, rfl⟩
  · cases (show v = Value.ref a from rx)
    cases (show u = Value.ref b from ry)
    obtain ⟨us, r1, p1, _⟩ := I.list ha
    obtain ⟨ws, r2, p2, _⟩ := I.list hb
    have hsz : us.toArray.size = ws.toArray.size := by
      rw [List.size_toArray, List.size_toArray, ← r1.length, ← r2.length]
      exact hl
    have z1 := SeqAt.RcAt.lists p1.isList p2.isList hsz hu (items r1 r2 hp)
    have z2 := SeqAt.RcNeAt.lists p1.isList p2.isList hsz hu (items r1 r2 hp)
    rw [List.size_toArray, ← r1.length] at z1 z2
    exact ⟨z1, z2⟩
  · cases (show v = Value.ref a from rx)
    cases (show u = Value.ref b from ry)
    obtain ⟨us, r1, p1, _⟩ := I.tuple ha
    obtain ⟨ws, r2, p2, _⟩ := I.tuple hb
    have z1 := SeqAt.RcAt.tuples p1 p2 hu (items r1 r2 hp)
    have z2 := SeqAt.RcNeAt.tuples p1 p2 hu (items r1 r2 hp)
    rw [List.size_toArray, List.size_toArray, ← r1.length, ← r2.length] at z1 z2
    exact ⟨z1, z2⟩
  · cases (show v = Value.ref a from rx)
    cases (show u = Value.ref b from ry)
    obtain ⟨us, r1, p1, _⟩ := I.list ha
    obtain ⟨ws, r2, p2, _⟩ := I.list hb
    have hsz : (us.toArray.size != ws.toArray.size) = true := by
      rw [List.size_toArray, List.size_toArray, ← r1.length, ← r2.length]
      simpa using hl
    exact ⟨SeqAt.RcAt.lists_lengths p1.isList p2.isList hsz hu, SeqAt.RcNeAt.lists_lengths p1.isList p2.isList hsz hu⟩
theorem eqQ_run (I : Inv X pins σ H s) : ∀ (n : Nat) (A : Around), A.units + n < cLine → ∀ (x y : V) (v u : Value) (c : Bool), EqQ X.K H n x y c → RelV x v → RelV y u → SeqAt.EqAt A s v u c
  | 0, _, _, _, _, _, _, _, h, _, _ => (show False from h).elim
  | n + 1, A, hu, x, y, v, u, c, h, rx, ry => by
    rcases h with ⟨f1, f2, rfl⟩ | ⟨a, rfl, rfl, rfl⟩ | h
    · exact eqAt_V rx ry f1 f2
    · cases (show v = Value.ref a from rx)
      cases (show u = Value.ref a from ry)
      exact SeqAt.EqAt.same _
    · have step := (eqS_run I (A := A) (by omega) (eqQ_run I n A.in1 (by show A.units + 1 + n < cLine; omega)) h rx ry).1
      obtain ⟨a, b, rfl, rfl, hab⟩ : ∃ a b, x = .ref a ∧ y = .ref b ∧ (a ≠ b ∨ c = true) := by
        rcases h with ⟨a, b, _, _, _, e1, e2, _, _, h, _⟩ | ⟨a, b, _, _, _, e1, e2, _, _, h, _⟩ | ⟨a, b, _, _, e1, e2, _, _, h, _⟩
        · exact ⟨a, b, e1, e2, h⟩
        · exact ⟨a, b, e1, e2, h⟩
        · exact ⟨a, b, e1, e2, .inl h⟩
      cases (show v = Value.ref a from rx)
      cases (show u = Value.ref b from ry)
      by_cases e : a = b
      · subst e
        rcases hab with h | rfl
        · exact absurd rfl h
        · exact SeqAt.EqAt.same _
      · exact SeqAt.EqAt.of_refs e step
end
section
variable {X : Cx} {K : PySem.W.Frag}
def rEqW (K : PySem.W.Frag) : R2 := fun x y H Q => ∃ n c, n ≤ 60 ∧ EqS K H (EqQ K H n) x y c ∧ Q (.bl c) H
def rNeW (K : PySem.W.Frag) : R2 := fun x y H Q => ∃ n c, n ≤ 60 ∧ EqS K H (EqQ K H n) x y c ∧ Q (.bl (!c)) H
theorem eqW (h : X.K = K) (hu : X.A.units + 64 < cLine) : OpR X (compareOp .Eq) (rEqW K) := by
  subst h
  intro pins s σ H x y v u Q I rx ry h
  obtain ⟨n, c, hn, h, q⟩ := h
  exact (eqS_run I (A := X.A) (by omega) (eqQ_run I n X.A.in1 (by show X.A.units + 1 + n < cLine; omega)) h rx ry).1 _ _ _ _ ⟨.bl c, H, I, rfl, q⟩
theorem neW (h : X.K = K) (hu : X.A.units + 64 < cLine) : OpR X (compareOp .NotEq) (rNeW K) := by
  subst h
  intro pins s σ H x y v u Q I rx ry h
  obtain ⟨n, c, hn, h, q⟩ := h
  exact (eqS_run I (A := X.A) (by omega) (eqQ_run I n X.A.in1 (by show X.A.units + 1 + n < cLine; omega)) h rx ry).2 _ _ _ _ ⟨.bl (!c), H, I, rfl, q⟩
/-- None against a list, too -/
def rEqO (K : PySem.W.Frag) : R2 := fun x y H Q => (x = .non ∧ ∃ b ys, y = .ref b ∧ SqL K H b ys ∧ Q (.bl false) H) ∨ rEqW K x y H Q
theorem eqO (h : X.K = K) (hu : X.A.units + 64 < cLine) : OpR X (compareOp .Eq) (rEqO K) := by
  intro pins s σ H x y v u Q I rx ry hh
  rcases hh with ⟨rfl, b, ys, rfl, hb, q⟩ | hh
  · subst h
    cases (show v = Value.none from rx)
    cases (show u = Value.ref b from ry)
    obtain ⟨ws, r2, p2, _⟩ := I.list hb
    exact SeqAt.RcAt.none_list (A := X.A) p2.isList (by omega) _ _ _ _ ⟨.bl false, H, I, rfl, q⟩
  · exact eqW h hu _ _ _ _ _ _ _ _ _ I rx ry hh
end
/-! #### alike: what compares equal -/
/-- equal, of nesting below n -/
def Alk (K : PySem.W.Frag) (H : Hp) (n : Nat) (x y : V) : Prop := EqQ K H n x y true
def AlkAll (K : PySem.W.Frag) (H : Hp) (n : Nat) (xs ys : List V) : Prop := xs.length = ys.length ∧ ∀ (j : Nat) (u v : V), xs[j]? = some u → ys[j]? = some v → Alk K H n u v
section
variable {K : PySem.W.Frag} {H : Hp} {n : Nat}
theorem Alk.flat {x : V} (h : flatV x = true) : Alk K H (n + 1) x x := .inl ⟨h, h, by
  cases x with
  | non => rfl
  | bl b => exact (beq_self_eq_true b).symm
  | int i => exact (beq_self_eq_true i).symm
  | str z => exact (beq_self_eq_true z).symm
  | _ => cases h⟩
theorem Alk.ref {a : Addr} : Alk K H (n + 1) (.ref a) (.ref a) := .inr (.inl ⟨a, rfl, rfl, rfl⟩)
theorem all_true (k : Nat) : true = (List.range k).all fun _ => true := (List.all_eq_true.mpr fun _ _ => rfl).symm
theorem eqS_lst {a b : Addr} {xs ys : List V} (ha : SqL K H a xs) (hb : SqL K H b ys) (h : AlkAll K H n xs ys) : EqS K H (EqQ K H n) (.ref a) (.ref b) true :=
  .inl ⟨a, b, xs, ys, fun _ => true, rfl, rfl, ha, hb, .inr rfl, h.1, h.2, all_true _⟩
theorem eqS_tup {a b : Addr} {xs ys : List V} (ha : SqT K H a xs) (hb : SqT K H b ys) (h : AlkAll K H n xs ys) : EqS K H (EqQ K H n) (.ref a) (.ref b) true :=
  .inr (.inl ⟨a, b, xs, ys, fun _ => true, rfl, rfl, ha, hb, .inr rfl, h.2, by rw [← all_true, h.1, beq_self_eq_true]; rfl⟩)
theorem Alk.lst {a b : Addr} {xs ys : List V} (ha : SqL K H a xs) (hb : SqL K H b ys) (h : AlkAll K H n xs ys) : Alk K H (n + 1) (.ref a) (.ref b) := .inr (.inr (eqS_lst ha hb h))
theorem Alk.tup {a b : Addr} {xs ys : List V} (ha : SqT K H a xs) (hb : SqT K H b ys) (h : AlkAll K H n xs ys) : Alk K H (n + 1) (.ref a) (.ref b) := .inr (.inr (eqS_tup ha hb h))
theorem AlkAll.nil : AlkAll K H n [] [] := ⟨rfl, fun _ _ _ h => nomatch h⟩
theorem AlkAll.cons {x y : V} {xs ys : List V} (h : Alk K H n x y) (r : AlkAll K H n xs ys) : AlkAll K H n (x :: xs) (y :: ys) := ⟨by rw [List.length_cons, List.length_cons, r.1], fun j u v e1 e2 => by
  cases j with
  | zero =>
    cases e1
    cases e2
    exact h
  | succ j => exact r.2 j u v e1 e2⟩
theorem AlkAll.flat {xs : List V} (h : ∀ x ∈ xs, flatV x = true) : AlkAll K H (n + 1) xs xs := ⟨rfl, fun j u v e1 e2 => by
  cases e1.symm.trans e2
  exact Alk.flat (h _ (List.mem_of_getElem? e1))⟩
theorem rd_eqW {Q : VK} {x y : V} (h : EqS K H (EqQ K H n) x y true) (q : Q (.bl true) H) (hn : n ≤ 60 := by decide) : rEqW K x y H Q := ⟨n, true, hn, h, q⟩
theorem rd_neW {Q : VK} {x y : V} (h : EqS K H (EqQ K H n) x y true) (q : Q (.bl false) H) (hn : n ≤ 60 := by decide) : rNeW K x y H Q := ⟨n, true, hn, h, q⟩
theorem rd_eqWF {Q : VK} {x y : V} (h : EqS K H (EqQ K H n) x y false) (q : Q (.bl false) H) (hn : n ≤ 60 := by decide) : rEqW K x y H Q := ⟨n, false, hn, h, q⟩
theorem rd_neWF {Q : VK} {x y : V} (h : EqS K H (EqQ K H n) x y false) (q : Q (.bl true) H) (hn : n ≤ 60 := by decide) : rNeW K x y H Q := ⟨n, false, hn, h, q⟩
/-- lists, tuples of unlike lengths -/
theorem eqS_len {a b : Addr} {xs ys : List V} (ha : SqL K H a xs) (hb : SqL K H b ys) (h : a ≠ b) (l : xs.length ≠ ys.length) : EqS K H (EqQ K H n) (.ref a) (.ref b) false := .inr (.inr ⟨a, b, xs, ys, rfl, rfl, ha, hb, h, l, rfl⟩)
end
end My

/-! ### P0F: comprehensions with a test; zip of a tuple with a list -/
namespace My
open PySem PySem.Spec PyProof.Rows L2
section
variable {K : PySem.W.Frag} {σ : L2.St} {Q : VK}
/-- the list under construction is set aside while an element is evaluated, not while the test is -/
theorem lcgoT {J : It} {n k : Nat} {G : Hp → Prop} {Y : Nat → Hp → V → Hp → Prop} {te : TE} {tt : TT} {vs : List Nat} {H1 : Hp} (w : Walk J n G Y) (hz : n ≤ 100000) (Yx : Nat → V → Prop) (hY : ∀ i H x H', i < n → G H → Y i H x H' → H' = H ∧ Yx i x)
    (hw : ∀ x, wipe ((wipe σ vs).set k (some x)) vs = wipe σ vs) (Pv : Nat → List V → Hp → Prop) (h0 : Pv 0 [] H1) (hG : ∀ i acc H D, i ≤ n → Pv i acc H → H D = none → G (upd H D (.lst acc)))
    (hs : ∀ i x acc H D, i < n → acc.length ≤ i → Pv i acc H → H D = none → Yx i x → ∃ b : Bool, (∀ P : Bool → Hp → Prop, P b (upd H D (.lst acc)) → tt ((wipe σ vs).set k (some x)) (upd H D (.lst acc)) P) ∧ (b = false → Pv (i + 1) acc H) ∧
      (b = true → ∀ Qc : VK, (∀ y H', Pv (i + 1) (acc ++ [y]) H' → Qc y H') → te ((wipe σ vs).set k (some x)) H Qc))
    (hd : ∀ acc H D, acc.length ≤ n → Pv n acc H → H D = none → Q (.ref D) (upd H D (.lst acc))) : LcGo J (gName k) tt (tFrm te) vs σ H1 Q := by
  refine fun D hD => lc_it w (fun i H => ∃ acc H0, acc.length ≤ i ∧ H = upd H0 D (.lst acc) ∧ H0 D = none ∧ Pv i acc H0) ⟨[], H1, Nat.le_refl _, rfl, hD, h0⟩ (fun i H hi ⟨acc, H0, _, e, hn, p⟩ => e ▸ hG i acc H0 D hi p hn) ?_ ?_
  · rintro i x H H' hi ⟨acc, H0, hla, rfl, hn, p⟩ y
    obtain ⟨rfl, yx⟩ := hY i _ x H' hi (hG i acc H0 D (Nat.le_of_lt hi) p hn) y
    refine ⟨hw _, ?_⟩
    obtain ⟨b, ht, hf, hy⟩ := hs i x acc H0 D hi hla p hn yx
    refine ht _ ?_
    cases b with
    | false => exact iteF ⟨acc, H0, by omega, rfl, hn, hf rfl⟩
    | true =>
      refine iteT ⟨D, acc, upd_same, ?_⟩
      rw [wo_upd hn]
      refine hy rfl _ fun y H' p' hD' => ⟨acc, upd_same, Nat.lt_of_lt_of_le (show acc.length < 100000 by omega) (by decide), acc ++ [y], H', by rw [List.length_append]; show acc.length + 1 ≤ i + 1; omega, by rw [upd_upd], hD', p'⟩
  · rintro H ⟨acc, H0, hla, rfl, hn, p⟩
    exact hd acc H0 D hla p hn
/-- .. its test, its element functions of the item -/
theorem lcgo_filt {J : It} {n k : Nat} {G : Hp → Prop} {Y : Nat → Hp → V → Hp → Prop} {te : TE} {tt : TT} {vs : List Nat} {H1 : Hp} {xs : List V} (w : Walk J n G Y) (hn : xs.length = n) (hz : n ≤ 100000) (f : V → Bool) (g : V → V) (hY : ∀ i H x H', i < n → G H → Y i H x H' → H' = H ∧ xs[i]? = some x)
    (hw : ∀ x, wipe ((wipe σ vs).set k (some x)) vs = wipe σ vs) (hG : ∀ acc D, H1 D = none → G (upd H1 D (.lst acc)))
    (ht : ∀ x ∈ xs, ∀ acc D (P : Bool → Hp → Prop), H1 D = none → P (f x) (upd H1 D (.lst acc)) → tt ((wipe σ vs).set k (some x)) (upd H1 D (.lst acc)) P)
    (he : ∀ x ∈ xs, f x = true → ∀ Q' : VK, Q' (g x) H1 → te ((wipe σ vs).set k (some x)) H1 Q')
    (hq : ∀ D, H1 D = none → Q (.ref D) (upd H1 D (.lst ((xs.filter f).map g)))) : LcGo J (gName k) tt (tFrm te) vs σ H1 Q := by
  refine lcgoT w hz (fun i x => xs[i]? = some x) hY hw (fun i acc H => H = H1 ∧ acc = ((xs.take i).filter f).map g) ⟨rfl, rfl⟩ (fun i acc H D _ p hD => by rw [p.1] at hD ⊢; exact hG acc D hD) ?_ ?_
  · rintro i x acc H D hi hla ⟨rfl, rfl⟩ hD hx
    have hm := List.mem_of_getElem? hx
    have e : xs.take (i + 1) = xs.take i ++ [x] := by rw [List.take_add_one, hx]; rfl
    refine ⟨f x, fun P p => ht x hm _ D P hD p, fun hf => ⟨rfl, ?_⟩, fun hf Qc hq' => he x hm hf _ (hq' _ _ ⟨rfl, ?_⟩)⟩
    · rw [e, List.filter_append, List.filter_cons, hf]
      simp
    · rw [e, List.filter_append, List.filter_cons, hf]
      simp
  · rintro acc H D hla ⟨rfl, rfl⟩ hD
    have e : xs.take n = xs := List.take_of_length_le (by omega)
    rw [e]
    exact hq D hD
/-- .. over the signs of a text -/
theorem lcgo_fstr {te : TE} {tt : TT} {vs : List Nat} {k : Nat} {z : Str} {H : Hp} (f : Nat → Bool) (g : Nat → V) (hz : z.length ≤ 100000) (hw : ∀ x, wipe ((wipe σ vs).set k (some x)) vs = wipe σ vs)
    (ht : ∀ (c : Nat) (H' : Hp) (P : Bool → Hp → Prop), c ∈ z.cps.toList → P (f c) H' → tt ((wipe σ vs).set k (some (.str ⟨#[c]⟩))) H' P)
    (he : ∀ (c : Nat) (H' : Hp) (Q' : VK), c ∈ z.cps.toList → f c = true → Q' (g c) H' → te ((wipe σ vs).set k (some (.str ⟨#[c]⟩))) H' Q')
    (hq : ∀ D, H D = none → Q (.ref D) (upd H D (.lst ((z.cps.toList.filter f).map g)))) : LcGo (Its z) (gName k) tt (tFrm te) vs σ H Q := by
  have hl : z.cps.size = z.cps.toList.length := by simp
  refine lcgoT walk_str hz (fun i x => ∃ c, z.cps.toList[i]? = some c ∧ x = .str ⟨#[c]⟩) (fun i H x H' _ _ ⟨e, c, hc, hx⟩ => ⟨e, c, by simpa using hc, hx⟩) hw (fun i acc H' => H' = H ∧ acc = ((z.cps.toList.take i).filter f).map g) ⟨rfl, rfl⟩ (fun _ _ _ _ _ _ _ => trivial) ?_ ?_
  · rintro i x acc H' D hi hla ⟨rfl, rfl⟩ hD ⟨c, hc, rfl⟩
    have hm := List.mem_of_getElem? hc
    have e : z.cps.toList.take (i + 1) = z.cps.toList.take i ++ [c] := by rw [List.take_add_one, hc]; rfl
    refine ⟨f c, fun P p => ht c _ P hm p, fun hf => ⟨rfl, ?_⟩, fun hf Qc hq' => he c _ _ hm hf (hq' _ _ ⟨rfl, ?_⟩)⟩
    · rw [e, List.filter_append, List.filter_cons, hf]
      simp
    · rw [e, List.filter_append, List.filter_cons, hf]
      simp
  · rintro acc H' D hla ⟨rfl, rfl⟩ hD
    have e : z.cps.toList.take z.cps.size = z.cps.toList := List.take_of_length_le (by rw [← hl]; exact Nat.le_refl _)
    rw [e]
    exact hq D hD
end
end My

/-! ### P0L: lists of tuples, tables with int keys, what a deed leaves alone; comprehensions of any target -/
namespace My
open PySem PySem.Spec PyProof.Rows L2
section
variable {K : PySem.W.Frag} {σ : L2.St} {H : Hp} {Q : VK} {v : V}
/-! #### a comprehension, its target and test of any kind; its list is set aside while an element is evaluated -/
theorem lcgoG {J : It} {n : Nat} {G : Hp → Prop} {Y : Nat → Hp → V → Hp → Prop} {te : TE} {tt : TT} {g : TG} {vs : List Nat} {H1 : Hp} (w : Walk J n G Y) (hz : n ≤ 100000) (Yx : Nat → V → Prop) (hY : ∀ i H x H', i < n → G H → Y i H x H' → H' = H ∧ Yx i x)
    (Pv : Nat → List V → Hp → Prop) (h0 : Pv 0 [] H1) (hG : ∀ i acc H D, i ≤ n → Pv i acc H → H D = none → G (upd H D (.lst acc)))
    (hs : ∀ i x acc H D, i < n → acc.length ≤ i → Pv i acc H → H D = none → Yx i x → ∃ (σ2 : L2.St) (b : Bool), wipe σ2 vs = wipe σ vs ∧
      (∀ P : L2.St → Hp → Prop, P σ2 (upd H D (.lst acc)) → g x (wipe σ vs) (upd H D (.lst acc)) P) ∧
      (∀ P : Bool → Hp → Prop, P b (upd H D (.lst acc)) → tt σ2 (upd H D (.lst acc)) P) ∧ (b = false → Pv (i + 1) acc H) ∧
      (b = true → ∀ Qc : VK, (∀ y H', Pv (i + 1) (acc ++ [y]) H' → Qc y H') → te σ2 H Qc))
    (hd : ∀ acc H D, acc.length ≤ n → Pv n acc H → H D = none → Q (.ref D) (upd H D (.lst acc))) : LcGo J g tt (tFrm te) vs σ H1 Q := by
  refine fun D hD => lc_it w (fun i H => ∃ acc H0, acc.length ≤ i ∧ H = upd H0 D (.lst acc) ∧ H0 D = none ∧ Pv i acc H0) ⟨[], H1, Nat.le_refl _, rfl, hD, h0⟩ (fun i H hi ⟨acc, H0, _, e, hn, p⟩ => e ▸ hG i acc H0 D hi p hn) ?_ ?_
  · rintro i x H H' hi ⟨acc, H0, hla, rfl, hn, p⟩ y
    obtain ⟨rfl, yx⟩ := hY i _ x H' hi (hG i acc H0 D (Nat.le_of_lt hi) p hn) y
    obtain ⟨σ2, b, hw, hg, ht, hf, hy⟩ := hs i x acc H0 D hi hla p hn yx
    refine hg _ ⟨hw, ?_⟩
    refine ht _ ?_
    cases b with
    | false => exact iteF ⟨acc, H0, by omega, rfl, hn, hf rfl⟩
    | true =>
      refine iteT ⟨D, acc, upd_same, ?_⟩
      rw [wo_upd hn]
      refine hy rfl _ fun y H' p' hD' => ⟨acc, upd_same, Nat.lt_of_lt_of_le (show acc.length < 100000 by omega) (by decide), acc ++ [y], H', by rw [List.length_append]; show acc.length + 1 ≤ i + 1; omega, by rw [upd_upd], hD', p'⟩
  · rintro H ⟨acc, H0, hla, rfl, hn, p⟩
    exact hd acc H0 D hla p hn
theorem yes_b {P : Bool → Hp → Prop} (h : P true H) : tYes σ H P := h
/-! #### lists of tuples -/
inductive RowsAt (H : Hp) : List V → List (List V) → Prop
  | nil : RowsAt H [] []
  | cons {t : Addr} {r : List V} {ps : List V} {rs : List (List V)} (h : H t = some (.tup r)) (k : RowsAt H ps rs) : RowsAt H (.ref t :: ps) (r :: rs)
theorem RowsAt.same {H H' : Hp} (s : ∀ b xs, H b = some (.tup xs) → H' b = some (.tup xs)) {ps : List V} {rs : List (List V)} (h : RowsAt H ps rs) : RowsAt H' ps rs := by
  induction h with
  | nil => exact .nil
  | cons h _ ih => exact .cons (s _ _ h) ih
theorem RowsAt.keep {H H' : Hp} (s : Same H H') {ps : List V} {rs : List (List V)} (h : RowsAt H ps rs) : RowsAt H' ps rs := h.same fun b _ e => s b _ e
theorem RowsAt.app {H : Hp} {ps qs : List V} {rs ss : List (List V)} (h : RowsAt H ps rs) (k : RowsAt H qs ss) : RowsAt H (ps ++ qs) (rs ++ ss) := by
  induction h with
  | nil => exact k
  | cons h _ ih => exact .cons h ih
theorem RowsAt.snoc {H : Hp} {ps : List V} {rs : List (List V)} {t : Addr} {r : List V} (h : RowsAt H ps rs) (e : H t = some (.tup r)) : RowsAt H (ps ++ [.ref t]) (rs ++ [r]) := h.app (.cons e .nil)
theorem RowsAt.len {H : Hp} {ps : List V} {rs : List (List V)} (h : RowsAt H ps rs) : ps.length = rs.length := by
  induction h with
  | nil => rfl
  | cons _ _ ih => rw [List.length_cons, List.length_cons, ih]
theorem RowsAt.get {H : Hp} {ps : List V} {rs : List (List V)} (h : RowsAt H ps rs) : ∀ {i : Nat} {x : V}, ps[i]? = some x → ∃ t r, x = .ref t ∧ rs[i]? = some r ∧ H t = some (.tup r) := by
  induction h with
  | nil => intro i x e; simp at e
  | @cons t r ps rs h _ ih =>
    intro i x e
    cases i with
    | zero => exact ⟨t, r, (Option.some.inj e).symm, rfl, h⟩
    | succ i => exact ih (by simpa using e)
theorem RowsAt.mem {H : Hp} {ps : List V} {rs : List (List V)} (h : RowsAt H ps rs) {x : V} (m : x ∈ ps) : ∃ t r, x = .ref t ∧ r ∈ rs ∧ H t = some (.tup r) := by
  obtain ⟨i, hi⟩ := List.getElem?_of_mem m
  obtain ⟨t, r, e, e2, e3⟩ := h.get hi
  exact ⟨t, r, e, List.mem_of_getElem? e2, e3⟩
/-- a test of the items of a list of tuples, as one of the tuples -/
def onTup (H : Hp) (f : List V → Bool) : V → Bool
  | .ref a => match H a with
    | some (.tup xs) => f xs
    | _ => false
  | _ => false
theorem onTup_eq {H : Hp} {f : List V → Bool} {t : Addr} {r : List V} (h : H t = some (.tup r)) : onTup H f (.ref t) = f r := by
  simp only [onTup, h]
theorem RowsAt.filter {H H1 : Hp} (f : List V → Bool) {ps : List V} {rs : List (List V)} (h : RowsAt H ps rs) (s : ∀ b xs, H b = some (.tup xs) → H1 b = some (.tup xs)) : RowsAt H (ps.filter (onTup H1 f)) (rs.filter f) := by
  induction h with
  | nil => exact .nil
  | @cons t r ps rs h k ih =>
    rw [List.filter_cons, List.filter_cons, onTup_eq (s _ _ h)]
    cases f r with
    | true => exact .cons h ih
    | false => exact ih
theorem RowsAt.reverse {H : Hp} {ps : List V} {rs : List (List V)} (h : RowsAt H ps rs) : RowsAt H ps.reverse rs.reverse := by
  induction h with
  | nil => exact .nil
  | cons h _ ih =>
    rw [List.reverse_cons, List.reverse_cons]
    exact ih.snoc h
theorem RowsAt.drop {H : Hp} {ps : List V} {rs : List (List V)} (h : RowsAt H ps rs) : ∀ n : Nat, RowsAt H (ps.drop n) (rs.drop n) := by
  induction h with
  | nil => intro n; simp only [List.drop_nil]; exact .nil
  | cons h k ih =>
    intro n
    cases n with
    | zero => exact .cons h k
    | succ n => exact ih n
theorem RowsAt.dropLast {H : Hp} {ps : List V} {rs : List (List V)} (h : RowsAt H ps rs) : RowsAt H ps.dropLast rs.dropLast := by
  induction h with
  | nil => exact .nil
  | cons h k ih =>
    cases k with
    | nil => exact .nil
    | cons h2 k2 => exact .cons h ih
theorem RowsAt.last {H : Hp} {r : List V} : ∀ {rs : List (List V)} {ps : List V}, RowsAt H ps (rs ++ [r]) → ∃ qs t, ps = qs ++ [.ref t] ∧ RowsAt H qs rs ∧ H t = some (.tup r)
  | [], _, .cons h .nil => ⟨[], _, rfl, .nil, h⟩
  | _ :: _, _, .cons h k => by
    obtain ⟨qs, t, rfl, k2, e⟩ := RowsAt.last k
    exact ⟨_ :: qs, t, rfl, .cons h k2, e⟩
/-- the first number of a tuple, tested -/
def onFst (f : Int → Bool) : List V → Bool
  | .int k :: _ => f k
  | _ => false
/-- such a list as data -/
theorem RowsAt.dp {K : PySem.W.Frag} {H : Hp} {ps : List V} {rs : List (List V)} (f : V → PyData) (h : RowsAt H ps rs) (hf : ∀ r ∈ rs, DpAll K H r (r.map f)) : DpAll K H ps (rs.map fun r => .tuple (r.map f)) := by
  induction h with
  | nil => exact .nil
  | @cons t r ps rs h _ ih => exact .cons (.tup (sqT_of h) (hf r List.mem_cons_self)) (ih fun r hr => hf r (List.mem_cons_of_mem _ hr))
def dI : V → PyData
  | .int i => .int i
  | .str z => .str z
  | .bl b => .bool b
  | _ => .none
theorem dpI {K : PySem.W.Frag} {H : Hp} : ∀ {r : List V}, (∀ x ∈ r, ∃ i : Int, x = .int i) → DpAll K H r (r.map dI)
  | [], _ => .nil
  | x :: r, h => by
    obtain ⟨i, rfl⟩ := h x List.mem_cons_self
    exact .cons (.int i) (dpI fun y hy => h y (List.mem_cons_of_mem _ hy))
/-! #### what a deed leaves alone: all but what may change of S -/
def imm : HO → Bool
  | .lst _ => false
  | .dK _ => false
  | _ => true
def KeepS (S : List Addr) (H H' : Hp) : Prop := ∀ b o, H b = some o → (imm o = true ∨ b ∉ S) → H' b = some o
theorem KeepS.refl (S : List Addr) (H : Hp) : KeepS S H H := fun _ _ h _ => h
theorem KeepS.of {S : List Addr} {H H' : Hp} (s : Same H H') : KeepS S H H' := fun b o h _ => s b o h
theorem KeepS.trans {S : List Addr} {H H1 H2 : Hp} (a : KeepS S H H1) (b : KeepS S H1 H2) : KeepS S H H2 := fun c o h n => b c o (a c o h n) n
theorem KeepS.mono {S S' : List Addr} {H H' : Hp} (s : KeepS S H H') (h : ∀ x ∈ S, x ∈ S') : KeepS S' H H' := fun b o e n => s b o e (n.imp id fun n m => n (h b m))
theorem KeepS.tup {S : List Addr} {H H' : Hp} (s : KeepS S H H') : ∀ b xs, H b = some (.tup xs) → H' b = some (.tup xs) := fun b _ e => s b _ e (.inl rfl)
theorem KeepS.put {S : List Addr} {H H1 : Hp} {p : Addr} {o u : HO} (s : KeepS S H H1) (h : H p = some u) (hu : imm u = false) (m : p ∈ S) : KeepS S H (upd H1 p o) := fun b x e n => by
  by_cases hb : b = p
  · subst hb
    rw [h] at e
    cases e
    rcases n with n | n
    · rw [hu] at n
      cases n
    · exact absurd m n
  · rw [upd_ne hb]
    exact s b x e n
theorem KeepS.new {S : List Addr} {H H1 : Hp} {p : Addr} {o : HO} (s : KeepS S H H1) (h : H p = none) : KeepS S H (upd H1 p o) := fun b x e n => by
  rw [upd_ne (ne_of_none e h)]
  exact s b x e n
theorem hp_ks {S : List Addr} {H H' : Hp} {q : Addr} {o : HO} (s : KeepS S H H') (n : imm o = true ∨ q ∉ S) (h : H q = some o) : H' q = some o := s q o h n
/-! #### dicts with keys of ints and texts -/
def Dg2 (ty tx : TE) (σ : L2.St) (Q : VK) : VK := fun x H1 => ∃ a, x = .ref a ∧ IsD H1 a ∧ ty σ H1 fun y H2 => tx σ H2 fun z H3 => ∃ o, DGet H3 a y o ∧ Q (o.getD z) H3
def Dg2b (a : Addr) (y : V) (Q : VK) : VK := fun z H3 => ∃ o, DGet H3 a y o ∧ Q (o.getD z) H3
theorem rd_dget2 {td ty tx : TE} (h : td σ H (Dg2 ty tx σ Q)) : tDGet2 td ty tx σ H Q := h
theorem rd_dg2 {ty tx : TE} {a : Addr} {kvs : List (Key × V)} (h : H a = some (.dK kvs)) (q : ty σ H fun y H2 => tx σ H2 (Dg2b a y Q)) : Dg2 ty tx σ Q (.ref a) H := ⟨a, rfl, .inl ⟨kvs, .inl h⟩, q⟩
theorem rd_dg2I {a : Addr} {k : Int} {z : V} {kvs : List (Key × V)} (h : H a = some (.dK kvs)) (q : Q ((valV kvs (.inl k)).getD z) H) : Dg2b a (.int k) Q z H := ⟨_, DGet.k (k := .inl k) h, q⟩
theorem rd_dg2S {a : Addr} {k : Str} {z : V} {kvs : List (Key × V)} (h : H a = some (.dK kvs)) (q : Q ((valV kvs (.inr k)).getD z) H) : Dg2b a (.str k) Q z H := ⟨_, DGet.k (k := .inr k) h, q⟩
def Dg1 (ty : TE) (σ : L2.St) (Q : VK) : VK := fun x H1 => ∃ a, x = .ref a ∧ IsD H1 a ∧ ty σ H1 fun y H2 => ∃ o, DGet H2 a y o ∧ Q (o.getD .non) H2
def Dg1b (a : Addr) (Q : VK) : VK := fun y H2 => ∃ o, DGet H2 a y o ∧ Q (o.getD .non) H2
theorem rd_dget1 {td ty : TE} (h : td σ H (Dg1 ty σ Q)) : tDGet1 td ty σ H Q := h
theorem rd_dg1 {ty : TE} {a : Addr} {kvs : List (Key × V)} (h : H a = some (.dK kvs)) (q : ty σ H (Dg1b a Q)) : Dg1 ty σ Q (.ref a) H := ⟨a, rfl, .inl ⟨kvs, .inl h⟩, q⟩
theorem rd_dg1I {a : Addr} {k : Int} {kvs : List (Key × V)} (h : H a = some (.dK kvs)) (q : Q ((valV kvs (.inl k)).getD .non) H) : Dg1b a Q (.int k) H := ⟨_, DGet.k (k := .inl k) h, q⟩
theorem rd_dg1S {a : Addr} {k : Str} {kvs : List (Key × V)} (h : H a = some (.dK kvs)) (q : Q ((valV kvs (.inr k)).getD .non) H) : Dg1b a Q (.str k) H := ⟨_, DGet.k (k := .inr k) h, q⟩
/-- d[k] -/
def Dgt (ty : TE) (σ : L2.St) (Q : VK) : VK := fun x H1 => ty σ H1 fun y H2 => ∃ a v, x = .ref a ∧ DGet H2 a y (some v) ∧ Q v H2
def Dgtb (x : V) (Q : VK) : VK := fun y H2 => ∃ a v, x = .ref a ∧ DGet H2 a y (some v) ∧ Q v H2
theorem rd_dget {td ty : TE} (h : td σ H (Dgt ty σ Q)) : tDGet td ty σ H Q := h
theorem rd_dgt {ty : TE} {x : V} (h : ty σ H (Dgtb x Q)) : Dgt ty σ Q x H := h
theorem rd_dgtI {a : Addr} {k : Int} {kvs : List (Key × V)} (h : H a = some (.dK kvs)) (l : valV kvs (.inl k) = some v) (q : Q v H) : Dgtb (.ref a) Q (.int k) H := ⟨a, v, rfl, l ▸ DGet.k (k := .inl k) h, q⟩
theorem rd_dgtS {a : Addr} {k : Str} {kvs : List (Key × V)} (h : H a = some (.dK kvs)) (l : valV kvs (.inr k) = some v) (q : Q v H) : Dgtb (.ref a) Q (.str k) H := ⟨a, v, rfl, l ▸ DGet.k (k := .inr k) h, q⟩
/-- d[k] = v -/
def Dpt (td ty : TE) (D : Ends) (σ : L2.St) : VK := fun v H1 => td σ H1 fun x H2 => ty σ H2 fun y H3 => ∃ a H4, x = .ref a ∧ DPut H3 a y v H4 ∧ D.nx σ H4
def Dpta (ty : TE) (v : V) (D : Ends) (σ : L2.St) : VK := fun x H2 => ty σ H2 fun y H3 => ∃ a H4, x = .ref a ∧ DPut H3 a y v H4 ∧ D.nx σ H4
def Dptb (v x : V) (D : Ends) (σ : L2.St) : VK := fun y H3 => ∃ a H4, x = .ref a ∧ DPut H3 a y v H4 ∧ D.nx σ H4
theorem rd_dput {td ty tv : TE} {D : Ends} (h : tv σ H (Dpt td ty D σ)) : sDPut td ty tv D σ H := h
theorem rd_dpt {td ty : TE} {D : Ends} (h : td σ H (Dpta ty v D σ)) : Dpt td ty D σ v H := h
theorem rd_dpta {ty : TE} {x : V} {D : Ends} (h : ty σ H (Dptb v x D σ)) : Dpta ty v D σ x H := h
theorem rd_dptI {a : Addr} {k : Int} {D : Ends} {kvs : List (Key × V)} (h : H a = some (.dK kvs)) (l : kvs.length ≤ 100000) (q : D.nx σ (upd H a (.dK (putK kvs (.inl k) v)))) : Dptb v (.ref a) D σ (.int k) H := ⟨a, _, rfl, DPut.k (k := .inl k) h (Nat.lt_of_le_of_lt l (by decide)), q⟩
theorem rd_dptS {a : Addr} {k : Str} {D : Ends} {kvs : List (Key × V)} (h : H a = some (.dK kvs)) (l : kvs.length ≤ 100000) (q : D.nx σ (upd H a (.dK (putK kvs (.inr k) v)))) : Dptb v (.ref a) D σ (.str k) H := ⟨a, _, rfl, DPut.k (k := .inr k) h (Nat.lt_of_le_of_lt l (by decide)), q⟩
/-- k in d -/
def Dib (y : V) (Q : VK) : VK := fun x H2 => ∃ a o, x = .ref a ∧ DGet H2 a y o ∧ Q (.bl o.isSome) H2
def Dnb (y : V) (Q : VK) : VK := fun x H2 => ∃ a o, x = .ref a ∧ DGet H2 a y o ∧ Q (.bl (!o.isSome)) H2
theorem rd_din {ty td : TE} (h : ty σ H fun y H1 => td σ H1 (Dib y Q)) : tDIn ty td σ H Q := h
theorem rd_dnin {ty td : TE} (h : ty σ H fun y H1 => td σ H1 (Dnb y Q)) : tDNotIn ty td σ H Q := h
theorem rd_dinI {a : Addr} {k : Int} {kvs : List (Key × V)} (h : H a = some (.dK kvs)) (q : Q (.bl (valV kvs (.inl k)).isSome) H) : Dib (.int k) Q (.ref a) H := ⟨a, _, rfl, DGet.k (k := .inl k) h, q⟩
theorem rd_dinS {a : Addr} {k : Str} {kvs : List (Key × V)} (h : H a = some (.dK kvs)) (q : Q (.bl (valV kvs (.inr k)).isSome) H) : Dib (.str k) Q (.ref a) H := ⟨a, _, rfl, DGet.k (k := .inr k) h, q⟩
theorem rd_dninI {a : Addr} {k : Int} {kvs : List (Key × V)} (h : H a = some (.dK kvs)) (q : Q (.bl (!(valV kvs (.inl k)).isSome)) H) : Dnb (.int k) Q (.ref a) H := ⟨a, _, rfl, DGet.k (k := .inl k) h, q⟩
theorem rd_dninS {a : Addr} {k : Str} {kvs : List (Key × V)} (h : H a = some (.dK kvs)) (q : Q (.bl (!(valV kvs (.inr k)).isSome)) H) : Dnb (.str k) Q (.ref a) H := ⟨a, _, rfl, DGet.k (k := .inr k) h, q⟩
/-- d.pop(k) -/
def Dpp (ty : TE) (σ : L2.St) (Q : VK) : VK := fun x H1 => ∃ a, x = .ref a ∧ IsD H1 a ∧ ty σ H1 fun y H2 => ∃ kvs k v, H2 a = some (.dK kvs) ∧ y = kV k ∧ valV kvs k = some v ∧ Q v (upd H2 a (.dK (dropK kvs k)))
def Dppb (a : Addr) (Q : VK) : VK := fun y H2 => ∃ kvs k v, H2 a = some (.dK kvs) ∧ y = kV k ∧ valV kvs k = some v ∧ Q v (upd H2 a (.dK (dropK kvs k)))
theorem rd_dpop1 {td ty : TE} (h : td σ H (Dpp ty σ Q)) : tDPop1 td ty σ H Q := h
theorem rd_dpp {ty : TE} {a : Addr} {kvs : List (Key × V)} (h : H a = some (.dK kvs)) (q : ty σ H (Dppb a Q)) : Dpp ty σ Q (.ref a) H := ⟨a, rfl, .inl ⟨kvs, .inl h⟩, q⟩
theorem rd_dppI {a : Addr} {k : Int} {kvs : List (Key × V)} (h : H a = some (.dK kvs)) (l : valV kvs (.inl k) = some v) (q : Q v (upd H a (.dK (dropK kvs (.inl k))))) : Dppb a Q (.int k) H := ⟨kvs, .inl k, v, h, rfl, l, q⟩
/-! #### a written dict -/
def DispK (p : Addr) (Q : VK) : List (V × V) → Hp → Prop := fun ps H2 => H2 p = some (.dK []) ∧ ∃ kvs : List (Key × V), ps = kvs.map (fun kv => (kV kv.1, kv.2)) ∧ kvs.length ≤ 15 ∧ Q (.ref p) (upd H2 p (.dK (mergeK [] kvs)))
theorem rd_disp {trs : List (TE × TE)} (q : ∀ p, H p = none → tPairs trs σ (upd H p (.dK [])) (DispK p Q)) : tDisp trs σ H Q := q
theorem rd_pairsC {tk tv : TE} {r : List (TE × TE)} {P : List (V × V) → Hp → Prop} (h : tk σ H fun k H1 => tv σ H1 fun v H2 => tPairs r σ H2 fun ps H3 => P ((k, v) :: ps) H3) : tPairs ((tk, tv) :: r) σ H P := h
theorem rd_pairsN {P : List (V × V) → Hp → Prop} (h : P [] H) : tPairs [] σ H P := h
theorem rd_dispK {p : Addr} {ps : List (V × V)} (kvs : List (Key × V)) (h : H p = some (.dK [])) (e : ps = kvs.map fun kv => (kV kv.1, kv.2)) (l : kvs.length ≤ 15) (m : mergeK [] kvs = kvs) (q : Q (.ref p) (upd H p (.dK kvs))) : DispK p Q ps H := ⟨h, kvs, e, l, by rw [m]; exact q⟩
/-! #### a, b = x, y -/
def ParK (i j : Nat) (D : Ends) (σ : L2.St) : List V → Hp → Prop := fun vs H1 => ∃ v w, vs = [v, w] ∧ D.nx ((σ.set i (some v)).set j (some w)) H1
theorem rd_par {i j : Nat} {ta : TA} {D : Ends} (h : ta σ H (ParK i j D σ)) : tPar i j ta D σ H := h
theorem rd_parK {i j : Nat} {D : Ends} {w : V} (q : D.nx ((σ.set i (some v)).set j (some w)) H) : ParK i j D σ [v, w] H := ⟨v, w, rfl, q⟩
/-! #### sorted, sum -/
def rSrtDI : List V → Hp → VK → Prop := fun xs H Q => ∃ (a : Addr) (kvs : List (Key × V)) (ks : List Int), xs = [.ref a] ∧ Rd H a (.dK kvs) ∧ kvs.map (·.1) = ks.map Sum.inl ∧ ks.length < 64 ∧
    ∀ (ys : List Int) (p : Addr), ys.Perm ks → ys.Pairwise (· ≤ ·) → H p = none → Q (.ref p) (upd H p (.lst (ys.map V.int)))
theorem sortDI {X : Cx} (hc : X.calm = true) : CallR X (.builtin "sorted") rSrtDI := call_sortedDI hc
theorem sortIK {X : Cx} (h : X.K = K) : CallR X (.builtin "sorted") (rSortedI K) := h ▸ cr_sortedI
theorem sumK {X : Cx} (h : X.K = K) (hc : X.calm = true) : CallR X (.builtin "sum") (rSum K) := h ▸ cr_sum hc
theorem rd_sum {p : Addr} {ns : List Int} (h : SqL K H p (ns.map V.int)) (q : Q (.int ns.sum) H) : rSum K [.ref p] H Q := ⟨p, ns, rfl, h, q⟩
theorem rd_srtDI {a : Addr} {kvs : List (Key × V)} {ks : List Int} (h : H a = some (.dK kvs)) (hk : kvs.map (·.1) = ks.map Sum.inl) (hl : ks.length < 64) (q : ∀ (ys : List Int) (p : Addr) (H' : Hp), ys.Perm ks → ys.Pairwise (· ≤ ·) → H p = none → Same H H' → H' p = some (.lst (ys.map V.int)) → Q (.ref p) H') : rSrtDI [.ref a] H Q :=
  ⟨a, kvs, ks, rfl, .inl h, hk, hl, fun ys p h1 h2 hp => q ys p _ h1 h2 hp (fun b x e => by rw [upd_ne (ne_of_none e hp)]; exact e) upd_same⟩
theorem rd_srtI {a : Addr} {ns : List Int} (h : SqL K H a (ns.map V.int)) (q : ∀ (ys : List Int) (p : Addr) (H' : Hp), ys.Perm ns → ys.Pairwise (· ≤ ·) → H p = none → Same H H' → H' p = some (.lst (ys.map V.int)) → Q (.ref p) H') : rSortedI K [.ref a] H Q :=
  ⟨a, ns, rfl, h, fun ys p h1 h2 hp => q ys p _ h1 h2 hp (fun b x e => by rw [upd_ne (ne_of_none e hp)]; exact e) upd_same⟩
/-- a tuple times a number; the last item taken out -/
theorem repTK {X : Cx} (h : X.K = K) : OpR X (binaryOp .Mult) (rRepT K) := h ▸ op_repT
theorem rd_repT {l : Addr} {xs : List V} {k : Int} (h : SqT K H l xs) (ne : xs ≠ []) (k0 : 2 ≤ k) (k1 : k ≤ 1000) (hl : xs.length ≤ 1000) (q : ∀ (p : Addr) (H' : Hp), Same H H' → H' p = some (.tup (List.replicate k.toNat xs).flatten) → Q (.ref p) H') : rRepT K (.ref l) (.int k) H Q :=
  ⟨l, k, xs, rfl, rfl, h, ne, k0, k1, hl, fun p hp => q p _ (fun b x e => by rw [upd_ne (ne_of_none e hp)]; exact e) upd_same⟩
theorem rd_pop {l : Addr} {xs : List V} {y : V} (h : H l = some (.lst (xs ++ [y]))) (q : Q y (upd H l (.lst xs))) : rPop (.ref l) [] H Q := by
  refine ⟨l, xs ++ [y], y, rfl, rfl, h, by rw [List.length_append]; simp, ?_⟩
  rw [List.dropLast_concat]
  exact q
theorem rd_bm0 {T : String} {rr : V → List V → Hp → VK → Prop} {te : TE} (h : te σ H fun x H1 => tyV K T x H1 ∧ rr x [] H1 Q) : tBM0 K T rr te σ H Q := h
/-- reversed(list) in a for -/
theorem pi_revK {X : Cx} {tg e : Expr} {ta : TA} {p pos : Pos} (h : X.K = K) (hg : Gl X "reversed") (hm : X.mg "reversed" = none) (ha : PA X [e] ta) (hs : starEach [e] X.env = [(false, eval e X.env)] := by rfl) : PI X tg (.Call (.Name "reversed" p) [e] [] pos) (iRev K ta) := h ▸ pi_reversed hg hm ha hs
def RevIt (K : PySem.W.Frag) (R : It → Hp → Prop) : List V → Hp → Prop := fun vs H1 => ∃ (a : Addr) (xs : List V), vs = [.ref a] ∧ SqL K H1 a xs ∧ R (Itv K a xs.length) H1
theorem rd_irev {ta : TA} {R : It → Hp → Prop} (h : ta σ H (RevIt K R)) : iRev K ta σ H R := h
theorem rd_irevK {R : It → Hp → Prop} {a : Addr} {xs : List V} (h : SqL K H a xs) (q : R (Itv K a xs.length) H) : RevIt K R [.ref a] H := ⟨a, xs, rfl, h, q⟩
theorem rd_rep {l : Addr} {xs : List V} {k : Int} (h : H l = some (.lst xs)) (k0 : 0 ≤ k) (k1 : k ≤ 1000) (hl : xs.length ≤ 1000) (q : ∀ (p : Addr) (H' : Hp), H p = none → Same H H' → H' p = some (.lst (List.replicate k.toNat xs).flatten) → Q (.ref p) H') : rRep (.ref l) (.int k) H Q :=
  ⟨l, k, xs, rfl, rfl, h, by omega, by omega, Nat.le_trans (Nat.mul_le_mul hl (show k.toNat ≤ 1000 by omega)) (by decide), fun p hp => q p _ hp (fun b x e => by rw [upd_ne (ne_of_none e hp)]; exact e) upd_same⟩
theorem rd_clear {l : Addr} {xs : List V} (h : H l = some (.lst xs)) (q : Q .non (upd H l (.lst []))) : rClear (.ref l) [] H Q := ⟨l, xs, rfl, rfl, h, q⟩
/-- the last item put otherwise -/
theorem rd_setLast {p : Addr} {xs : List V} {x : V} {P : Hp → Prop} (h : H p = some (.lst (xs ++ [x]))) (q : P (upd H p (.lst (xs ++ [v])))) : rSetL (.ref p) (.int (-1)) v H P := by
  refine rd_setL h (j := xs.length) ?_ ?_
  · unfold ixN
    rw [List.length_append, if_neg (by decide), if_pos (by simp; omega)]
    congr 1
    simp
    omega
  · have e : (xs ++ [x]).set xs.length v = xs ++ [v] := by simp
    rw [e]
    exact q
/-- extend; remove -/
theorem rd_extend {l b : Addr} {xs zs : List V} (h : H l = some (.lst xs)) (h2 : H b = some (.lst zs)) (hz : xs.length + zs.length ≤ 100000) (q : Q .non (upd H l (.lst (xs ++ zs)))) : rExtend (.ref l) [.ref b] H Q := ⟨l, b, xs, zs, rfl, rfl, h, h2, Nat.le_trans hz (by decide), q⟩
theorem rd_remove {l : Addr} {ns : List Int} {k : Int} (h : H l = some (.lst (ns.map V.int))) (m : k ∈ ns) (q : Q .non (upd H l (.lst ((ns.erase k).map V.int)))) : rRemI (.ref l) [.int k] H Q := by
  obtain ⟨i, hi⟩ := List.getElem?_of_mem m
  have hlt : ns.idxOf k < ns.length := List.idxOf_lt_length_of_mem m
  refine ⟨l, ns, k, ns.idxOf k, rfl, rfl, h, ?_, fun j hj e => ?_, ?_⟩
  · rw [List.getElem?_eq_getElem hlt, List.getElem_idxOf]
  · have hj2 : j < ns.length := Nat.lt_trans hj hlt
    rw [List.getElem?_eq_getElem hj2] at e
    exact absurd (beq_iff_eq.mpr (Option.some.inj e)) (by simpa using List.not_of_lt_findIdx (p := (· == k)) hj)
  · rw [← List.erase_eq_eraseIdx_of_idxOf rfl]
    exact q
end
end My
local macro_rules | `(tactic| walk_at "rd1") => `(tactic| first
  | (with_reducible refine My.rd_dget2 ?_)
  | (with_reducible refine My.rd_dget1 ?_)
  | (with_reducible refine My.rd_dget ?_)
  | (with_reducible refine My.rd_dgt ?_)
  | (with_reducible refine My.rd_dput ?_)
  | (with_reducible refine My.rd_dpt ?_)
  | (with_reducible refine My.rd_dpta ?_)
  | (with_reducible refine My.rd_din ?_)
  | (with_reducible refine My.rd_dnin ?_)
  | (with_reducible refine My.rd_dpop1 ?_)
  | (with_reducible refine My.rd_pairsC ?_)
  | (with_reducible refine My.rd_pairsN ?_)
  | (with_reducible refine My.rd_par ?_)
  | (with_reducible refine My.rd_irev ?_)
  | (with_reducible refine My.rd_bm0 ?_)
  | (with_reducible refine My.rd_parK ?_)
  | ((with_reducible refine My.rd_dg2 (kvs := ?kk) ?hd ?_); (case hd => walk_at "hp"))
  | ((with_reducible refine My.rd_dg2I (kvs := ?kk) ?hd ?_); (case hd => walk_at "hp"))
  | ((with_reducible refine My.rd_dg2S (kvs := ?kk) ?hd ?_); (case hd => walk_at "hp"))
  | ((with_reducible refine My.rd_dg1 (kvs := ?kk) ?hd ?_); (case hd => walk_at "hp"))
  | ((with_reducible refine My.rd_dg1I (kvs := ?kk) ?hd ?_); (case hd => walk_at "hp"))
  | ((with_reducible refine My.rd_dg1S (kvs := ?kk) ?hd ?_); (case hd => walk_at "hp"))
  | ((with_reducible refine My.rd_dinI (kvs := ?kk) ?hd ?_); (case hd => walk_at "hp"))
  | ((with_reducible refine My.rd_dinS (kvs := ?kk) ?hd ?_); (case hd => walk_at "hp"))
  | ((with_reducible refine My.rd_dninI (kvs := ?kk) ?hd ?_); (case hd => walk_at "hp"))
  | ((with_reducible refine My.rd_dninS (kvs := ?kk) ?hd ?_); (case hd => walk_at "hp"))
  | ((with_reducible refine My.rd_dpp (kvs := ?kk) ?hd ?_); (case hd => walk_at "hp")))

/-! ### P0I: an own instance compared with itself -/
namespace My
open PySem PySem.Spec PyProof.Rows L2
structure EqC (K : PySem.W.Frag) (C : Addr) : Prop where
  eq : PySem.W.findIn K (.ref C) "__eq__" = some (some (.builtin "object.__eq__"))
  ne : PySem.W.findIn K (.ref C) "__ne__" = some (some (.builtin "object.__ne__"))
  ob : PySem.W.subIn K (.ref C) (.type "object") = some true
section
variable {prog : Program} {w : World} {A : Around} {E : Value → Shared → Prop} {s : Shared} {K : PySem.W.Frag} {x C : Addr} {o : Obj}
theorem eqI_bound {name : Str} {id : String} {args : List Value} {Q : Option Value → Shared → Prop} (X : K.In s.heap) (hx : s.heap.get? x = some o) (hc : o.cls = .ref C)
    (he : PySem.W.findIn K (.ref C) name = some (some (.builtin id))) (S : Slot "object" name id)
    (hcall : wpAny (model prog w) A (call (.builtin id) (.ref x :: args)) (fun v => Q (some v)) E s) : wpAny (model prog w) A (callSpecialIfBound? (.ref x) name args) Q E s := by
  simp only [callSpecialIfBound?, bindSpecialIfBound?]
  refine wpAny_holding (wpAny_bind (wpAny_bind ?_))
  unfold specialOf
  refine wpAny_bind (wpAny_typeOf_ref hx ?_)
  rw [hc]
  refine (PySem.W.looks_findIn X he).here ?_
  simp only [S.bind]
  refine wpAny_bind (wpAny_askSetting (wpAny_ite ?_))
  have fin : wpAny (model prog w) A (call (.builtin id) ([.ref x] ++ args) >>= fun v => pure (some v)) Q E s :=
    wpAny_bind (wpAny_mono hcall (fun v s' h' => wpAny_pure h') fun _ _ h' => h')
  split
  · exact wpAny_bind (wpAny_pure (wpAny_pure fin))
  · exact wpAny_tryCatch (wpAny_bind (wpAny_pure (wpAny_pure fin)))
theorem eqI_check {id n : String} {rest : List Value} {Q : Unit → Shared → Prop} (X : K.In s.heap) (hx : s.heap.get? x = some o) (hc : o.cls = .ref C) (ob : PySem.W.subIn K (.ref C) (.type "object") = some true)
    (hk : builtinKind id = some .slot) (hs : splitId id = some ("object", n)) (ha : argsOk id ⟨.ref x :: rest, []⟩) (hq : Q () s) :
    wpAny (model prog w) A (checkBuiltinCall id ⟨.ref x :: rest, []⟩) Q E s := by
  simp only [checkBuiltinCall, hk, hs]
  refine wpAny_bind ?_
  unfold isInstance
  refine wpAny_bind (wpAny_typeOf_ref hx ?_)
  rw [hc]
  refine (PySem.W.looks_subIn X ob).here ?_
  cases hsig : Manifest.signature? id with
  | none => exact wpAny_pure hq
  | some sig =>
    simp only [argsOk, hsig] at ha
    have h2 : Bind.checkArgs id sig ⟨.ref x :: rest, []⟩ = pure () := ha
    show wpAny (model prog w) A (Bind.checkArgs id sig ⟨.ref x :: rest, []⟩) Q E _
    rw [h2]; exact wpAny_pure hq
theorem eqI_try {Q : Option Value → Shared → Prop} (X : K.In s.heap) (hx : s.heap.get? x = some o) (hc : o.cls = .ref C) (c : EqC K C) (hq : Q (some (.bool true)) s) :
    wpAny (model prog w) A (tryCompare (.ref x) "__eq__" (.ref x)) Q E s := by
  simp only [tryCompare]
  refine wpAny_bind (eqI_bound X hx hc c.eq F.cmp_object.eq ?_)
  refine wpAny_call (codeAny_call_builtin F.cmp_object.eq.plain F.cmpEntry_eq (eqI_check X hx hc c.ob F.cmpKind_eq F.cmpSplit_eq (F.cmpArgs_eq _ _) (objEq_entry_same ?_)))
  exact wpAny_pure hq
theorem eqI_rc {Q : Value → Shared → Prop} (X : K.In s.heap) (hx : s.heap.get? x = some o) (hc : o.cls = .ref C) (c : EqC K C) (hu : A.units < cLine) (hq : Q (.bool true) s) :
    wpAny (model prog w) A (richCompare .Eq (.ref x) (.ref x)) Q E s := by
  simp only [richCompare, cmpInfo_Eq, oneThing_ref]
  repeat (first | with_reducible refine wpAny_cRoomFor hu ?_ | (with_reducible refine wpAny_typeOf_ref hx ?_) | with_reducible refine eqI_try X hx hc c ?_ | wp_step)
  exact hq
end
section
variable {prog : Program} {w : World} {A : Around} {E : Value → Shared → Prop} {s : Shared} {K : PySem.W.Frag} {x C : Addr} {o : Obj}
theorem eqI_spec {Q : Option Value → Shared → Prop} (X : K.In s.heap) (hx : s.heap.get? x = some o) (hc : o.cls = .ref C) (c : EqC K C) (hq : Q (some (.bool true)) s) :
    wpAny (model prog w) A (callSpecialIfBound? (.ref x) "__eq__" [.ref x]) Q E s := by
  refine eqI_bound X hx hc c.eq F.cmp_object.eq ?_
  exact wpAny_call (codeAny_call_builtin F.cmp_object.eq.plain F.cmpEntry_eq (eqI_check X hx hc c.ob F.cmpKind_eq F.cmpSplit_eq (F.cmpArgs_eq _ _) (objEq_entry_same hq)))
theorem neI_entry {Q : Fin → Shared → Prop} (X : K.In s.heap) (hx : s.heap.get? x = some o) (hc : o.cls = .ref C) (c : EqC K C) (hu : A.units < cLine) (hq : Q (.done (.ret (.bool false))) s) :
    wpAny (model prog w) A (Builtin.«object.__ne__» ⟨[.ref x, .ref x], []⟩) Q E s := by
  unfold Builtin.«object.__ne__»
  repeat (first | with_reducible refine wpAny_cRoomFor hu ?_ | with_reducible refine eqI_spec X hx hc c ?_ | wp_step)
  exact hq
theorem neI_try {Q : Option Value → Shared → Prop} (X : K.In s.heap) (hx : s.heap.get? x = some o) (hc : o.cls = .ref C) (c : EqC K C) (hu : A.units + 1 < cLine) (hq : Q (some (.bool false)) s) :
    wpAny (model prog w) A (tryCompare (.ref x) "__ne__" (.ref x)) Q E s := by
  simp only [tryCompare]
  refine wpAny_bind (eqI_bound X hx hc c.ne F.cmp_object.ne ?_)
  refine wpAny_call (codeAny_call_builtin F.cmp_object.ne.plain F.cmpEntry_ne (eqI_check X hx hc c.ob F.cmpKind_ne F.cmpSplit_ne (F.cmpArgs_ne _ _) (neI_entry (A := A.in1) X hx hc c hu ?_)))
  exact wpAny_pure hq
theorem neI_rc {Q : Value → Shared → Prop} (X : K.In s.heap) (hx : s.heap.get? x = some o) (hc : o.cls = .ref C) (c : EqC K C) (hu : A.units + 1 < cLine) (hq : Q (.bool false) s) :
    wpAny (model prog w) A (richCompare .NotEq (.ref x) (.ref x)) Q E s := by
  have hu0 : A.units < cLine := Nat.lt_of_succ_lt hu
  simp only [richCompare, cmpInfo_NotEq, oneThing_ref]
  repeat (first | with_reducible refine wpAny_cRoomFor hu0 ?_ | (with_reducible refine wpAny_typeOf_ref hx ?_) | with_reducible refine neI_try X hx hc c hu ?_ | wp_step)
  exact hq
end
section
variable {X : Cx} {K : PySem.W.Frag}
/-- an own instance, and itself -/
def OwnE (K : PySem.W.Frag) (H : Hp) (a : Addr) : Prop := ∃ C dx fs, H a = some (.ins C dx fs) ∧ EqC K C
def rEqI (K : PySem.W.Frag) : R2 := fun x y H Q => ∃ a, x = .ref a ∧ y = .ref a ∧ OwnE K H a ∧ Q (.bl true) H
def rNeI (K : PySem.W.Frag) : R2 := fun x y H Q => ∃ a, x = .ref a ∧ y = .ref a ∧ OwnE K H a ∧ Q (.bl false) H
theorem eqI (h : X.K = K) (hu : X.A.units + 64 < cLine) : OpR X (compareOp .Eq) (rEqI K) := by
  subst h
  rintro pins s σ H x y v u Q I rx ry ⟨a, rfl, rfl, ⟨C, dx, fs, ha, c⟩, q⟩
  cases (show v = Value.ref a from rx)
  cases (show u = Value.ref a from ry)
  obtain ⟨mA, O, _⟩ := ins_get I.hok ha
  obtain ⟨od, J, _⟩ := O.look
  exact eqI_rc I.kIn J.at_ J.cls c (by omega) ⟨.bl true, H, I, rfl, q⟩
theorem neI (h : X.K = K) (hu : X.A.units + 64 < cLine) : OpR X (compareOp .NotEq) (rNeI K) := by
  subst h
  rintro pins s σ H x y v u Q I rx ry ⟨a, rfl, rfl, ⟨C, dx, fs, ha, c⟩, q⟩
  cases (show v = Value.ref a from rx)
  cases (show u = Value.ref a from ry)
  obtain ⟨mA, O, _⟩ := ins_get I.hok ha
  obtain ⟨od, J, _⟩ := O.look
  exact neI_rc I.kIn J.at_ J.cls c (by omega) ⟨.bl false, H, I, rfl, q⟩
/-- any thing, and itself -/
inductive SelfOk (K : PySem.W.Frag) (H : Hp) : V → Prop where
  | flat {x : V} (h : flatV x = true) : SelfOk K H x
  | lst {a : Addr} {xs : List V} (h : H a = some (.lst xs)) (hx : ∀ x ∈ xs, flatV x = true ∨ ∃ b, x = .ref b) : SelfOk K H (.ref a)
  | tup {a : Addr} {xs : List V} (h : H a = some (.tup xs)) (hx : ∀ x ∈ xs, flatV x = true ∨ ∃ b, x = .ref b) : SelfOk K H (.ref a)
  | dct {a : Addr} (h : H a = some (.dK [])) : SelfOk K H (.ref a)
  | own {a : Addr} (h : OwnE K H a) : SelfOk K H (.ref a)
def rEqSelf (K : PySem.W.Frag) : R2 := fun x y H Q => x = y ∧ SelfOk K H x ∧ Q (.bl true) H
theorem alkSelf {H : Hp} {xs : List V} (hx : ∀ x ∈ xs, flatV x = true ∨ ∃ b, x = .ref b) : AlkAll K H 1 xs xs := ⟨rfl, fun j u v e1 e2 => by
  cases e1.symm.trans e2
  rcases hx _ (List.mem_of_getElem? e1) with h | ⟨b, rfl⟩
  · exact Alk.flat h
  · exact Alk.ref⟩
theorem eqSelf (h : X.K = K) (hu : X.A.units + 64 < cLine) : OpR X (compareOp .Eq) (rEqSelf K) := by
  rintro pins s σ H x y v u Q I rx ry ⟨rfl, so, q⟩
  cases so with
  | flat hf => exact op_eq _ _ _ _ _ _ _ _ _ I rx ry ⟨(by cases x <;> first | rfl | cases hf), by simpa using q⟩
  | lst ha hx => exact eqW h hu _ _ _ _ _ _ _ _ _ I rx ry (rd_eqW (n := 1) (eqS_lst (.inl (.inl ha)) (.inl (.inl ha)) (alkSelf hx)) q)
  | tup ha hx => exact eqW h hu _ _ _ _ _ _ _ _ _ I rx ry (rd_eqW (n := 1) (eqS_tup (.inl (.inl ha)) (.inl (.inl ha)) (alkSelf hx)) q)
  | dct ha => exact op_eq_dict (by omega) _ _ _ _ _ _ _ _ _ I rx ry ⟨_, _, [], rfl, rfl, ha, ha, List.nodup_nil, nofun, q⟩
  | own ho => exact eqI h hu _ _ _ _ _ _ _ _ _ I rx ry ⟨_, rfl, rfl, ho, q⟩
end
end My

/-! ### P0S: what is walked may be a list or a tuple -/
namespace My
open PySem PySem.Spec PyProof.Rows L2
/-- the list or the tuple at a -/
def SqA (K : PySem.W.Frag) (H : Hp) (a : Addr) (xs : List V) : Prop := SqL K H a xs ∨ SqT K H a xs
theorem SqA.keep {K : PySem.W.Frag} {H H' : Hp} {a : Addr} {xs : List V} (h : SqA K H a xs) (k : ∀ o, H a = some o → H' a = some o) : SqA K H' a xs := by
  rcases h with h | h
  · rcases h with (h | ⟨o, h⟩) | h
    · exact .inl (.inl (.inl (k _ h)))
    · exact .inl (.inl (.inr ⟨o, k _ h⟩))
    · exact .inl (.inr h)
  · rcases h with (h | ⟨o, h⟩) | h
    · exact .inr (.inl (.inl (k _ h)))
    · exact .inr (.inl (.inr ⟨o, k _ h⟩))
    · exact .inr (.inr h)
theorem SqA.same {K : PySem.W.Frag} {H H' : Hp} {a : Addr} {xs : List V} (h : SqA K H a xs) (s : Same H H') : SqA K H' a xs := h.keep fun o e => s _ _ e
theorem sqA_l {K : PySem.W.Frag} {H : Hp} {a : Addr} {xs : List V} (h : H a = some (.lst xs)) : SqA K H a xs := .inl (.inl (.inl h))
theorem sqA_t {K : PySem.W.Frag} {H : Hp} {a : Addr} {xs : List V} (h : H a = some (.tup xs)) : SqA K H a xs := .inr (.inl (.inl h))
def iSeq (K : PySem.W.Frag) (tl : TE) : TI := fun σ H R => tl σ H fun x H1 => ∃ a, x = .ref a ∧ ((∃ xs, SqL K H1 a xs) ∧ R (Itl K a) H1 ∨ (∃ xs, SqT K H1 a xs) ∧ R (Itt K a) H1)
theorem pi_seqK {X : Cx} {K : PySem.W.Frag} {tg l : Expr} {tl : TE} (h : X.K = K) (hl : PE X l tl) : PI X tg l (iSeq K tl) := by
  subst h
  refine ⟨fun pins s σ H R I h => ?_⟩
  refine thn (hl.run pins s σ H _ I h) fun v s1 ⟨x, H1, I1, r1, q1⟩ => ?_
  obtain ⟨a, e, q⟩ := q1
  subst e
  cases r1
  rcases q with ⟨⟨xs, hq⟩, q⟩ | ⟨⟨xs, hq⟩, q⟩
  · obtain ⟨its, rv, p, hz⟩ := I1.list hq
    refine wpAny_pyIter_list p.isList ?_
    refine ⟨s1.heap.objs.size, [s1.heap.objs.size], _, _, H1, rfl, I1.kept (t' := s1.toks) fun b o e => Heap.get?_push_of_some _ e, turn_list a _, ⟨_, Heap.get?_push_size _ rfl, rfl, rfl⟩, fun b hb => ?_, q⟩
    have e : b = s1.heap.objs.size := by simpa using hb
    subst e
    exact I1.fpOk (Nat.le_refl _) (I1.hok.fresh (Nat.le_refl _))
  · obtain ⟨its, rv, p, hz⟩ := I1.tuple hq
    refine wpAny_pyIter_tuple (show s1.heap.IsTuple a its.toArray from p) ?_
    refine ⟨s1.heap.objs.size, [s1.heap.objs.size], _, _, H1, rfl, I1.kept (t' := s1.toks) fun b o e => Heap.get?_push_of_some _ e, turn_tuple a _, ⟨_, Heap.get?_push_size _ rfl, rfl, rfl⟩, fun b hb => ?_, q⟩
    have e : b = s1.heap.objs.size := by simpa using hb
    subst e
    exact I1.fpOk (Nat.le_refl _) (I1.hok.fresh (Nat.le_refl _))
def SeqIt (K : PySem.W.Frag) (R : It → Hp → Prop) : VK := fun x H1 => ∃ a, x = .ref a ∧ ((∃ xs, SqL K H1 a xs) ∧ R (Itl K a) H1 ∨ (∃ xs, SqT K H1 a xs) ∧ R (Itt K a) H1)
section
variable {K : PySem.W.Frag} {σ : L2.St} {H : Hp} {te : TE} {Q : VK} {v : V}
theorem rd_iQ {R : It → Hp → Prop} (h : te σ H (SeqIt K R)) : iSeq K te σ H R := h
/-- the walk over either -/
theorem rd_iq {R : It → Hp → Prop} {p : Addr} {xs : List V} (h : SqA K H p xs) (q : ∀ (J : It) (G : Hp → Prop), Walk J xs.length G (YAt xs) → (∀ H', (∀ o, H p = some o → H' p = some o) → G H') → R J H) : SeqIt K R (.ref p) H := by
  refine ⟨p, rfl, ?_⟩
  rcases h with h | h
  · refine .inl ⟨⟨xs, h⟩, q _ _ walk_list fun H' k => ?_⟩
    rcases h with (h | ⟨o, h⟩) | h
    · exact .inl (.inl (k _ h))
    · exact .inl (.inr ⟨o, k _ h⟩)
    · exact .inr h
  · refine .inr ⟨⟨xs, h⟩, q _ _ walk_tup fun H' k => ?_⟩
    rcases h with (h | ⟨o, h⟩) | h
    · exact .inl (.inl (k _ h))
    · exact .inl (.inr ⟨o, k _ h⟩)
    · exact .inr h
theorem rd_lenA {p : Addr} {xs : List V} (h : SqA K H p xs) (q : Q (.int (xs.length : Nat)) H) : rLenA K [.ref p] H Q := by
  rcases h with h | h
  · exact rd_lenL h q
  · exact rd_lenT h q
theorem rd_ixA {xs : List V} {p : Addr} {k : Int} (h : SqA K H p xs) (ha : atI xs k = some v) (q : Q v H) : rIx K (.ref p) (.int k) H Q := by
  rcases h with h | h
  · exact rd_ixL h ha q
  · exact rd_ixT h ha q
/-- list(x), tuple(x), x a list or a tuple -/
def rListOf (K : PySem.W.Frag) : List V → Hp → VK → Prop := fun xs H Q => ∃ p ys, xs = [.ref p] ∧ (SqL K H p ys ∨ SqT K H p ys) ∧ ∀ l, H l = none → Q (.ref l) (upd H l (.lst ys))
theorem listOfK {X : Cx} (h : X.K = K) : CallR X (.type "list") (rListOf K) := h ▸ call_list_of
def rTupOf (K : PySem.W.Frag) : List V → Hp → VK → Prop := fun xs H Q => ∃ p ys, xs = [.ref p] ∧ ((SqL K H p ys ∧ ∀ l, H l = none → Q (.ref l) (upd H l (.tup ys))) ∨ (SqT K H p ys ∧ Q (.ref p) H))
theorem tupOfK {X : Cx} (h : X.K = K) : CallR X (.type "tuple") (rTupOf K) := h ▸ call_tuple_of
theorem rd_listOf {p : Addr} {ys : List V} (h : SqA K H p ys) (q : ∀ l H', H l = none → Same H H' → H' l = some (.lst ys) → Q (.ref l) H') : rListOf K [.ref p] H Q :=
  ⟨p, ys, rfl, h, fun l hl => q l _ hl (fun b x e => by rw [upd_ne (ne_of_none e hl)]; exact e) upd_same⟩
theorem rd_tupOf {p : Addr} {ys : List V} (h : SqL K H p ys) (q : ∀ l H', H l = none → Same H H' → H' l = some (.tup ys) → Q (.ref l) H') : rTupOf K [.ref p] H Q :=
  ⟨p, ys, rfl, .inl ⟨h, fun l hl => q l _ hl (fun b x e => by rw [upd_ne (ne_of_none e hl)]; exact e) upd_same⟩⟩
theorem rd_tupOfT {p : Addr} {ys : List V} (h : SqT K H p ys) (q : Q (.ref p) H) : rTupOf K [.ref p] H Q := ⟨p, ys, rfl, .inr ⟨h, q⟩⟩
theorem maxK {X : Cx} (h : X.K = K) (hc : X.calm = true) : CallR X (.builtin "max") (rMax K) := h ▸ cr_max hc
theorem minK {X : Cx} (h : X.K = K) (hc : X.calm = true) : CallR X (.builtin "min") (rMin K) := h ▸ cr_min hc
end
/-- the greatest, the least of a list that is not empty -/
def maxL (ns : List Int) : Int := ns.max?.getD 0
def minL (ns : List Int) : Int := ns.min?.getD 0
theorem maxL_eq {ns : List Int} {m : Int} (h : m ∈ ns) (hl : ∀ n ∈ ns, n ≤ m) : maxL ns = m := by
  unfold maxL
  rw [List.max?_eq_some_iff.mpr ⟨h, hl⟩]
  rfl
theorem minL_eq {ns : List Int} {m : Int} (h : m ∈ ns) (hl : ∀ n ∈ ns, m ≤ n) : minL ns = m := by
  unfold minL
  rw [List.min?_eq_some_iff.mpr ⟨h, hl⟩]
  rfl
theorem maxL_mem {ns : List Int} (h : 0 < ns.length) : maxL ns ∈ ns ∧ ∀ n ∈ ns, n ≤ maxL ns := by
  unfold maxL
  cases e : ns.max? with
  | none =>
    rw [List.max?_eq_none_iff] at e
    rw [e] at h
    cases h
  | some m => exact List.max?_eq_some_iff.mp e
theorem minL_mem {ns : List Int} (h : 0 < ns.length) : minL ns ∈ ns ∧ ∀ n ∈ ns, minL ns ≤ n := by
  unfold minL
  cases e : ns.min? with
  | none =>
    rw [List.min?_eq_none_iff] at e
    rw [e] at h
    cases h
  | some m => exact List.min?_eq_some_iff.mp e
section
variable {K : PySem.W.Frag} {H : Hp} {Q : VK}
theorem rd_maxL {p : Addr} {ns : List Int} (h : SqL K H p (ns.map V.int)) (h0 : 0 < ns.length) (q : Q (.int (maxL ns)) H) : rMax K [.ref p] H Q := ⟨p, ns, rfl, h, h0, fun m hm hl => maxL_eq hm hl ▸ q⟩
theorem rd_minL {p : Addr} {ns : List Int} (h : SqL K H p (ns.map V.int)) (h0 : 0 < ns.length) (q : Q (.int (minL ns)) H) : rMin K [.ref p] H Q := ⟨p, ns, rfl, h, h0, fun m hm hl => minL_eq hm hl ▸ q⟩
end
end My
local macro_rules | `(tactic| walk_at "rd1") => `(tactic| (with_reducible refine My.rd_iQ ?_))

/-! ### P0Z: zip of two sources, each a list, a tuple or a text -/
namespace My
open PySem PySem.Spec PyProof.Rows L2
inductive Src where
  | L (a : Addr)
  | T (a : Addr)
  | S (z : Str)
def Src.v : Src → V
  | .L a => .ref a
  | .T a => .ref a
  | .S z => .str z
def signsV (z : Str) : List V := z.cps.toList.map fun c => V.str ⟨#[c]⟩
/-- the items of a source -/
def SrcAt (K : PySem.W.Frag) (H : Hp) : Src → List V → Prop
  | .L a, xs => SqL K H a xs
  | .T a, xs => SqT K H a xs
  | .S z, xs => xs = signsV z
/-- an iterator over a source, at its turn k -/
def Iat (t : Tok) (it : Addr) (k : Nat) (h : Heap) : Src → Prop
  | .L a => h.IsListIter it a k
  | .T a => h.IsTupleIter it a k
  | .S z => h.IsStrIter it (strIterType z) z t k
/-- a source stands apart from an address -/
def Src.off (s : Src) (b : Addr) : Prop := ∀ a, s.v = .ref a → a ≠ b
theorem Iat.obj {t : Tok} {it : Addr} {k : Nat} {h : Heap} : ∀ {s : Src}, Iat t it k h s → ∃ o, h.get? it = some o ∧ ∀ v, o.data ≠ .cell v
  | .L _, ⟨o, e, _, d⟩ => ⟨o, e, fun v q => by rw [d] at q; cases q⟩
  | .T _, ⟨o, e, _, d⟩ => ⟨o, e, fun v q => by rw [d] at q; cases q⟩
  | .S _, ⟨o, e, _, d⟩ => ⟨o, e, fun v q => by rw [d] at q; cases q⟩
theorem Iat.at {t : Tok} {it : Addr} {k : Nat} {h h' : Heap} (q : ∀ o, h.get? it = some o → h'.get? it = some o) : ∀ {s : Src}, Iat t it k h s → Iat t it k h' s
  | .L _, i => Heap.IsListIter.at i q
  | .T _, i => Heap.IsTupleIter.at i q
  | .S _, ⟨o, e, r⟩ => ⟨o, q o e, r⟩
section
variable {X : Cx} {pins : List (Addr × Obj)} {σ : L2.St} {H : Hp} {s : Shared}
/-- what such an iterator draws -/
theorem drawsS (I : Inv X pins σ H s) (t : Tok) (it : Addr) {A : Around} (hA : A.handled = none) : ∀ {sr : Src} {xs : List V}, SrcAt X.K H sr xs → sr.off it →
    ∃ (fp : List Addr) (Pd : Nat → Value → Prop) (St : Nat → Heap → Prop), Draws X.prog X.w A it fp xs.length Pd St ∧ it ∈ fp ∧ (∀ b ∈ fp, b = it ∨ sr.v = .ref b) ∧ (∀ k, Iat t it k s.heap sr → St k s.heap) ∧ (∀ k h, St k h → Iat t it k h sr) ∧
      ∀ k u, Pd k u → ∃ x, xs[k]? = some x ∧ RelV x u
  | .L a, xs, h, ho => by
    obtain ⟨us, rv, p, _⟩ := I.list h
    have D := Draws.list (prog := X.prog) (w := X.w) hA it a (ho a rfl) us.toArray
    rw [List.size_toArray, ← rv.length] at D
    refine ⟨_, _, _, D, by simp, fun b hb => ?_, fun k q => ⟨q, p.isList⟩, fun k h q => q.1, fun k u q => ?_⟩
    · rcases List.mem_cons.mp hb with rfl | hb
      · exact .inl rfl
      · exact .inr (by rw [List.mem_singleton.mp hb]; rfl)
    · have hk : us[k]? = some u := by simpa using q
      have hlt : k < xs.length := by
        rw [rv.length]
        exact (List.getElem?_eq_some_iff.mp hk).1
      exact ⟨xs[k], get_of hlt, vals_at rv k _ _ (get_of hlt) hk⟩
  | .T a, xs, h, ho => by
    obtain ⟨us, rv, p, _⟩ := I.tuple h
    have D := Draws.tuple (prog := X.prog) (w := X.w) hA it a (ho a rfl) us.toArray
    rw [List.size_toArray, ← rv.length] at D
    refine ⟨_, _, _, D, by simp, fun b hb => ?_, fun k q => ⟨q, p⟩, fun k h q => q.1, fun k u q => ?_⟩
    · rcases List.mem_cons.mp hb with rfl | hb
      · exact .inl rfl
      · exact .inr (by rw [List.mem_singleton.mp hb]; rfl)
    · have hk : us[k]? = some u := by simpa using q
      have hlt : k < xs.length := by
        rw [rv.length]
        exact (List.getElem?_eq_some_iff.mp hk).1
      exact ⟨xs[k], get_of hlt, vals_at rv k _ _ (get_of hlt) hk⟩
  | .S z, xs, h, ho => by
    cases (show xs = signsV z from h)
    have D := Draws.text (prog := X.prog) (w := X.w) hA it z t
    have e : z.cps.size = (signsV z).length := by simp [signsV]
    rw [e] at D
    refine ⟨_, _, _, D, by simp, fun b hb => .inl (List.mem_singleton.mp hb), fun k q => q, fun k h q => q, fun k u q => ?_⟩
    obtain ⟨c, t1, hc, rfl⟩ := q
    exact ⟨.str ⟨#[c]⟩, by simp [signsV, hc], ⟨_, rfl⟩⟩
/-- how its iterator begins -/
theorem beginsS (I : Inv X pins σ H s) : ∀ {sr : Src} {xs : List V} {u : Value}, SrcAt X.K H sr xs → RelV sr.v u → ∃ (t : Tok) (o : Obj) (B : Heap → Prop), Begins u o B ∧ B s.heap ∧ (∀ h it, h.get? it = some o → Iat t it 0 h sr) ∧ ∀ a, sr.v = .ref a → a < s.heap.objs.size
  | .L a, xs, u, h, r => by
    cases (show u = Value.ref a from r)
    obtain ⟨us, rv, p, _⟩ := I.list h
    exact ⟨0, _, _, begins_list a us.toArray, p.isList, fun h it e => ⟨_, e, rfl, rfl⟩, fun b e => by cases e; exact p.lt⟩
  | .T a, xs, u, h, r => by
    cases (show u = Value.ref a from r)
    obtain ⟨us, rv, p, _⟩ := I.tuple h
    obtain ⟨o1, ho1, _⟩ := id p
    exact ⟨0, _, _, begins_tuple a us.toArray, p, fun h it e => ⟨_, e, rfl, rfl⟩, fun b e => by cases e; exact Heap.lt_size ho1⟩
  | .S z, xs, u, h, r => by
    obtain ⟨t, rfl⟩ := (show ∃ t, u = Value.str z t from r)
    exact ⟨t, _, _, begins_text z t, trivial, fun h it e => ⟨_, e, rfl, rfl⟩, fun b e => nomatch e⟩
theorem SrcAt.inj (I : Inv X pins σ H s) : ∀ {sr : Src} {xs ys : List V}, SrcAt X.K H sr xs → SrcAt X.K H sr ys → xs = ys
  | .L _, _, _, h, h' => I.list_inj h h'
  | .T _, _, _, h, h' => I.tuple_inj h h'
  | .S _, _, _, h, h' => Eq.trans h (Eq.symm h')
end
/-- the two sources as they stand at each turn, the items in new pairs -/
def ItzS (K : PySem.W.Frag) (a b : Src) : It :=
  ⟨fun i H => ∃ (xs ys : List V), SrcAt K H a xs ∧ SrcAt K H b ys ∧ i < xs.length ∧ i < ys.length,
    fun i H v H' => ∃ T x y, v = .ref T ∧ H T = none ∧ H' = upd H T (.tup [x, y]) ∧ (∀ xs, SrcAt K H a xs → xs[i]? = some x) ∧ ∀ ys, SrcAt K H b ys → ys[i]? = some y,
    fun i H => ∃ xs ys : List V, SrcAt K H a xs ∧ SrcAt K H b ys ∧ i ≤ xs.length ∧ i ≤ ys.length ∧ (i = xs.length ∨ i = ys.length)⟩
/-- five cells apart, and from the sources -/
structure Zap (z TI TO i1 i2 : Addr) (a b : Src) : Prop where
  nd : [z, TI, TO, i1, i2].Nodup
  oa : ∀ c ∈ [z, TI, TO, i1, i2], a.off c
  ob : ∀ c ∈ [z, TI, TO, i1, i2], b.off c
theorem Zap.sep {z TI TO i1 i2 : Addr} {a b : Src} (D : Zap z TI TO i1 i2 a b) {fp1 fp2 : List Addr} (m1 : i1 ∈ fp1) (m2 : i2 ∈ fp2) (h1 : ∀ c ∈ fp1, c = i1 ∨ a.v = .ref c) (h2 : ∀ c ∈ fp2, c = i2 ∨ b.v = .ref c) : ZipSep2 z TI TO i1 i2 fp1 fp2 := by
  have nd := D.nd
  simp only [List.nodup_cons, List.mem_cons, List.not_mem_nil, or_false, not_or, List.nodup_nil, and_true, not_false_eq_true] at nd
  obtain ⟨⟨n1, n2, n3, n4⟩, ⟨n5, n6, n7⟩, ⟨n8, n9⟩, n10⟩ := nd
  have f1 : ∀ c, c ∈ [z, TI, TO, i1, i2] → c ≠ i1 → c ∉ fp1 := fun c hc hn hm => (h1 c hm).elim hn fun e => D.oa c hc c e rfl
  have f2 : ∀ c, c ∈ [z, TI, TO, i1, i2] → c ≠ i2 → c ∉ fp2 := fun c hc hn hm => (h2 c hm).elim hn fun e => D.ob c hc c e rfl
  exact ⟨Ne.symm n1, Ne.symm n2, n5, n6, m1, f1 _ (by simp) n3, f1 _ (by simp) n8, n7, m2, f2 _ (by simp) n4, f2 _ (by simp) n9, f2 _ (by simp) n10, f1 _ (by simp) (Ne.symm n10)⟩
def zipTn (z TI TO i1 i2 : Addr) (a b : Src) (t1 t2 : Tok) (i : Nat) (h : Heap) : Prop := IsZip h z TI TO .none ∧ IsTupOf2 h TI (.ref i1) (.ref i2) ∧ (∃ x y, IsTupOf2 h TO x y) ∧ Iat t1 i1 i h a ∧ Iat t2 i2 i h b
theorem turn_zipS {P : Program} {w : World} {K : PySem.W.Frag} {elts : List Expr} {kk : Nat} {tpos : Pos} {a b : Src} {t1 t2 : Tok} {z TI TO i1 i2 : Addr} (D : Zap z TI TO i1 i2 a b) :
    Turn P w K (.Tuple elts kk tpos) (ItzS K a b) [z, TI, TO, i1, i2] z (zipTn z TI TO i1 i2 a b t1 t2) := by
  have nd := D.nd
  simp only [List.nodup_cons, List.mem_cons, List.not_mem_nil, or_false, not_or, List.nodup_nil, and_true, not_false_eq_true] at nd
  obtain ⟨⟨n1, n2, n3, n4⟩, ⟨n5, n6, n7⟩, ⟨n8, n9⟩, n10⟩ := nd
  refine ⟨by simp, ?obj, ?keep, ?item, ?done, fun A i s Q E st h => wpAny_pyIter_zip st.1 h⟩
  case obj =>
    rintro i h ⟨hz, hTI, ⟨x, y, hTO⟩, h1, h2⟩ c hc
    simp only [List.mem_cons, List.not_mem_nil, or_false] at hc
    rcases hc with q | q | q | q | q <;> rw [q]
    · exact ⟨_, hz, fun v q => nomatch q⟩
    · exact ⟨_, hTI, fun v q => nomatch q⟩
    · exact ⟨_, hTO, fun v q => nomatch q⟩
    · exact h1.obj
    · exact h2.obj
  case keep =>
    rintro i h h' ⟨hz, hTI, ⟨x, y, hTO⟩, h1, h2⟩ k
    exact ⟨k z (by simp) _ hz, k TI (by simp) _ hTI, ⟨x, y, k TO (by simp) _ hTO⟩, h1.at fun o q => k i1 (by simp) o q, h2.at fun o q => k i2 (by simp) o q⟩
  case item =>
    intro X hP hw hK hc i pins s σ H E I hf st hg
    subst hP hw hK
    obtain ⟨hz, hTI, ⟨x0, y0, hTO⟩, h1, h2⟩ := st
    obtain ⟨xs, ys, hqx, hqy, lx, ly⟩ := hg
    have hh : X.A.in1.handled = none := I.ok.hd hc
    obtain ⟨fp1, P1, St1, D1, m1, u1, b1, e1, r1⟩ := drawsS I t1 i1 hh hqx (D.oa i1 (by simp))
    obtain ⟨fp2, P2, St2, D2, m2, u2, b2, e2, r2⟩ := drawsS I t2 i2 hh hqy (D.ob i2 (by simp))
    have S := D.sep m1 m2 u1 u2
    have hzl : z < s.heap.objs.size := Heap.lt_size hz
    refine wpAny_pyNext_zipD2_item S D1 D2 hz hTI hTO (b1 i h1) (b2 i h2) lx ly fun w1 w2 hp' tk p1 p2 z' TO' s1' s2' hT hsz hk => ?_
    obtain ⟨x, hx, rx⟩ := r1 i w1 p1
    obtain ⟨y, hy, ry⟩ := r2 i w2 p2
    refine ⟨_, rfl, wpAny_letOwnedTupleGo_zip (s := { s with heap := hp', toks := tk }) z' fun hp2 z2 sb => ?_⟩
    have hT2 : hp2.get? s.heap.objs.size = some { cls := .type "tuple", data := .seq #[w1, w2] } := (sb.2 _ (Nat.ne_of_gt hzl)).trans hT
    have new : ObjOk X.prog X.w (upd H s.heap.objs.size (.tup [x, y])) hp2 s.heap.objs.size (.tup [x, y]) := ⟨(by decide : 2 ≤ sizeLine), [w1, w2], .cons rx (.cons ry .nil), ⟨_, hT2, rfl, _, rfl⟩⟩
    have go : ∀ c o, c ∉ [z, TI, TO, i1, i2] → s.heap.get? c = some o → hp2.get? c = some o := fun c o hb q => by
      simp only [List.mem_cons, List.not_mem_nil, or_false, not_or] at hb
      exact (sb.2 c hb.1).trans (hk c o hb.1 hb.2.2.1 hb.2.2.2.1 hb.2.2.2.2 q)
    have I1 : Inv X pins σ (upd H s.heap.objs.size (.tup [x, y])) { s with heap := hp2, toks := tk } := I.turnedNew (ch := [z, TI, TO, i1, i2]) go hf (Nat.le_refl _) new
    refine ⟨.ref s.heap.objs.size, _, I1, rfl, ⟨_, x, y, rfl, I.hok.fresh (Nat.le_refl _), rfl, fun l hl => by rw [SrcAt.inj I hl hqx]; exact hx, fun l hl => by rw [SrcAt.inj I hl hqy]; exact hy⟩, ⟨z2, ?_, ⟨w1, w2, ?_⟩, ?_, ?_⟩, fun c hcm => ?_⟩
    · exact (sb.2 _ (Ne.symm n1)).trans (hk _ _ (Ne.symm n1) n5 n6 n7 hTI)
    · exact (sb.2 _ (Ne.symm n2)).trans TO'
    · exact (e1 _ _ s1').at fun o q => (sb.2 _ (Ne.symm n3)).trans q
    · exact (e2 _ _ s2').at fun o q => (sb.2 _ (Ne.symm n4)).trans q
    · have hlt : c < s.heap.objs.size := by
        simp only [List.mem_cons, List.not_mem_nil, or_false] at hcm
        rcases hcm with q | q | q | q | q <;> rw [q]
        · exact hzl
        · exact Heap.lt_size hTI
        · exact Heap.lt_size hTO
        · obtain ⟨o, e, _⟩ := h1.obj
          exact Heap.lt_size e
        · obtain ⟨o, e, _⟩ := h2.obj
          exact Heap.lt_size e
      rw [upd_ne (Nat.ne_of_lt hlt)]
      exact (hf c hcm).1
  case done =>
    intro X hP hw hK hc i pins s σ H E I hf st hg
    subst hP hw hK
    obtain ⟨hz, hTI, ⟨x0, y0, hTO⟩, h1, h2⟩ := st
    obtain ⟨xs, ys, hqx, hqy, lx, ly, hend⟩ := hg
    have hh : X.A.in1.handled = none := I.ok.hd hc
    obtain ⟨fp1, P1, St1, D1, m1, u1, b1, e1, r1⟩ := drawsS I t1 i1 hh hqx (D.oa i1 (by simp))
    obtain ⟨fp2, P2, St2, D2, m2, u2, b2, e2, r2⟩ := drawsS I t2 i2 hh hqy (D.ob i2 (by simp))
    refine wpAny_pyNext_zipD2_end (D.sep m1 m2 u1 u2) D1 D2 hz hTI hTO (b1 i h1) (b2 i h2) lx ly hend fun hp' tk hk => ⟨rfl, I.turnedL (ch := [z, TI, TO, i1, i2]) (fun c o hb q => ?_) hf⟩
    simp only [List.mem_cons, List.not_mem_nil, or_false, not_or] at hb
    exact hk c o hb.1 hb.2.2.1 hb.2.2.2.1 hb.2.2.2.2 q
def iZipS (K : PySem.W.Frag) (ta : TA) : TI := fun σ H R => ta σ H fun vs H1 => ∃ (a b : Src) (xs ys : List V), vs = [a.v, b.v] ∧ SrcAt K H1 a xs ∧ SrcAt K H1 b ys ∧ R (ItzS K a b) H1
theorem pi_zipS {X : Cx} {e e2 : Expr} {ta : TA} {p pos tpos : Pos} {elts : List Expr} {kk : Nat} {K : PySem.W.Frag} (hK : X.K = K) (hg : Gl X "zip") (hm : X.mg "zip" = none) (ha : PA X [e, e2] ta)
    (hs : starEach [e, e2] X.env = (false, eval e X.env) :: starEach [e2] X.env := by rfl) (hpl : (backTo pos (starEach [e2] X.env)).any (·.1) = false := by rfl) :
    PI X (.Tuple elts kk tpos) (.Call (.Name "zip" p) [e, e2] [] pos) (iZipS K ta) := by
  subst hK
  refine ⟨fun pins s σ H R I h => ?_⟩
  refine Call_ (ld_blt I hg hm PyProof.Rows.boot_zip (PyProof.Rows.callWith_type1 (thn (ha.run pos pins s σ H _ I h) fun us s1 ⟨vs, H1, I1, r1, q1⟩ => ?_) hs hpl))
  obtain ⟨a, b, xs, ys, ex, hqx, hqy, q⟩ := q1
  subst ex
  obtain ⟨u1, r2, e1, ra, rr⟩ : ∃ u1 r2, us = u1 :: r2 ∧ RelV a.v u1 ∧ Vals [b.v] r2 := by
    cases r1 with
    | cons h1 h2 => exact ⟨_, _, rfl, h1, h2⟩
  obtain ⟨u2, e2, rb⟩ := vals1 rr
  subst e2
  subst e1
  · skip
    obtain ⟨t1, o1, B1, bg1, hb1, it1, lt1⟩ := beginsS I1 hqx ra
    obtain ⟨t2, o2, B2, bg2, hb2, it2, lt2⟩ := beginsS I1 hqy rb
    refine zip_begins2 bg1 bg2 hb1 hb2 fun hp' hz hTI hTO g1 g2 hsz hk => wpAny_pyIter_zip hz ?_
    have I2 : Inv X pins σ H1 { s1 with heap := hp' } := I1.kept (t' := s1.toks) hk
    have fresh : ∀ c, c ∈ [s1.heap.objs.size + 4, s1.heap.objs.size + 2, s1.heap.objs.size + 3, s1.heap.objs.size, s1.heap.objs.size + 1] → s1.heap.objs.size ≤ c := fun c hcm => by
      simp only [List.mem_cons, List.not_mem_nil, or_false] at hcm
      omega
    have Z : Zap (s1.heap.objs.size + 4) (s1.heap.objs.size + 2) (s1.heap.objs.size + 3) s1.heap.objs.size (s1.heap.objs.size + 1) a b := by
      refine ⟨?_, fun c hc d e => ?_, fun c hc d e => ?_⟩
      · simp only [List.nodup_cons, List.mem_cons, List.not_mem_nil, or_false, not_or, List.nodup_nil, and_true, not_false_eq_true]
        refine ⟨⟨?_, ?_, ?_, ?_⟩, ⟨?_, ?_, ?_⟩, ⟨?_, ?_⟩, ?_⟩ <;> exact fun e => absurd (show (_ : Nat) = _ from e) (by omega)
      · exact Nat.ne_of_lt (Nat.lt_of_lt_of_le (lt1 d e) (fresh c hc))
      · exact Nat.ne_of_lt (Nat.lt_of_lt_of_le (lt2 d e) (fresh c hc))
    exact ⟨_, _, _, _, H1, rfl, I2, turn_zipS (t1 := t1) (t2 := t2) Z, ⟨hz, hTI, ⟨_, _, hTO⟩, it1 _ _ g1, it2 _ _ g2⟩, fun c hc => I1.fpOk (fresh c hc) (I1.hok.fresh (fresh c hc)), q⟩
theorem walk_zipS {K : PySem.W.Frag} {a b : Src} {xs ys : List V} {n : Nat} (hn : n = min xs.length ys.length) : Walk (ItzS K a b) n (fun H => SrcAt K H a xs ∧ SrcAt K H b ys) (YPair (fun i => xs[i]?) (fun i => ys[i]?)) := by
  subst hn
  refine ⟨fun i _ hi q => ⟨xs, ys, q.1, q.2, by omega, by omega⟩, fun _ q => ⟨xs, ys, q.1, q.2, by omega, by omega, by omega⟩, fun i H v H' _ q y => ?_⟩
  obtain ⟨T, x, u, e1, e2, e3, e4, e5⟩ := y
  exact ⟨T, x, u, e1, e2, e3, e4 xs q.1, e5 ys q.2⟩
theorem rd_zipS {K : PySem.W.Frag} {tr : TA} {σ : L2.St} {H : Hp} {R : It → Hp → Prop} (h : tr σ H fun vs H1 => ∃ (a b : Src) (xs ys : List V), vs = [a.v, b.v] ∧ SrcAt K H1 a xs ∧ SrcAt K H1 b ys ∧ R (ItzS K a b) H1) : iZipS K tr σ H R := h
/-! #### enumerate of a list, a tuple, a text -/
def ItnS (K : PySem.W.Frag) (a : Src) : It :=
  ⟨fun i H => ∃ xs : List V, SrcAt K H a xs ∧ i < xs.length,
    fun i H v H' => ∃ T x, v = .ref T ∧ H T = none ∧ H' = upd H T (.tup [.int (i : Nat), x]) ∧ ∀ xs, SrcAt K H a xs → xs[i]? = some x,
    fun i H => ∃ xs : List V, SrcAt K H a xs ∧ i = xs.length⟩
def enumTn (e it : Addr) (a : Src) (t : Tok) (i : Nat) (h : Heap) : Prop := (∃ old, IsEnum h e it ((i : Nat) : Int) old) ∧ Iat t it i h a
theorem turn_enumS {P : Program} {w : World} {K : PySem.W.Frag} {elts : List Expr} {kk : Nat} {tpos : Pos} {a : Src} {t : Tok} {e it : Addr} (ne : e ≠ it) (oe : a.off e) (oi : a.off it) :
    Turn P w K (.Tuple elts kk tpos) (ItnS K a) [e, it] e (enumTn e it a t) := by
  refine ⟨by simp, ?obj, ?keep, ?item, ?done, fun A i s Q E st h => st.1.elim fun _ he => wpAny_pyIter_enum he h⟩
  case obj =>
    rintro i h ⟨⟨old, he⟩, h1⟩ c hc
    simp only [List.mem_cons, List.not_mem_nil, or_false] at hc
    rcases hc with q | q <;> rw [q]
    · exact ⟨_, he, fun v q => nomatch q⟩
    · exact h1.obj
  case keep =>
    rintro i h h' ⟨⟨old, he⟩, h1⟩ k
    exact ⟨⟨old, k e (by simp) _ he⟩, h1.at fun o q => k it (by simp) o q⟩
  case item =>
    intro X hP hw hK hc i pins s σ H E I hf st hg
    subst hP hw hK
    obtain ⟨⟨old, he⟩, h1⟩ := st
    obtain ⟨xs, hq, lx⟩ := hg
    have hh : X.A.in1.handled = none := I.ok.hd hc
    obtain ⟨fp, Pd, St, D, m, u, b, back, r⟩ := drawsS I t it hh hq oi
    have hef : e ∉ fp := fun hm => (u e hm).elim ne fun q => oe e q rfl
    have hel : e < s.heap.objs.size := Heap.lt_size he
    refine wpAny_pyNext_enum_itemD D he (b i h1) lx ne hef fun w1 hp' tk p1 out st' hT hsz hk => ?_
    obtain ⟨x, hx, rx⟩ := r i w1 p1
    refine ⟨_, rfl, wpAny_letOwnedTupleGo_enum (s := { s with heap := hp', toks := tk + 1 }) out fun hp2 he2 sb => ?_⟩
    have hT2 : hp2.get? s.heap.objs.size = some { cls := .type "tuple", data := .seq #[.int i tk, w1] } := (sb.2 _ (Nat.ne_of_gt hel)).trans hT
    have new : ObjOk X.prog X.w (upd H s.heap.objs.size (.tup [.int (i : Nat), x])) hp2 s.heap.objs.size (.tup [.int (i : Nat), x]) := ⟨(by decide : 2 ≤ sizeLine), [.int i tk, w1], .cons ⟨_, rfl⟩ (.cons rx .nil), ⟨_, hT2, rfl, _, rfl⟩⟩
    have go : ∀ c o, c ∉ [e, it] → s.heap.get? c = some o → hp2.get? c = some o := fun c o hb q => by
      simp only [List.mem_cons, List.not_mem_nil, or_false, not_or] at hb
      exact (sb.2 c hb.1).trans (hk c o hb.1 hb.2 q)
    have I1 : Inv X pins σ (upd H s.heap.objs.size (.tup [.int (i : Nat), x])) { s with heap := hp2, toks := tk + 1 } := I.turnedNew (ch := [e, it]) go hf (Nat.le_refl _) new
    refine ⟨.ref s.heap.objs.size, _, I1, rfl, ⟨_, x, rfl, I.hok.fresh (Nat.le_refl _), rfl, fun l hl => by rw [SrcAt.inj I hl hq]; exact hx⟩, ⟨⟨w1, ?_⟩, ?_⟩, fun c hcm => ?_⟩
    · rw [show ((i + 1 : Nat) : Int) = (i : Int) + 1 by omega]
      exact he2
    · exact (back _ _ st').at fun o q => (sb.2 _ (Ne.symm ne)).trans q
    · have hlt : c < s.heap.objs.size := by
        simp only [List.mem_cons, List.not_mem_nil, or_false] at hcm
        rcases hcm with q | q <;> rw [q]
        · exact hel
        · obtain ⟨o, e1, _⟩ := h1.obj
          exact Heap.lt_size e1
      rw [upd_ne (Nat.ne_of_lt hlt)]
      exact (hf c hcm).1
  case done =>
    intro X hP hw hK hc i pins s σ H E I hf st hg
    subst hP hw hK
    obtain ⟨⟨old, he⟩, h1⟩ := st
    obtain ⟨xs, hq, rfl⟩ := hg
    have hh : X.A.in1.handled = none := I.ok.hd hc
    obtain ⟨fp, Pd, St, D, m, u, b, back, r⟩ := drawsS I t it hh hq oi
    refine wpAny_pyNext_enum_endD D he (b _ h1) fun hp' hk => ⟨rfl, I.turnedL (t' := s.toks) (ch := [e, it]) (fun c o hb q => ?_) hf⟩
    simp only [List.mem_cons, List.not_mem_nil, or_false, not_or] at hb
    exact hk c o hb.2 q
theorem enum_newB1 {v : Value} {o : Obj} {B : Heap → Prop} (bg : Begins v o B) : Meets (Builtin.«enumerate.__new__» ⟨[.type "enumerate", v], []⟩) (fun _ R s => B s.heap ∧
    R (.ok (.ret (.ref (s.heap.push o).objs.size))) { s with heap := (s.heap.push o).push { cls := .type "enumerate", data := .fields #[.none, .bool false, .ref s.heap.objs.size, rawInt 0, .none, .none] } }) :=
  .of_wp fun prog w A R s h => by
    obtain ⟨hp, g, d, tk, os⟩ := s
    obtain ⟨hB, h⟩ := h
    have hs := sub_enumerate
    have st : ∀ {A' : Around} {E Q : Value → Shared → Prop}, Q (.ref hp.objs.size) ⟨hp.push o, g, d, tk, os⟩ → wpAny (model prog w) A' (pyIter v) Q E ⟨hp, g, d, tk, os⟩ := fun q => bg.iter prog w _ _ ⟨hp, g, d, tk, os⟩ _ hB q
    wp_walk using st
    refine wpAny_stack_any fun st2 => wpAny_pure ?_
    split
    · rename_i c _ _ _ _ _
      cases (c == Value.type "enumerate") <;> (wp_walk using st; exact ⟨_, rfl, h⟩)
    · wp_walk using st
      exact ⟨_, rfl, h⟩
theorem enum_begins1 {prog : Program} {w : World} {A : Around} {E : Value → Shared → Prop} {s : Shared} {v : Value} {o : Obj} {B : Heap → Prop} {Q : Value → Shared → Prop} (bg : Begins v o B) (hB : B s.heap)
    (h : ∀ hp', IsEnum hp' (s.heap.objs.size + 1) s.heap.objs.size 0 .none → hp'.get? s.heap.objs.size = some o → (∀ b ob, s.heap.get? b = some ob → hp'.get? b = some ob) → Q (.ref (s.heap.objs.size + 1)) { s with heap := hp' }) : wpAny (model prog w) A (call (.type "enumerate") [v]) Q E s := by
  refine callType_new F.called_enumerate (by decide) (F.typeCall_enumerate_1 _) (F.newCall_enumerate_1 _) (fun obj => F.args_object_init_2 obj _) F.entry_enumerate_new (enum_newB1 bg) ⟨hB, ?_⟩
  have z1 : (s.heap.push o).objs.size = s.heap.objs.size + 1 := Heap.size_push ..
  have g1 : ((s.heap.push o).push { cls := .type "enumerate", data := .fields #[.none, .bool false, .ref s.heap.objs.size, rawInt 0, .none, .none] }).get? (s.heap.push o).objs.size = some { cls := .type "enumerate", data := .fields #[.none, .bool false, .ref s.heap.objs.size, rawInt 0, .none, .none] } := Heap.get?_push_size _ rfl
  rw [z1] at g1
  show _ ∧ _
  rw [z1]
  exact ⟨⟨_, g1, rfl⟩, h _ g1 (Heap.get?_push_of_some _ (Heap.get?_push_size _ bg.free)) fun b ob x => Heap.get?_push_of_some _ (Heap.get?_push_of_some _ x)⟩
def iEnumS (K : PySem.W.Frag) (ta : TA) : TI := fun σ H R => ta σ H fun vs H1 => ∃ (a : Src) (xs : List V), vs = [a.v] ∧ SrcAt K H1 a xs ∧ R (ItnS K a) H1
theorem pi_enumS {X : Cx} {e : Expr} {ta : TA} {p pos tpos : Pos} {elts : List Expr} {kk : Nat} {K : PySem.W.Frag} (hK : X.K = K) (hg : Gl X "enumerate") (hm : X.mg "enumerate" = none) (ha : PA X [e] ta) (hs : starEach [e] X.env = [(false, eval e X.env)] := by rfl) :
    PI X (.Tuple elts kk tpos) (.Call (.Name "enumerate" p) [e] [] pos) (iEnumS K ta) := by
  subst hK
  refine ⟨fun pins s σ H R I h => ?_⟩
  refine Call_ (ld_blt I hg hm boot_enumerate (PyProof.Rows.callWith_type1 (thn (ha.run pos pins s σ H _ I h) fun us s1 ⟨vs, H1, I1, r1, q1⟩ => ?_) hs rfl))
  obtain ⟨a, xs, ex, hq, q⟩ := q1
  subst ex
  obtain ⟨u1, e1, ra⟩ := vals1 r1
  subst e1
  obtain ⟨t1, o1, B1, bg1, hb1, it1, lt1⟩ := beginsS I1 hq ra
  refine enum_begins1 bg1 hb1 fun hp' he g1 hk => wpAny_pyIter_enum he ?_
  have I2 : Inv X pins σ H1 { s1 with heap := hp' } := I1.kept (t' := s1.toks) hk
  have fresh : ∀ c, c ∈ [s1.heap.objs.size + 1, s1.heap.objs.size] → s1.heap.objs.size ≤ c := fun c hcm => by
    simp only [List.mem_cons, List.not_mem_nil, or_false] at hcm
    omega
  exact ⟨_, _, _, _, H1, rfl, I2, turn_enumS (t := t1) (Nat.succ_ne_self _) (fun d e => Nat.ne_of_lt (Nat.lt_of_lt_of_le (lt1 d e) (fresh _ (by simp)))) (fun d e => Nat.ne_of_lt (lt1 d e)), ⟨⟨.none, he⟩, it1 _ _ g1⟩, fun c hc => I1.fpOk (fresh c hc) (I1.hok.fresh (fresh c hc)), q⟩
theorem walk_enumS {K : PySem.W.Frag} {a : Src} {xs : List V} : Walk (ItnS K a) xs.length (fun H => SrcAt K H a xs) (YPair (fun i => some (.int (i : Nat))) (fun i => xs[i]?)) := by
  refine ⟨fun i _ hi q => ⟨xs, q, hi⟩, fun _ q => ⟨xs, q, rfl⟩, fun i H v H' _ q y => ?_⟩
  obtain ⟨T, x, e1, e2, e3, e4⟩ := y
  exact ⟨T, .int (i : Nat), x, e1, e2, e3, rfl, e4 xs q⟩
theorem rd_enumS {K : PySem.W.Frag} {tr : TA} {σ : L2.St} {H : Hp} {R : It → Hp → Prop} (h : tr σ H fun vs H1 => ∃ (a : Src) (xs : List V), vs = [a.v] ∧ SrcAt K H1 a xs ∧ R (ItnS K a) H1) : iEnumS K tr σ H R := h
end My
local macro_rules | `(tactic| walk_at "rd1") => `(tactic| (with_reducible refine My.rd_zipS ?_))
local macro_rules | `(tactic| walk_at "rd1") => `(tactic| (with_reducible refine My.rd_enumS ?_))

/-! ### P0D: an empty dict: its repr, compared with a text -/
namespace My
open PySem PySem.Spec PyProof.Rows L2
theorem dictE_eq_str {b : Addr} {z : Str} {u : Tok} {prog : Program} {w : World} {A : Around} {E : Value → Shared → Prop} {Q : Value → Shared → Prop} {s : Shared} (hd : s.TypeIs (.ref b) "dict") (h : Q .notImplemented s) :
    wpAny (model prog w) A (call (.builtin "dict.__eq__") [.ref b, .str z u]) Q E s := by
  refine wpAny_call_entry PySem.F.slot_dict_eq hd PySem.F.entry_dict_eq ?_ (PySem.F.args_dict_eq_2 _ _)
  show wpAny _ _ (Builtin.Dict.dictSlotArgs "__eq__" ⟨[.ref b, .str z u], []⟩ >>= _) _ _ s
  refine wpAny_bind ?_
  unfold Builtin.Dict.dictSlotArgs
  refine wpAny_bind (wpAny_notOrdered_dict hd ?_)
  refine wpAny_pure ?_
  refine wpAny_bind (wpAny_isInstance (T := "str") (typeIs_str s z u) PySem.F.sub_str_dict ?_)
  simp only [Bool.not_false, if_true]
  refine wpAny_bind (wpAny_rule ?_)
  exact wpAny_pure ⟨_, rfl, h⟩
theorem str_eq_dictE (z : Str) (u : Tok) (l : Addr) (c : Value) (es : Array DictEntry) (n : Nat) (dd : Option Addr) (sl : Array (Option Value)) :
    Meets (Builtin.«str.__eq__» ⟨[.str z u, .ref l], []⟩) (fun _ R s => s.heap.get? l = some { cls := c, dict := dd, data := .dict es n, slots := sl } ∧ R (.ok (.ret .notImplemented)) s) :=
  .of_wp fun prog w A R s h => by obtain ⟨hp, g, d, tk, os⟩ := s; obtain ⟨hl, h⟩ := h; wp_walk using wpAny_loadPart' hl, wpAny_load hl; exact ⟨_, rfl, h⟩
theorem dictE_rc {l : Addr} {o : Obj} {es : Array DictEntry} {n : Nat} {prog : Program} {w : World} {A : Around} {E : Value → Shared → Prop} {Q : Value → Shared → Prop} {s : Shared} {z : Str} {u : Tok} (ho : s.heap.get? l = some o) (hc : o.cls = .type "dict") (hd : o.data = .dict es n) (hu : A.units < cLine) (h : Q (.bool false) s) :
    wpAny (model prog w) A (compareOp .Eq (.ref l) (.str z u)) Q E s := by
  obtain ⟨cls, dd, data, sl⟩ := o
  simp only at hc hd
  subst hc hd
  exact SeqAt.rc_eq_decline_or (k := false) ⟨_, ho, rfl⟩ (typeIs_str s z u) (by decide) PySem.F.sub_str_dict PySem.F.slot_dict_eq PySem.F.slot_str_eq_refl
    (fun _ hq => dictE_eq_str ⟨_, ho, rfl⟩ hq)
    (fun _ hq => call_meets PySem.F.slot_str_eq_refl (typeIs_str s z u) PySem.F.entry_str_eq (PySem.F.args_str_eq_2 _ _) (str_eq_dictE z u l (.type "dict") es n dd sl) ⟨ho, hq⟩)
    (fun _ hq => wpAny_of_eq (rfl : isSame (.ref l) (.str z u) = pure false) hq) (.inr hu) h
/-- a thing: data, or an empty dict -/
inductive DpE (K : PySem.W.Frag) (H : Hp) : V → PyData → Prop
  | dp {v : V} {d : PyData} : Dp K H v d → DpE K H v d
  | dK {a : Addr} : H a = some (.dK []) → DpE K H (.ref a) (.dict [])
theorem dkE {X : Cx} {pins : List (Addr × Obj)} {σ : L2.St} {H : Hp} {s : Shared} {a : Addr} (I : Inv X pins σ H s) (h : H a = some (.dK [])) : (a == sysModules) = false ∧ ∃ o es n, s.heap.get? a = some o ∧ o.cls = .type "dict" ∧ o.data = .dict es n ∧ es.toList = [] := by
  obtain ⟨_, hs, vs, kv, o, es, ep, ho, hx, hd, _, hp, _⟩ := (show ObjOk X.prog X.w H s.heap a (.dK []) from I.hok a _ h)
  cases kv
  refine ⟨hs, o, es, ep, ho, hx.1, hd, ?_⟩
  match h1 : es.toList, hp with
  | [], _ => rfl
theorem DpE.same {K : PySem.W.Frag} {H H' : Hp} (e : Same H H') {v : V} {d : PyData} (h : DpE K H v d) : DpE K H' v d := by
  cases h with
  | dp h => exact .dp (dp_same e _ _ h)
  | dK h => exact .dK (e _ _ h)
/-- repr of such a thing -/
def rReprE (K : PySem.W.Frag) : List V → Hp → VK → Prop := fun xs H Q => ∃ v d, xs = [v] ∧ DpE K H v d ∧ d.showable = true ∧ d.depth ≤ 60 ∧ d.shown.length ≤ 10000000 ∧ Q (.str d.shown) H
theorem reprE {X : Cx} {K : PySem.W.Frag} (hK : X.K = K) (hG : X.A.guards = some []) (hu : X.A.units + 64 < cLine) : CallR X (.builtin "repr") (rReprE K) := by
  intro pins s σ H xs us Q I r h
  obtain ⟨v, d, hx, hd, hs, hdep, hlen, q⟩ := h
  cases hd with
  | dp h1 => exact reprD hK hG hu pins s σ H xs us Q I r ⟨v, d, hx, h1, hs, hdep, hlen, q⟩
  | @dK a h1 =>
    subst hx
    obtain ⟨u, rfl, r1⟩ := vals1 r
    cases (show u = Value.ref a from r1)
    obtain ⟨hsm, o, es, n, ho, hc, hdt, hes⟩ := dkE I h1
    have rd : Reads s.heap (.ref a) (.dict []) (a :: [] ++ []) := by
      refine Reads.dict ho hc hdt ?_ ?_
      · rw [hes]
        exact ReadsAll.nil
      · rw [hes]
        exact ReadsAll.nil
    refine repr_of_reads' rd hs (fun _ hm => ?_) hG (by omega) (fun b o e => e) (fun h' u tk keep => ?_) (Nat.le_trans hlen (by decide))
    · have : sysModules = a := by simpa using hm
      rw [this, beq_self_eq_true] at hsm
      cases hsm
    · exact ⟨.str _, H, I.kept (t' := tk) keep, ⟨_, rfl⟩, q⟩
theorem rd_reprE {K : PySem.W.Frag} {H : Hp} {Q : VK} {v : V} {d : PyData} (hd : DpE K H v d) (h1 : d.showable = true) (h2 : d.depth ≤ 60) (h3 : d.shown.length ≤ 10000000) (q : Q (.str d.shown) H) : rReprE K [v] H Q := ⟨v, d, rfl, hd, h1, h2, h3, q⟩
/-- such a thing, a text: are they equal -/
def isV (v : V) (z : Str) : Bool := decide (v = .str z)
def rEqZ (K : PySem.W.Frag) : R2 := fun x y H Q => ∃ z d, y = .str z ∧ DpE K H x d ∧ PyData.strOk z = true ∧ (d = .dict [] ∨ SeqAt.shaped d = true) ∧ Q (.bl (isV x z)) H
theorem eqZ {X : Cx} {K : PySem.W.Frag} (hK : X.K = K) (hu : X.A.units + 64 < cLine) : OpR X (compareOp .Eq) (rEqZ K) := by
  subst hK
  intro pins s σ H x y v u Q I rx ry h
  obtain ⟨z, d, rfl, hd, hz, hsh, q⟩ := h
  obtain ⟨t, rfl⟩ := (show ∃ t, u = Value.str z t from ry)
  cases hd with
  | dp h1 =>
    obtain ⟨as, r1⟩ := Dp.reads I d x v h1 rx
    have hsh : SeqAt.shaped d = true := hsh.resolve_left fun e => by
      subst e
      cases h1
    have h2 : SeqAt.shaped (.str z) = true := by
      show (PyData.canLay0 (.str z) && decide (PyData.depth (.str z) ≤ 64)) = true
      simp only [PyData.canLay0, PyData.depth, hz]
      rfl
    refine SeqAt.compareEq_shaped r1 (Reads.str z t) hsh h2 hu ⟨.bl _, H, I, rfl, ?_⟩
    have e : PyData.eqv d (.str z) = isV x z := by
      cases h1 with
      | str w =>
        show (w == z) = decide (V.str w = V.str z)
        rw [dec_str]
      | non => rfl
      | bl b => cases b <;> rfl
      | int i => rfl
      | lst _ _ => rfl
      | tup _ _ => rfl
    rw [e]
    exact q
  | @dK a h1 =>
    cases (show v = Value.ref a from rx)
    obtain ⟨hsm, o, es, n, ho, hc, hdt, hes⟩ := dkE I h1
    exact dictE_rc ho hc hdt (by omega) ⟨.bl _, H, I, rfl, q⟩
theorem rd_eqZ {K : PySem.W.Frag} {H : Hp} {Q : VK} {v : V} {z : Str} {d : PyData} (hd : DpE K H v d) (hz : PyData.strOk z = true) (h : d = .dict [] ∨ SeqAt.shaped d = true) (q : Q (.bl (isV v z)) H) : rEqZ K v (.str z) H Q := ⟨z, d, rfl, hd, hz, h, q⟩
/-! #### how long a shown thing is -/
mutual
def wt : PyData → Nat
  | .none => 4
  | .bool _ => 5
  | .int _ => 1921
  | .str x => 10 * x.length + 2
  | .list xs => wtAll xs + 4
  | .tuple xs => wtAll xs + 4
  | .dict _ => 10
def wtAll : List PyData → Nat
  | [] => 0
  | x :: xs => wt x + 2 + wtAll xs
end
theorem textFrom_le : ∀ (ts : List Str) (k : Nat) (acc : Str), (textFrom k acc ts).length ≤ acc.length + (ts.map fun t => t.length + 2).sum
  | [], k, acc => by show acc.length ≤ _; simp
  | t :: r, k, acc => by
    have h := textFrom_le r (k + 1) (acc ++ (if k > 0 then ", " else "" : String) ++ t)
    have e : (acc ++ (if k > 0 then ", " else "" : String) ++ t : Str).length ≤ acc.length + 2 + t.length := by
      rw [PySem.Str.length_append, PySem.Str.length_append]
      have : (((if k > 0 then ", " else "" : String) : Str)).length ≤ 2 := by split <;> decide +kernel
      omega
    show (textFrom (k + 1) (acc ++ (if k > 0 then ", " else "" : String) ++ t) r).length ≤ _
    rw [List.map_cons, List.sum_cons]
    omega
theorem piled_sum : ∀ ts : List Str, piled ts = (ts.map fun t => t.length + 2).sum
  | [] => rfl
  | t :: r => by
    rw [List.map_cons, List.sum_cons, ← piled_sum r]
    rfl
mutual
theorem shown_wt : ∀ d : PyData, d.showable = true → d.canLay0 = true → d.shown.length ≤ wt d
  | .none, _, _ => by decide +kernel
  | .bool b, _, _ => by cases b <;> decide +kernel
  | .int i, h, _ => by
    simp only [PyData.showable, decide_eq_true_eq] at h
    simp only [PyData.shown, wt]
    exact int_text_len_1921 h
  | .str x, _, h => by
    simp only [PyData.canLay0] at h
    simp only [PyData.shown, wt]
    refine StrLaws.reprText_len x fun c hc => ?_
    have h1 : ∀ (i : Nat) (hi : i < x.cps.size), x.cps[i] < 1114112 := by simpa [PyData.strOk] using h
    obtain ⟨i, hi, rfl⟩ := List.getElem_of_mem hc
    have h2 := h1 i (by simpa using hi)
    rw [Array.getElem_toList]
    exact Nat.lt_trans h2 (by decide)
  | .list xs, h, hl => by
    simp only [PyData.showable] at h
    simp only [PyData.canLay0] at hl
    simp only [PyData.shown, wt]
    have h1 := shown_wtAll xs h hl
    have h2 := textFrom_le (PyData.shownAll xs) 0 "["
    have h3 : (("[" : String) : Str).length = 1 := by decide +kernel
    have h4 : (("]" : String) : Str).length = 1 := by decide +kernel
    show (textFrom 0 "[" (PyData.shownAll xs) ++ "]" : Str).length ≤ _
    rw [PySem.Str.length_append]
    omega
  | .tuple xs, h, hl => by
    simp only [PyData.showable] at h
    simp only [PyData.canLay0] at hl
    simp only [PyData.shown, wt]
    have h1 := shown_wtAll xs h hl
    rw [← piled_sum] at h1
    have h3 : (("(" : String) : Str).length = 1 := by decide +kernel
    have h4 : (((if (PyData.shownAll xs).length == 1 then ",)" else ")" : String)) : Str).length ≤ 2 := by split <;> decide +kernel
    show (("(" : Str) ++ Str.join ", " (PyData.shownAll xs) ++ (if (PyData.shownAll xs).length == 1 then ",)" else ")" : String)).length ≤ _
    rw [PySem.Str.length_append, PySem.Str.length_append]
    by_cases e : PyData.shownAll xs = []
    · rw [e] at h1 ⊢
      have h5 : (Str.join ", " ([] : List Str)).length = 0 := rfl
      rw [e] at h4
      omega
    · have h5 := join_length_add _ e
      omega
  | .dict _, _, h => by simp [PyData.canLay0] at h
theorem shown_wtAll : ∀ ds : List PyData, PyData.showableAll ds = true → PyData.canLayAll0 ds = true → ((PyData.shownAll ds).map fun t => t.length + 2).sum ≤ wtAll ds
  | [], _, _ => by simp [PyData.shownAll, wtAll]
  | d :: ds, h, hl => by
    simp only [PyData.showableAll, Bool.and_eq_true] at h
    simp only [PyData.canLayAll0, Bool.and_eq_true] at hl
    have h1 := shown_wt d h.1 hl.1
    have h2 := shown_wtAll ds h.2 hl.2
    simp only [PyData.shownAll, wtAll, List.map_cons, List.sum_cons]
    omega
end
/-- data that can be shown and compared; or an empty dict -/
def okD (d : PyData) : Prop := d = .dict [] ∨ (d.showable = true ∧ d.canLay0 = true ∧ d.depth ≤ 60 ∧ wt d ≤ 10000000)
theorem okD.shaped {d : PyData} (h : okD d) : d = .dict [] ∨ SeqAt.shaped d = true := h.imp id fun h => by
  rw [SeqAt.shaped, h.2.1, Bool.true_and]
  exact decide_eq_true (by omega)
theorem okD.showable {d : PyData} (h : okD d) : d.showable = true := by
  rcases h with rfl | h
  · rfl
  · exact h.1
theorem okD.depth {d : PyData} (h : okD d) : d.depth ≤ 60 := by
  rcases h with rfl | h
  · decide +kernel
  · exact h.2.2.1
theorem okD.size {d : PyData} (h : okD d) : d.shown.length ≤ 10000000 := by
  rcases h with rfl | h
  · decide +kernel
  · exact Nat.le_trans (shown_wt d h.1 h.2.1) h.2.2.2
/-- repr, briefly -/
theorem rd_rE {K : PySem.W.Frag} {H : Hp} {Q : VK} {v : V} {d : PyData} (hd : DpE K H v d) (h : okD d) (q : Q (.str d.shown) H) : rReprE K [v] H Q := rd_reprE hd h.showable h.depth h.size q
theorem rd_rEg {K : PySem.W.Frag} {H : Hp} {Q : VK} {v : V} {d : PyData} (hd : DpE K H v d) (h : okD d) (q : ∀ z, z = d.shown → Q (.str z) H) : rReprE K [v] H Q := rd_rE hd h (q _ rfl)
theorem rd_eZ {K : PySem.W.Frag} {H : Hp} {Q : VK} {v : V} {z : Str} {d : PyData} (hd : DpE K H v d) (hz : PyData.strOk z = true) (h : okD d) (q : Q (.bl (isV v z)) H) : rEqZ K v (.str z) H Q := rd_eqZ hd hz h.shaped q
end My

/-! ### P0K: data with dicts in it: repr -/
namespace My
open PySem PySem.Spec PyProof.Rows L2
mutual
/-- what a value stands for; a dict is never the table of modules -/
inductive RdX (h : Heap) : Value → PyData → Prop
  | non : RdX h .none .none
  | bl (b : Bool) : RdX h (.bool b) (.bool b)
  | int (i : Int) (t : Tok) : RdX h (.int i t) (.int i)
  | str (x : Str) (t : Tok) : RdX h (.str x t) (.str x)
  | lst {a : Addr} {o : Obj} {vs : Array Value} {n : Nat} {ds : List PyData} : h.get? a = some o → o.cls = .type "list" → o.data = .seq vs n → RdXs h vs.toList ds → RdX h (.ref a) (.list ds)
  | tup {a : Addr} {o : Obj} {vs : Array Value} {n : Nat} {ds : List PyData} : h.get? a = some o → o.cls = .type "tuple" → o.data = .seq vs n → RdXs h vs.toList ds → RdX h (.ref a) (.tuple ds)
  | dct {a : Addr} {o : Obj} {es : Array DictEntry} {n : Nat} {kvs : List (PyData × PyData)} : (a == sysModules) = false → h.get? a = some o → o.cls = .type "dict" → o.data = .dict es n →
      RdXs h (es.toList.map (·.key)) (kvs.map (·.1)) → RdXs h (es.toList.map (·.val)) (kvs.map (·.2)) → RdX h (.ref a) (.dict kvs)
inductive RdXs (h : Heap) : List Value → List PyData → Prop
  | nil : RdXs h [] []
  | cons {v : Value} {vs : List Value} {d : PyData} {ds : List PyData} : RdX h v d → RdXs h vs ds → RdXs h (v :: vs) (d :: ds)
end
mutual
theorem RdX.reads {h : Heap} : ∀ {v : Value} {d : PyData}, RdX h v d → ∃ as, Reads h v d as
  | _, _, .non => ⟨_, Reads.none⟩
  | _, _, .bl b => ⟨_, Reads.bool b⟩
  | _, _, .int i t => ⟨_, Reads.int i t⟩
  | _, _, .str x t => ⟨_, Reads.str x t⟩
  | _, _, .lst e c d r => (RdXs.reads r).elim fun _ z => ⟨_, Reads.list e c d z⟩
  | _, _, .tup e c d r => (RdXs.reads r).elim fun _ z => ⟨_, Reads.tuple e c d z⟩
  | _, _, .dct _ e c d r1 r2 => (RdXs.reads r1).elim fun _ z1 => (RdXs.reads r2).elim fun _ z2 => ⟨_, Reads.dict e c d z1 z2⟩
theorem RdXs.reads {h : Heap} : ∀ {vs : List Value} {ds : List PyData}, RdXs h vs ds → ∃ as, ReadsAll h vs ds as
  | _, _, .nil => ⟨_, ReadsAll.nil⟩
  | _, _, .cons a r => (RdX.reads a).elim fun _ z1 => (RdXs.reads r).elim fun _ z2 => ⟨_, ReadsAll.cons z1 z2⟩
end
theorem shk_le (kvs : List (PyData × PyData)) (t : Str) (h : t ∈ PyData.shownAll (kvs.map (·.1)) ∨ t ∈ PyData.shownAll (kvs.map (·.2))) : t.length ≤ (PyData.dict kvs).shown.length := by
  simp only [PyData.shown]
  rcases h with h | h
  · obtain ⟨p, h1, h2⟩ := PyData.shownKv_key_le kvs t h
    exact Nat.le_trans h2 (dictText_mem_le h1)
  · obtain ⟨p, h1, h2⟩ := PyData.shownKv_val_le kvs t h
    exact Nat.le_trans h2 (dictText_mem_le h1)
section
variable {prog : Program} {w : World} {g : Heap}
/-- the pieces of a dict's repr -/
theorem dct_pieces {a : Addr} {o : Obj} {es : Array DictEntry} {n : Nat} {kvs : List (PyData × PyData)} (e : g.get? a = some o) (c : o.cls = .type "dict") (d : o.data = .dict es n) (r1 : RdXs g (es.toList.map (·.key)) (kvs.map (·.1))) (r2 : RdXs g (es.toList.map (·.val)) (kvs.map (·.2)))
    {b1 b2 : List Addr} (m1 : ReadAtMost g (PyData.depthAll (kvs.map (·.1))) b1) (m2 : ReadAtMost g (PyData.depthAll (kvs.map (·.2))) b2) (k1 : ReprAllK prog w b1 g (PyData.depthAll (kvs.map (·.1))) (es.toList.map (·.key)) (PyData.shownAll (kvs.map (·.1))))
    (k2 : ReprAllK prog w b2 g (PyData.depthAll (kvs.map (·.2))) (es.toList.map (·.val)) (PyData.shownAll (kvs.map (·.2)))) :
    ReadAtMost g (PyData.dict kvs).depth (a :: (b1 ++ b2)) ∧ a ∉ b1 ++ b2 ∧ ∃ ts, ReprEntriesK prog w (b1 ++ b2) g (PyData.depthKv kvs) es.toList ts ∧ ts = PyData.shownKv kvs := by
  obtain ⟨_, z1⟩ := r1.reads
  obtain ⟨_, z2⟩ := r2.reads
  have rr : Reads g (.ref a) (.dict kvs) _ := .dict e c d z1 z2
  have m : ReadAtMost g (PyData.depthKv kvs) (b1 ++ b2) := (m1.mono (PyData.depthAll_keys_le kvs)).append (m2.mono (PyData.depthAll_vals_le kvs))
  have dd : (PyData.dict kvs).depth = PyData.depthKv kvs + 1 := by simp only [PyData.depth]
  refine ⟨ReadAtMost.cons rr (Nat.le_refl _) (m.mono (by omega)), not_mem_of_deeper rr (by omega) m, _, ReprEntriesK.of_two es.toList _ _ (k1.more_le (fun b hb => List.mem_append_left _ hb) (PyData.depthAll_keys_le kvs)) (k2.more_le (fun b hb => List.mem_append_right _ hb) (PyData.depthAll_vals_le kvs)), ?_⟩
  rw [PyData.shownKv_eq]
mutual
theorem RdX.piece : ∀ {v : Value} {d : PyData}, RdX g v d → d.showable = true → d.shown.length ≤ sizeLine → ∃ bs, ReadAtMost g d.depth bs ∧ ReprK prog w bs g d.depth v d.shown
  | _, _, .non, _, _ => ⟨[], (fun _ z => nomatch z), by simp only [PyData.shown]; exact .of_is ReprIs.none _ _ _⟩
  | _, _, .bl b, _, _ => ⟨[], (fun _ z => nomatch z), by simp only [PyData.shown]; exact .of_is (ReprIs.bool b) _ _ _⟩
  | _, _, .int i t, s, _ => ⟨[], (fun _ z => nomatch z), by simp only [PyData.shown]; exact .of_is (ReprIs.int t (of_decide_eq_true (by simpa only [PyData.showable] using s))) _ _ _⟩
  | _, _, .str x t, _, l => ⟨[], (fun _ z => nomatch z), by simp only [PyData.shown] at l ⊢; exact .of_is (ReprIs.str x t l) _ _ _⟩
  | _, _, .lst (a := a) (vs := vs) (ds := ds) e c dt r, s, l => by
    simp only [PyData.showable] at s
    simp only [PyData.shown] at l
    obtain ⟨bs, m, k⟩ := RdXs.piece r s fun t ht => Nat.le_trans (listText_mem_le ht) l
    obtain ⟨_, z⟩ := r.reads
    have rr : Reads g (.ref a) (.list ds) _ := .list e c dt z
    have dd : (PyData.list ds).depth = PyData.depthAll ds + 1 := by simp only [PyData.depth]
    refine ⟨a :: bs, ReadAtMost.cons rr (by omega) m, ?_⟩
    rw [dd]
    simp only [PyData.shown]
    obtain ⟨items⟩ := vs
    cases items with
    | cons y ys => exact ReprK.list e c dt (not_mem_of_deeper rr (by omega) m) (by simpa using k.length_eq) fun i y h => k.item i y (by simpa using h)
    | nil =>
      have r' : RdXs g [] ds := r
      cases r'
      simp only [PyData.shownAll, listText_nil]
      exact ReprK.listEmpty e c dt
  | _, _, .tup (a := a) (ds := ds) e c dt r, s, l => by
    simp only [PyData.showable] at s
    simp only [PyData.shown] at l
    obtain ⟨bs, m, k⟩ := RdXs.piece r s fun t ht => Nat.le_trans (tupleText_mem_le ht) l
    obtain ⟨_, z⟩ := r.reads
    have rr : Reads g (.ref a) (.tuple ds) _ := .tuple e c dt z
    have dd : (PyData.tuple ds).depth = PyData.depthAll ds + 1 := by simp only [PyData.depth]
    refine ⟨a :: bs, ReadAtMost.cons rr (by omega) m, ?_⟩
    rw [dd]
    simp only [PyData.shown]
    exact ReprK.tuple e c dt (not_mem_of_deeper rr (by omega) m) k
  | _, _, .dct (kvs := kvs) y e c dt r1 r2, s, l => by
    obtain ⟨s1, s2⟩ := PyData.showableKv_split kvs (by simpa only [PyData.showable] using s)
    obtain ⟨b1, m1, k1⟩ := RdXs.piece r1 s1 fun t ht => Nat.le_trans (shk_le kvs t (.inl ht)) l
    obtain ⟨b2, m2, k2⟩ := RdXs.piece r2 s2 fun t ht => Nat.le_trans (shk_le kvs t (.inr ht)) l
    obtain ⟨m, n, ts, k, rfl⟩ := dct_pieces e c dt r1 r2 m1 m2 k1 k2
    refine ⟨_, m, ?_⟩
    have dd : (PyData.dict kvs).depth = PyData.depthKv kvs + 1 := by simp only [PyData.depth]
    rw [dd]
    simp only [PyData.shown]
    exact ReprK.dict e c dt y n k
theorem RdXs.piece : ∀ {vs : List Value} {ds : List PyData}, RdXs g vs ds → PyData.showableAll ds = true → (∀ t ∈ PyData.shownAll ds, t.length ≤ sizeLine) → ∃ bs, ReadAtMost g (PyData.depthAll ds) bs ∧ ReprAllK prog w bs g (PyData.depthAll ds) vs (PyData.shownAll ds)
  | _, _, .nil, _, _ => ⟨[], (fun _ z => nomatch z), by simp only [PyData.shownAll]; exact .nil⟩
  | _, _, .cons (d := d) (ds := ds) r rs, s, l => by
    simp only [PyData.showableAll, Bool.and_eq_true] at s
    simp only [PyData.shownAll, List.mem_cons] at l
    obtain ⟨b1, m1, k1⟩ := RdX.piece r s.1 (l _ (.inl rfl))
    obtain ⟨b2, m2, k2⟩ := RdXs.piece rs s.2 fun t ht => l t (.inr ht)
    have dd : PyData.depthAll (d :: ds) = max d.depth (PyData.depthAll ds) := by simp only [PyData.depthAll]
    refine ⟨b1 ++ b2, (m1.mono (by omega)).append (m2.mono (by omega)), ?_⟩
    simp only [PyData.shownAll]
    exact .cons ((k1.more fun b hb => List.mem_append_left _ hb).level_le (by omega)) (k2.more_le (fun b hb => List.mem_append_right _ hb) (by omega))
end
/-- repr(a dict) -/
theorem dct_repr {A : Around} {E : Value → Shared → Prop} {s : Shared} {Q : Value → Shared → Prop} {a : Addr} {d : PyData} (r : RdX s.heap (.ref a) d) (hs : d.showable = true) (hg : A.guards = some []) (hu : A.units + (d.depth + 1) < cLine)
    (hQ : ∀ h' u tk, (∀ b o, s.heap.get? b = some o → h'.get? b = some o) → Q (.str d.shown u) { s with heap := h', toks := tk }) (hsz : d.shown.length ≤ sizeLine) : wpAny (model prog w) A (call (.builtin "repr") [.ref a]) Q E s := by
  obtain ⟨T, idr, hT, hS, hC⟩ : ∃ T idr, SlotG T "__repr__" idr ∧ s.TypeIs (.ref a) T ∧ ∀ (B : Around) (E : Value → Shared → Prop) (Q : Value → Shared → Prop), B.guards = some [] → B.units + d.depth < cLine →
      (∀ h' u tk, (∀ b o, s.heap.get? b = some o → h'.get? b = some o) → Q (.str d.shown u) { s with heap := h', toks := tk }) → wpAny (model prog w) B (call (.builtin idr) [.ref a]) Q E s := by
    cases r with
    | @lst _ o vs n ds e c dt r =>
      simp only [PyData.showable] at hs
      simp only [PyData.shown] at hsz
      obtain ⟨bs, m, k⟩ := RdXs.piece (prog := prog) (w := w) r hs fun t ht => Nat.le_trans (listText_mem_le ht) hsz
      obtain ⟨_, z⟩ := r.reads
      have rr : Reads s.heap (.ref a) (.list ds) _ := .list e c dt z
      have dd : (PyData.list ds).depth = PyData.depthAll ds + 1 := by simp only [PyData.depth]
      refine ⟨_, _, PySem.F.slot_list_repr.toG, ⟨o, e, c⟩, fun B E Q hg hu hQ => ?_⟩
      rw [dd] at hu
      simp only [PyData.shown] at hQ
      obtain ⟨items⟩ := vs
      cases items with
      | cons y ys => exact call_list_reprK e c dt (not_mem_of_deeper rr (by omega) m) (by simpa using k.length_eq) (fun i y h => k.item i y (by simpa using h)) hg (fun b _ => Clear.nil b) hu (fun _ _ z => z) hQ hsz
      | nil =>
        have r' : RdXs s.heap [] ds := r
        cases r'
        simp only [PyData.shownAll, listText_nil] at hQ
        exact call_list_repr_empty ⟨o, e, c⟩ e dt (hQ s.heap _ _ fun _ _ z => z)
    | @tup _ o vs n ds e c dt r =>
      simp only [PyData.showable] at hs
      simp only [PyData.shown] at hsz
      obtain ⟨bs, m, k⟩ := RdXs.piece (prog := prog) (w := w) r hs fun t ht => Nat.le_trans (tupleText_mem_le ht) hsz
      obtain ⟨_, z⟩ := r.reads
      have rr : Reads s.heap (.ref a) (.tuple ds) _ := .tuple e c dt z
      have dd : (PyData.tuple ds).depth = PyData.depthAll ds + 1 := by simp only [PyData.depth]
      refine ⟨_, _, PySem.F.slot_tuple_repr, ⟨o, e, c⟩, fun B E Q hg hu hQ => ?_⟩
      rw [dd] at hu
      simp only [PyData.shown] at hQ
      exact call_tuple_reprK e c dt (not_mem_of_deeper rr (by omega) m) k hg (fun b _ => Clear.nil b) hu (fun _ _ z => z) hQ hsz
    | @dct _ o es n kvs y e c dt r1 r2 =>
      obtain ⟨s1, s2⟩ := PyData.showableKv_split kvs (by simpa only [PyData.showable] using hs)
      obtain ⟨b1, m1, k1⟩ := RdXs.piece (prog := prog) (w := w) r1 s1 fun t ht => Nat.le_trans (shk_le kvs t (.inl ht)) hsz
      obtain ⟨b2, m2, k2⟩ := RdXs.piece (prog := prog) (w := w) r2 s2 fun t ht => Nat.le_trans (shk_le kvs t (.inr ht)) hsz
      obtain ⟨m, nn, ts, k, rfl⟩ := dct_pieces e c dt r1 r2 m1 m2 k1 k2
      have dd : (PyData.dict kvs).depth = PyData.depthKv kvs + 1 := by simp only [PyData.depth]
      refine ⟨_, _, PySem.F.slot_dict_repr, ⟨o, e, c⟩, fun B E Q hg hu hQ => ?_⟩
      rw [dd] at hu
      simp only [PyData.shown] at hQ hsz
      exact call_dict_reprK e c dt y nn k hg (fun b _ => Clear.nil b) hu (fun _ _ z => z) hQ hsz
  exact call_repr_slot (by omega) hS hT (hC A.in1 E _ hg (by show A.units + 1 + d.depth < cLine; omega) fun h' u tk hk => ⟨_, _, rfl, hQ h' u tk hk⟩)
end
/-- a key as data -/
def keyD : Key → PyData
  | .inl i => .int i
  | .inr x => .str x
mutual
/-- data, dicts with it, at an abstract heap -/
inductive Px (K : PySem.W.Frag) (H : Hp) : V → PyData → Prop
  | non : Px K H .non .none
  | bl (b : Bool) : Px K H (.bl b) (.bool b)
  | int (i : Int) : Px K H (.int i) (.int i)
  | str (x : Str) : x.length ≤ 100000 → Px K H (.str x) (.str x)
  | lst {a : Addr} {xs : List V} {ds : List PyData} : H a = some (.lst xs) → PxAll K H xs ds → Px K H (.ref a) (.list ds)
  | tup {a : Addr} {xs : List V} {ds : List PyData} : H a = some (.tup xs) → PxAll K H xs ds → Px K H (.ref a) (.tuple ds)
  | dct {a : Addr} {kvs : List (Key × V)} {ds : List (PyData × PyData)} : H a = some (.dK kvs) → PxKv K H kvs ds → Px K H (.ref a) (.dict ds)
inductive PxAll (K : PySem.W.Frag) (H : Hp) : List V → List PyData → Prop
  | nil : PxAll K H [] []
  | cons {v : V} {vs : List V} {d : PyData} {ds : List PyData} : Px K H v d → PxAll K H vs ds → PxAll K H (v :: vs) (d :: ds)
inductive PxKv (K : PySem.W.Frag) (H : Hp) : List (Key × V) → List (PyData × PyData) → Prop
  | nil : PxKv K H [] []
  | cons {k : Key} {v : V} {kvs : List (Key × V)} {d : PyData} {ds : List (PyData × PyData)} : Px K H v d → PxKv K H kvs ds → PxKv K H ((k, v) :: kvs) ((keyD k, d) :: ds)
end
theorem rdxs_keys {g : Heap} : ∀ {ps : List DictEntry} {vs : List (Key × Value)} {P : Program} {w : World}, Pairs (mixKind P w) ps vs → RdXs g (ps.map (·.key)) (vs.map fun x => keyD x.1)
  | _, _, _, _, .nil => .nil
  | _, _, _, _, .cons (e := e) (kv := kv) h _ r => by
    refine .cons ?_ (rdxs_keys r)
    rcases keyIs_shape h with ⟨i, t, h1, h2⟩ | ⟨x, t, h1, h2⟩
    · show RdX g e.key (keyD kv.1)
      rw [h1, h2]
      exact .int i t
    · show RdX g e.key (keyD kv.1)
      rw [h1, h2]
      exact .str x t
theorem kv_len {κ : Type} {kvs : List (κ × V)} {vs : List (κ × Value)} (h : KV kvs vs) : kvs.length = vs.length := Paired.length h
mutual
theorem Px.rdx {X : Cx} {pins : List (Addr × Obj)} {σ : L2.St} {H : Hp} {s : Shared} (I : Inv X pins σ H s) : ∀ {v : V} {d : PyData}, Px X.K H v d → ∀ u, RelV v u → RdX s.heap u d
  | _, _, .non, _, r => by
    cases r
    exact .non
  | _, _, .bl b, _, r => by
    cases r
    exact .bl b
  | _, _, .int i, _, r => by
    obtain ⟨t, rfl⟩ := r
    exact .int i t
  | _, _, .str x _, _, r => by
    obtain ⟨t, rfl⟩ := r
    exact .str x t
  | _, _, .lst h a, _, r => by
    cases r
    obtain ⟨its, rv, ⟨o, n, ho, hc, _, hd⟩, _⟩ := I.list (sqL_of (K := X.K) h)
    exact .lst ho hc hd (PxAll.rdx I a its rv)
  | _, _, .tup h a, _, r => by
    cases r
    obtain ⟨its, rv, ⟨o, ho, hc, n, hd⟩, _⟩ := I.tuple (sqT_of (K := X.K) h)
    exact .tup ho hc hd (PxAll.rdx I a its rv)
  | _, _, .dct (kvs := kvs) (ds := ds) h a, _, r => by
    cases r
    obtain ⟨_, lo, vs, kv, o, es, ep, ho, hx, hd, _, hp, nd⟩ := dk_of I.hok h
    clear nd
    obtain ⟨z1, z2⟩ := PxKv.rdx I a vs kv
    refine .dct lo ho hx.1 hd ?_ ?_
    · rw [z1]
      exact rdxs_keys hp
    · have : es.toList.map (·.val) = vs.map (·.2) := by
        clear hd
        generalize es.toList = ps at hp
        clear z1 z2 kv
        induction hp with
        | nil => rfl
        | cons _ e _ ih =>
          rw [List.map_cons, List.map_cons, ih]
          exact congrArg (· :: _) e
      rw [this]
      exact z2
theorem PxAll.rdx {X : Cx} {pins : List (Addr × Obj)} {σ : L2.St} {H : Hp} {s : Shared} (I : Inv X pins σ H s) : ∀ {vs : List V} {ds : List PyData}, PxAll X.K H vs ds → ∀ us, Vals vs us → RdXs s.heap us ds
  | _, _, .nil, _, r => by
    cases r
    exact .nil
  | _, _, .cons h a, _, r => by
    cases r with
    | cons r1 r2 => exact .cons (Px.rdx I h _ r1) (PxAll.rdx I a _ r2)
theorem PxKv.rdx {X : Cx} {pins : List (Addr × Obj)} {σ : L2.St} {H : Hp} {s : Shared} (I : Inv X pins σ H s) : ∀ {kvs : List (Key × V)} {ds : List (PyData × PyData)}, PxKv X.K H kvs ds → ∀ vs, KV kvs vs → ds.map (·.1) = (vs.map fun x => keyD x.1) ∧ RdXs s.heap (vs.map (·.2)) (ds.map (·.2))
  | _, _, .nil, _, r => by
    cases r
    exact ⟨rfl, .nil⟩
  | _, _, .cons (k := k) h a, _, r => by
    cases r with
    | @cons _ q _ qs r1 r2 =>
      obtain ⟨z1, z2⟩ := PxKv.rdx I a _ r2
      obtain ⟨e, rv⟩ := r1
      refine ⟨?_, ?_⟩
      · rw [List.map_cons, List.map_cons, z1]
        have e : k = q.1 := e
        rw [← e]
      · rw [List.map_cons, List.map_cons]
        exact .cons (Px.rdx I h _ rv) z2
end
mutual
theorem Px.keep {K : PySem.W.Frag} {H H' : Hp} (e : ∀ b o, H b = some o → H' b = some o) : ∀ {v : V} {d : PyData}, Px K H v d → Px K H' v d
  | _, _, .non => .non
  | _, _, .bl b => .bl b
  | _, _, .int i => .int i
  | _, _, .str x l => .str x l
  | _, _, .lst h a => .lst (e _ _ h) (PxAll.keep e a)
  | _, _, .tup h a => .tup (e _ _ h) (PxAll.keep e a)
  | _, _, .dct h a => .dct (e _ _ h) (PxKv.keep e a)
theorem PxAll.keep {K : PySem.W.Frag} {H H' : Hp} (e : ∀ b o, H b = some o → H' b = some o) : ∀ {vs : List V} {ds : List PyData}, PxAll K H vs ds → PxAll K H' vs ds
  | _, _, .nil => .nil
  | _, _, .cons h a => .cons (Px.keep e h) (PxAll.keep e a)
theorem PxKv.keep {K : PySem.W.Frag} {H H' : Hp} (e : ∀ b o, H b = some o → H' b = some o) : ∀ {kvs : List (Key × V)} {ds : List (PyData × PyData)}, PxKv K H kvs ds → PxKv K H' kvs ds
  | _, _, .nil => .nil
  | _, _, .cons h a => .cons (Px.keep e h) (PxKv.keep e a)
end
/-- repr of such things -/
def rReprX (K : PySem.W.Frag) : List V → Hp → VK → Prop := fun xs H Q => ∃ v d, xs = [v] ∧ Px K H v d ∧ d.showable = true ∧ d.depth ≤ 60 ∧ d.shown.length ≤ 10000000 ∧ Q (.str d.shown) H
theorem reprX {X : Cx} {K : PySem.W.Frag} (hK : X.K = K) (hG : X.A.guards = some []) (hu : X.A.units + 64 < cLine) : CallR X (.builtin "repr") (rReprX K) := by
  subst hK
  intro pins s σ H xs us Q I r h
  obtain ⟨v, d, rfl, hd, hs, hdep, hlen, q⟩ := h
  have hl : d.shown.length ≤ sizeLine := Nat.le_trans hlen (by decide)
  obtain ⟨u, rfl, r1⟩ := vals1 r
  have go : (∃ d', Dp X.K H v d' ∧ d' = d) → wpAny (model X.prog X.w) X.A (call (.builtin "repr") [u]) (EP X pins σ Q) X.xe s := fun ⟨d', h', e⟩ => by
    subst e
    exact reprD rfl hG hu pins s σ H _ _ Q I r ⟨v, d', rfl, h', hs, hdep, hlen, q⟩
  cases v with
  | ref a =>
    cases (show u = Value.ref a from r1)
    exact dct_repr (Px.rdx I hd _ rfl) hs hG (by omega) (fun h' t tk keep => ⟨.str _, H, I.kept (t' := tk) keep, ⟨_, rfl⟩, q⟩) hl
  | non => cases hd; exact go ⟨_, .non, rfl⟩
  | bl b => cases hd; exact go ⟨_, .bl b, rfl⟩
  | int i => cases hd; exact go ⟨_, .int i, rfl⟩
  | str x =>
    cases hd
    exact go ⟨_, .str x, rfl⟩
  | byt _ => cases hd
  | flt _ => cases hd
  | ty _ => cases hd
/-- repr of a dict, a locked one too -/
theorem px_rdF {X : Cx} {pins : List (Addr × Obj)} {σ : L2.St} {H : Hp} {s : Shared} (I : Inv X pins σ H s) {a : Addr} {kvs : List (Key × V)} {ds : List (PyData × PyData)} (h : Rd H a (.dK kvs)) (hd : PxKv X.K H kvs ds) : RdX s.heap (.ref a) (.dict ds) := by
  obtain ⟨_, lo, vs, kv, o, es, ep, ho, hx, hd2, _, hp, nd⟩ := dk_rd I.hok h
  clear nd
  obtain ⟨z1, z2⟩ := PxKv.rdx I hd vs kv
  refine .dct lo ho hx.1 hd2 ?_ ?_
  · rw [z1]
    exact rdxs_keys hp
  · have : es.toList.map (·.val) = vs.map (·.2) := by
      clear hd2
      generalize es.toList = ps at hp
      clear z1 z2 kv
      induction hp with
      | nil => rfl
      | cons _ e _ ih =>
        rw [List.map_cons, List.map_cons, ih]
        exact congrArg (· :: _) e
    rw [this]
    exact z2
def rReprXF (K : PySem.W.Frag) : List V → Hp → VK → Prop := fun xs H Q => ∃ a kvs ds, xs = [.ref a] ∧ Rd H a (.dK kvs) ∧ PxKv K H kvs ds ∧ (PyData.dict ds).showable = true ∧ (PyData.dict ds).depth ≤ 60 ∧ (PyData.dict ds).shown.length ≤ 10000000 ∧ Q (.str (PyData.dict ds).shown) H
theorem reprXF {X : Cx} {K : PySem.W.Frag} (hK : X.K = K) (hG : X.A.guards = some []) (hu : X.A.units + 64 < cLine) : CallR X (.builtin "repr") (rReprXF K) := by
  subst hK
  intro pins s σ H xs us Q I r h
  obtain ⟨a, kvs, ds, rfl, ha, hd, hs, hdep, hlen, q⟩ := h
  obtain ⟨u, rfl, r1⟩ := vals1 r
  cases (show u = Value.ref a from r1)
  exact dct_repr (px_rdF I ha hd) hs hG (by omega) (fun h' t tk keep => ⟨.str _, H, I.kept (t' := tk) keep, ⟨_, rfl⟩, q⟩) (Nat.le_trans hlen (by decide))
/-- a dict, an empty one: are they unlike, equal -/
def rNeKE : R2 := fun x y H Q => ∃ a b kvs, x = .ref a ∧ y = .ref b ∧ Rd H a (.dK kvs) ∧ Rd H b (.dK []) ∧ Q (.bl (!decide (kvs = []))) H
def rEqKE : R2 := fun x y H Q => ∃ a b kvs, x = .ref a ∧ y = .ref b ∧ Rd H a (.dK kvs) ∧ Rd H b (.dK []) ∧ Q (.bl (decide (kvs = []))) H
theorem keqs_empty {κ : Type} [DecidableEq κ] {A : Around} {s : Shared} {kvs : List (Key × V)} {vs us : List (Key × Value)} (h : KV kvs vs) (h2 : KV [] us) : us = [] ∧ (vs.length == us.length && true) = decide (kvs = []) := by
  cases h2
  refine ⟨rfl, ?_⟩
  rw [Bool.and_true, ← kv_len h]
  cases kvs with
  | nil => rfl
  | cons a r => rfl
theorem neKE {X : Cx} (hu : X.A.units + 64 < cLine) : OpR X (compareOp .NotEq) rNeKE := by
  intro pins s σ H x y v u Q I rx ry h
  obtain ⟨a, b, kvs, rfl, rfl, ha, hb, q⟩ := h
  cases (show v = Value.ref a from rx)
  cases (show u = Value.ref b from ry)
  obtain ⟨_, la, vs, kv, da⟩ := dk_rd I.hok ha
  obtain ⟨_, lb, us, kv2, db⟩ := dk_rd I.hok hb
  obtain ⟨rfl, e⟩ := keqs_empty (κ := Key) (A := X.A) (s := s) kv kv2
  refine PySem.W.keq_ne la lb da db (r := true) (by omega) (fun e2 => ?_) ⟨.bl _, H, I, rfl, by rw [e]; exact q⟩
  cases vs with
  | nil => exact .nil
  | cons _ _ => cases e2
theorem eqKE {X : Cx} (hu : X.A.units + 64 < cLine) : OpR X (compareOp .Eq) rEqKE := by
  intro pins s σ H x y v u Q I rx ry h
  obtain ⟨a, b, kvs, rfl, rfl, ha, hb, q⟩ := h
  cases (show v = Value.ref a from rx)
  cases (show u = Value.ref b from ry)
  obtain ⟨_, la, vs, kv, da⟩ := dk_rd I.hok ha
  obtain ⟨_, lb, us, kv2, db⟩ := dk_rd I.hok hb
  obtain ⟨rfl, e⟩ := keqs_empty (κ := Key) (A := X.A) (s := s) kv kv2
  refine PySem.W.keq_eq la lb da db (r := true) (by omega) (fun e2 => ?_) ⟨.bl _, H, I, rfl, by rw [e]; exact q⟩
  cases vs with
  | nil => exact .nil
  | cons _ _ => cases e2
end My

/-! ### P0W: str() of a number or a text; texts joined -/
namespace My
open PySem PySem.Spec PyProof.Rows L2
def rStrA : List V → Hp → VK → Prop := fun xs H Q => (∃ i : Int, xs = [.int i] ∧ i.natAbs.log2 < 1920 ∧ Q (.str (toString i)) H) ∨ ∃ a, xs = [.str a] ∧ Q (.str a) H
theorem strA {X : Cx} : CallR X (.type "str") rStrA := by
  intro pins s σ H xs us Q I r h
  rcases h with h | h
  · exact call_str_int pins s σ H xs us Q I r h
  · exact SkE.call_str_str pins s σ H xs us Q I r h
/-- a number or a text as a word -/
def wordV : V → Str
  | .int i => toString i
  | .str z => z
  | _ => Str.ofString ""
def okWd : V → Prop
  | .int i => i.natAbs ≤ 1000000000000
  | .str z => z.length ≤ 2000
  | _ => False
theorem int_log2 {i : Int} (h : i.natAbs ≤ 1000000000000) : i.natAbs.log2 < 1920 := Nat.lt_of_lt_of_le (PySem.Flt.log2_lt_of (k := 240) (by decide) (Nat.lt_of_le_of_lt h (by decide))) (by decide)
theorem word_len {v : V} (h : okWd v) : (wordV v).length ≤ 2000 := by
  cases v with
  | int i =>
    have h : i.natAbs ≤ 1000000000000 := h
    exact Nat.le_trans (int_text_len_1921 (int_log2 h)) (by decide)
  | str z => exact h
  | _ => exact h.elim
theorem rd_strA {v : V} {H : Hp} {Q : VK} (h : okWd v) (q : Q (.str (wordV v)) H) : rStrA [v] H Q := by
  cases v with
  | int i => exact .inl ⟨i, rfl, int_log2 h, q⟩
  | str z => exact .inr ⟨z, rfl, q⟩
  | _ => exact h.elim
theorem sum_le {ys : List Str} {m : Nat} (h : ∀ y ∈ ys, y.length ≤ m) : (ys.map (·.length)).sum ≤ ys.length * m := by
  induction ys with
  | nil => exact Nat.zero_le _
  | cons a r ih =>
    rw [List.map_cons, List.sum_cons, List.length_cons, Nat.succ_mul]
    have := ih fun y hy => h y (List.mem_cons_of_mem _ hy)
    have := h a List.mem_cons_self
    omega
/-- sep.join of texts -/
theorem rd_joinT {K : PySem.W.Frag} {p : Addr} {sep : Str} {ys : List Str} {m : Nat} {H : Hp} {Q : VK} (h : SqL K H p (ys.map V.str) ∨ SqT K H p (ys.map V.str)) (hm : ∀ y ∈ ys, y.length ≤ m) (hs : sep.length ≤ 10) (hb : ys.length * (m + 10) ≤ 16000000) (q : Q (.str (Txt.join sep ys)) H) : rJoin K (.str sep) [.ref p] H Q := by
  refine ⟨_, p, ys, rfl, rfl, h, ?_, q⟩
  have h1 := sum_le hm
  have h2 := Nat.mul_le_mul_left ys.length hs
  rw [Nat.mul_add] at hb
  omega
theorem join_le {sep : Str} {ys : List Str} {m : Nat} (hm : ∀ y ∈ ys, y.length ≤ m) (hs : sep.length ≤ 10) : (Txt.join sep ys).length ≤ ys.length * (m + 10) := by
  have h1 := sum_le hm
  have h2 := Nat.mul_le_mul_left ys.length hs
  have h3 : (Txt.join sep ys).length = (ys.map (·.length)).sum + (ys.length - 1) * sep.length := size_glued sep ys
  have h4 := Nat.mul_le_mul_right sep.length (Nat.sub_le ys.length 1)
  rw [Nat.mul_add]
  omega
/-- a row of a text -/
def rowT (w : Str) (vs : List V) : Str := Txt.join (Str.ofString " ") (w :: vs.map wordV)
end My

/-! ### P0X: own classes and their refusals -/
namespace My
open PySem PySem.Spec PyProof.Rows L2
/-! #### C.m(..), read off a class -/
section
variable {X : Cx} {o e : Expr} {es : List Expr} {ta : TA} {x : Str} {p1 p2 pos : Pos} {C f : Addr} {m : Str}
/-- IceError.__init__(self, ..): the built-in one, found above an own class that has none -/
theorem pe_upinit {pl : Sem Bool} (hg : Gl X x) (hm : X.mg x = some (.ref C)) (rd : PySem.W.readsIn X.K C (.type "type") = true) (ga : PySem.W.specialIn X.K (.ref C) "__getattribute__" = some (some (.builtin "type.__getattribute__")))
    (vi : PySem.W.findCls X.K (.ref C) (.type "type") "__init__" = some (.val (.builtin "ValueError.__init__"))) (ha : PA X (e :: es) ta) (hdb : (x == ("__debug__" : Str)) = false := by decide)
    (hc : eval (.Call (.Attribute (.Name x p1) "__init__" p2) (e :: es) [] pos) X.env = (do
      let ov ← eval (.Name x p1) X.env
      standAt p2.atName
      let (f, first) ← holding [ov] (getMethod ov "__init__" pl)
      callWith pos f first (backTo pos (starEach (e :: es) X.env)) (backToKw pos (keywordEach [] X.env))) := by rfl)
    (he : starEach (e :: es) X.env = (false, eval e X.env) :: starEach es X.env := by rfl) (hpl : (backTo pos (starEach es X.env)).any (·.1) = false := by rfl) :
    PE X (.Call (.Attribute (.Name x p1) "__init__" p2) (e :: es) [] pos) (tVeI X.K ta) := by
  constructor
  intro pins s σ H Q I h
  refine PySem.W.methodCall_KW (ld_glob I hg hm ?_ hdb) hc
  refine PySem.W.method_cls I.kIn ga ?_
  refine PySem.W.cls_value I.kIn rd vi (by decide +kernel) ?_
  show wpAny _ _ (callWith pos (Value.builtin "ValueError.__init__") [] (backTo pos (starEach (e :: es) X.env)) []) _ _ _
  refine PyProof.Rows.callWith_method1 (thn (ha.run pos pins _ σ H _ (I.tok _) h) ?_) he hpl
  rintro us s1 ⟨vs, H1, I1, r1, a, C1, ws, rfl, hl, T, ea, q⟩
  cases r1 with
  | @cons _ u0 _ ur ra rest =>
    cases (show u0 = Value.ref a from ra)
    have hlen : ur.length ≤ sizeLine := by
      rw [← Paired.length rest, sizeLine_eq]
      omega
    exact oinit_ok T I1 ea hlen fun s' J => ⟨.non, H1, J, rfl, q⟩
/-- C.m(e, ..), m a def of the text, found on C or above -/
theorem pe_ccall {pl : Sem Bool} {CX : CXT} {k : Nat} {fd : FuncData} {ps : List Str} {sp : Sp} {E : L2.St → XK} (hg : Gl X x) (hm : X.mg x = some (.ref C)) (rd : PySem.W.readsIn X.K C (.type "type") = true) (ga : PySem.W.specialIn X.K (.ref C) "__getattribute__" = some (some (.builtin "type.__getattribute__")))
    (vi : PySem.W.findCls X.K (.ref C) (.type "type") m = some (.val (.ref f))) (F : FnOk X.prog X.w X.K X.mg X.base CX k f fd ps sp) (hr : Room k X.A) (hk : PySem.W.keepIn X.K (.ref f) = true) (hb : Binds X.K fd ps []) (hx : ∀ σ, PassesAt CX X σ (E σ))
    (ha : PA X (e :: es) ta) (hdb : (x == ("__debug__" : Str)) = false := by decide)
    (hc : eval (.Call (.Attribute (.Name x p1) m p2) (e :: es) [] pos) X.env = (do
      let ov ← eval (.Name x p1) X.env
      standAt p2.atName
      let (f, first) ← holding [ov] (getMethod ov m pl)
      callWith pos f first (backTo pos (starEach (e :: es) X.env)) (backToKw pos (keywordEach [] X.env))) := by rfl)
    (he : starEach (e :: es) X.env = (false, eval e X.env) :: starEach es X.env := by rfl) (hpl : (backTo pos (starEach es X.env)).any (·.1) = false := by rfl) :
    PE X (.Call (.Attribute (.Name x p1) m p2) (e :: es) [] pos) (tCallS sp E ta) := by
  constructor
  intro pins s σ H Q I h
  refine PySem.W.methodCall_KW (ld_glob I hg hm ?_ hdb) hc
  refine PySem.W.method_cls I.kIn ga ?_
  refine PySem.W.cls_value I.kIn rd vi (by rfl) ?_
  refine PySem.W.callWith_K (h₀ := X.base) I.ok.mod.kin hk (thn (ha.run pos pins _ σ H _ (I.tok _) h) ?_) he hpl
  rintro us s1 ⟨vs, H1, I1, r1, q⟩
  exact ⟨I1.kIn, run_fnS F hr hb (hx σ) I1 r1 q⟩
/-- o.m(e, ..) where m may raise: what is raised is wished for at the caller's slots -/
def tMethS (C : Addr) (m : Str) (sp : Sp) (E : L2.St → XK) (to : TE) (t : TA) : TE := fun σ H Q => to σ H fun x H1 => ∃ a dx fs, x = .ref a ∧ H1 a = some (.ins C dx fs) ∧ fs.lookup m = none ∧ t σ H1 fun vs H2 => sp (x :: vs) H2 Q (E σ)
theorem pe_methS {pl : Sem Bool} {apos : Pos} {to : TE} {CX : CXT} {k : Nat} {fd : FuncData} {ps : List Str} {sp : Sp} {E : L2.St → XK} (ho : PE X o to) (c : Cls X.K C) (hm : Meth X.K C m f) (F : FnOk X.prog X.w X.K X.mg X.base CX k f fd ps sp) (hr : Room k X.A)
    (hb : Binds X.K fd ps []) (hx : ∀ σ, PassesAt CX X σ (E σ)) (ha : PA X (e :: es) ta) (hst : starEach (e :: es) X.env = (false, eval e X.env) :: starEach es X.env := by rfl) (hpl : (backTo pos (starEach es X.env)).any (·.1) = false := by rfl)
    (ht : eval (.Call (.Attribute o m apos) (e :: es) [] pos) X.env = (do
      let ov ← eval o X.env
      standAt apos.atName
      let (f, first) ← holding [ov] (getMethod ov m pl)
      callWith pos f first (backTo pos (starEach (e :: es) X.env)) (backToKw pos (keywordEach [] X.env))) := by rfl) : PE X (.Call (.Attribute o m apos) (e :: es) [] pos) (tMethS C m sp E to ta) := by
  constructor
  intro pins s σ H Q I h
  refine PySem.W.methodCall_KW (pl := pl) (thn (ho.run pins s σ H _ I h) ?_) ht
  rintro u s1 ⟨x, H1, I1, rx, a, dx, fs, rfl, ea, l, q⟩
  cases (show u = Value.ref a from rx)
  refine getmeth_ok I1 ea c hm l ?_
  refine PySem.W.callWith_K (first := [.ref a]) (h₀ := X.base) I.ok.mod.kin hm.kp (thn (ha.run pos pins s1 σ H1 _ I1 q) ?_) hst hpl
  rintro us s2 ⟨vs, H2, I2, r, q2⟩
  exact ⟨I2.kIn, run_fnS (us := .ref a :: us) (vs := .ref a :: vs) F hr hb (hx σ) I2 (.cons rfl r) q2⟩
end
/-! #### nothing is raised: a def that might raise, called where it does not -/
theorem passX0 {X : Cx} : Passes (L2.CX X.prog X.w) X E0 := by
  rintro _ _ _ _ _ _ _ ⟨_, _, _, _, _, _, _, _, _, _, _, _, z⟩
  exact z.elim
theorem passX0S {X : Cx} {σ : L2.St} : PassesAt (L2.CX X.prog X.w) X σ E0 := by
  rintro _ _ _ _ _ _ ⟨_, _, _, _, _, _, _, _, _, _, _, _, z⟩
  exact z.elim
theorem refs_ve1 {c : Addr} : PySem.HandSPX.refsVE [.ref c, .type "ValueError", .type "Exception", .type "BaseException", .type "object"] = true := by
  show PySem.HandSPX.refsVE [.type "ValueError", .type "Exception", .type "BaseException", .type "object"] = true
  decide +kernel
/-- is an error of class X what «except Y» names -/
theorem exm_of {K : PySem.W.Frag} {X Y : Addr} {b : Bool} (hb : PySem.W.subIn K (.ref Y) (.type "BaseException") = some true) (hc : PySem.W.isClsIn K Y = true) (ht : PySem.W.typeIn K (.ref Y) = some (.type "type")) (hs : PySem.W.subIn K (.ref X) (.ref Y) = some b) : PySem.W.exmOne K (.ref X) (.ref Y) = some b := by
  unfold PySem.W.exmOne PySem.W.kitCls
  have hc' : (PySem.W.clsIn K Y).isSome = true := hc
  simp only [hb, hc', ht, hs, beq_self_eq_true, Bool.and_self, if_true]
/-- isinstance of an own class, from the subclass facts -/
theorem kit_sub {K : PySem.W.Frag} {t : Value} {D : Addr} {b : Bool} (hc : PySem.W.isClsIn K D = true) (ht : PySem.W.typeIn K (.ref D) = some (.type "type")) (hd : PySem.W.subIn K (.ref D) (.ref D) = some true) (hs : PySem.W.subIn K t (.ref D) = some b) : PySem.W.kitOne K t (.ref D) = some b := by
  unfold PySem.W.kitOne PySem.W.kitCls
  by_cases e : (t == Value.ref D) = true
  · rw [if_pos e]
    have e2 : t = Value.ref D := eq_of_beq e
    rw [e2, hd] at hs
    exact hs
  · rw [if_neg e]
    have hc' : (PySem.W.clsIn K D).isSome = true := hc
    simp only [hc', ht, beq_self_eq_true, Bool.and_self, if_true]
    exact hs
/-- isinstance(x, D), x an own instance -/
theorem rd_isiC {K : PySem.W.Frag} {H : Hp} {Q : VK} {a C D dx : Addr} {fs : List (Str × V)} {b : Bool} (e : H a = some (.ins C dx fs)) (cl : Cls K C) (ha : PySem.W.findIn K (.ref C) "__class__" = some (some (.builtin "object.__class__")))
    (hn : PySem.W.specialIn K (.builtin "object.__class__") "__get__" = some (some (.builtin "getset_descriptor.__get__"))) (htk : PySem.W.takesIn K (.builtin "object.__class__") = some true) (hm : PySem.W.mroIn K C (.type "object") = some true)
    (k : PySem.W.kitOne K (.ref C) (.ref D) = some b) (q : Q (.bl b) H) : rIsi K [.ref a, .ref D] H Q := ⟨_, _, _, _, b, rfl, .own D, .base (.ins e cl ha hn htk hm), k, q⟩
/-- C(e, ..) where __init__ may raise: what is raised is wished for at the caller's slots -/
def tMakeS (C : Addr) (sp : Sp) (E : L2.St → XK) (t : TA) : TE := fun σ H Q => t σ H fun vs H1 => ∀ x dx, H1 x = none → H1 dx = none → dx ≠ x → sp (.ref x :: vs) (upd (upd H1 dx (.own x)) x (.ins C dx [])) (fun v H2 => v = .non ∧ Q (.ref x) H2) (E σ)
section
variable {X : Cx} {e : Expr} {es : List Expr} {t : TA} {x : Str} {p pos : Pos} {C f : Addr} {CX : CXT} {k : Nat} {fd : FuncData} {ps : List Str} {sp : Sp} {E : L2.St → XK}
theorem pe_makeS (M : Mk X.K C f) (F : FnOk X.prog X.w X.K X.mg X.base CX k f fd ps sp) (hr : Room (k + 1) X.A) (hg : Gl X x) (hm : X.mg x = some (.ref C)) (hb : Binds X.K fd ps []) (hx : ∀ σ, PassesAt CX X σ (E σ)) (ha : PA X (e :: es) t)
    (hdb : (x == ("__debug__" : Str)) = false := by decide) (he : starEach (e :: es) X.env = (false, eval e X.env) :: starEach es X.env := by rfl) (hpl : (backTo pos (starEach es X.env)).any (·.1) = false := by rfl) : PE X (.Call (.Name x p) (e :: es) [] pos) (tMakeS C sp E t) := by
  constructor
  intro pins s0 σ H0 Q I0 h0
  refine wpAny_Call_Name_kw (ld_glob I0 hg hm ?_ hdb)
  refine PySem.W.callWith_K (h₀ := X.base) I0.ok.mod.kin M.kp (thn (ha.run pos pins s0 σ H0 _ I0 h0) ?_) he hpl
  rintro us s ⟨vs, H, I, r, h⟩
  refine ⟨I.kIn, ?_⟩
  have fresh0 : H s.heap.objs.size = none := I.hok.fresh (Nat.le_refl _)
  have fresh1 : H (s.heap.objs.size + 1) = none := I.hok.fresh (Nat.le_succ _)
  have start := h _ _ fresh1 fresh0 (Nat.ne_of_lt (Nat.lt_succ_self _))
  have J := Inv.made (C := C) I
  have rel : Vals (V.ref (s.heap.objs.size + 1) :: vs) (Value.ref (s.heap.objs.size + 1) :: us) := .cons rfl r
  have many : (Value.ref (s.heap.objs.size + 1) :: us).length = ps.length := rel.length.symm.trans (F.len _ _ _ _ start)
  have bind := hb _ (Value.ref (s.heap.objs.size + 1) :: us) J.kIn (by rw [List.append_nil]; exact many)
  rw [List.append_nil] at bind
  have body := F.run _ X.stack _ _ ⟨Value.ref (s.heap.objs.size + 1) :: us, []⟩ _ _ _ (E σ) (hr.make C us []) (J.env0.make C us []) bind rel start
  refine wpAny_call (make_map (f := f) I.kIn M.makes M.init (beq_iff_eq.mp M.fn) (codeAny_mono body ?_))
  intro r1 s1 hq
  match r1, hq with
  | .error _, hq => exact hx σ pins _ _ _ s1 J hq
  | .ok .next, hq => exact False.elim hq
  | .ok .brk, hq => exact False.elim hq
  | .ok .cont, hq => exact False.elim hq
  | .ok (.ret u), hq =>
    obtain ⟨v, H', J', rv, rfl, q⟩ := J.after hq
    exact ⟨rv, ⟨V.ref (s.heap.objs.size + 1), H', J', rfl, q⟩⟩
end
/-! #### refusals: an own class with one value -/
/-- __init__ of a refusal keeps its one value as f -/
def spXInit (C : Addr) (f : Str) : Sp := fun vs H Q _ => ∃ a v, vs = [.ref a, v] ∧ H a = some (exo a C none) ∧ ∀ dx, H dx = none → dx ≠ a → Q .non (upd (upd H dx (exd dx [(f, v)])) a (exo a C (some dx)))
def tRaiseX (C : Addr) (f : Str) (W : WX) (ta : TA) : TS := fun _ σ H => tMkO C (spXInit C f) [] ta σ H fun cls d H' => W cls d σ H'
theorem ps_raiseX {X : Cx} {W : WX} {C fI : Addr} {f x : Str} {k : Nat} {fd : FuncData} {ps : List Str} {e : Expr} {es : List Expr} {ta : TA} {p pos pos2 : Pos} (hcalm : X.calm = true) (tk : Takes X W) (T : OexC X.K C) (iC : PySem.W.findIn X.K (.ref C) "__init__" = some (some (.ref fI)))
    (tI : PySem.W.typeIn X.K (.ref fI) = some (.type "function")) (F1 : FnOk X.prog X.w X.K X.mg X.base CX0 k fI fd ps (spXInit C f)) (hr : Room (k + 1) X.A) (hb : Binds X.K fd ps []) (hg : Gl X x) (hm : X.mg x = some (.ref C)) (ha : PA X (e :: es) ta)
    (hdb : (x == ("__debug__" : Str)) = false := by decide) (he : starEach (e :: es) X.env = (false, eval e X.env) :: starEach es X.env := by rfl) (hpl : (backTo pos (starEach es X.env)).any (·.1) = false := by rfl) :
    PS X (.Raise (some (.Call (.Name x p) (e :: es) [] pos)) none pos2) (tRaiseX C f W ta) := ps_raise hcalm tk (pmk_oex T iC tI F1 hr hb .nil (fun _ _ _ _ _ _ _ h => h.elim) hg hm ha hdb he hpl)
/-- what a refusal's making hands on -/
def RaiseA (C : Addr) (f : Str) (W : WX) (σ : L2.St) : List V → Hp → Prop := fun vs H1 => vs.length ≤ 1000 ∧ ∀ a, H1 a = none → spXInit C f (.ref a :: (vs ++ [])) (upd H1 a (exo a C none))
  (fun v H2 => v = .non ∧ ∃ (d : Addr) (fs : List (Str × V)), H2 a = some (exo a C (some d)) ∧ H2 d = some (exd d fs) ∧ H1 d = none ∧ W (.ref C) (some d) σ (upd (del H2 a) d (.xd fs))) (fun _ _ _ => False)
theorem rd_raiseX {C : Addr} {f : Str} {W : WX} {ta : TA} {D : Ends} {σ : L2.St} {H : Hp} (h : ta σ H (RaiseA C f W σ)) : tRaiseX C f W ta D σ H := h
theorem rd_raise1 {C : Addr} {f : Str} {W : WX} {σ : L2.St} {H : Hp} {v : V} (q : ∀ d, H d = none → W (.ref C) (some d) σ (upd H d (.xd [(f, v)]))) : RaiseA C f W σ [v] H := by
  refine ⟨(show 1 ≤ 1000 by decide), fun a ha => ⟨a, v, rfl, upd_same, fun dx hdx hne => ⟨rfl, dx, [(f, v)], upd_same, ?_, ?_, ?_⟩⟩⟩
  · rw [upd_ne hne, upd_same]
  · rw [upd_ne hne] at hdx
    exact hdx
  · rw [upd_ne hne] at hdx
    have e : upd (del (upd (upd (upd H a (exo a C none)) dx (exd dx [(f, v)])) a (exo a C (some dx))) a) dx (.xd [(f, v)]) = upd H dx (.xd [(f, v)]) := by
      funext b
      by_cases h1 : b = dx
      · subst h1
        rw [upd_same, upd_same]
      · rw [upd_ne h1, upd_ne h1]
        by_cases h2 : b = a
        · subst h2
          rw [del_same, ha]
        · rw [del_ne h2, upd_ne h2, upd_ne h1, upd_ne h2]
    rw [e]
    exact q dx hdx
/-- the reading of __init__ itself -/
theorem xinit_rd {K : PySem.W.Frag} {C : Addr} {f z : Str} {Q : VK} {vs : List V} {H : Hp} {E : XK} {N : List Str} (T : OexC K C) (hno : PySem.W.findIn K (.ref C) f = some none) (h : spXInit C f vs H Q E) :
    tSeq (tDrop (tVeI K (tCons (tVar 0) (tCons (tC (.str z)) tNil)))) (tOst K f (tVar 0) (tVar 1)) { nx := fun _ H' => Q .non H', rt := Q } (L2.start N vs) H := by
  obtain ⟨a, v, rfl, ha, q⟩ := h
  refine ⟨_, rfl, a, C, [.str z], rfl, (show 1 ≤ 1000 by decide), T, ha, ?_⟩
  exact ⟨_, rfl, _, rfl, a, C, rfl, T, hno, .inl ⟨ha, fun dx h1 h2 => q dx h1 h2⟩⟩
/-- a field of an own instance is stored -/
def FldS (K : PySem.W.Frag) (f : Str) (y : V) (D : Ends) (σ : L2.St) : VK := fun x H2 => ∃ a C dx fs, x = .ref a ∧ H2 a = some (.ins C dx fs) ∧ Cls K C ∧ NoAttr K C f ∧ fs.length < 1000 ∧ D.nx σ (upd H2 a (.ins C dx (putF f y fs)))
theorem rd_fldS {K : PySem.W.Frag} {ta tv : TE} {f : Str} {D : Ends} {σ : L2.St} {H : Hp} (h : tv σ H fun y H1 => ta σ H1 (FldS K f y D σ)) : sFld K ta tv f D σ H := h
theorem rd_fldSet {K : PySem.W.Frag} {f : Str} {y : V} {D : Ends} {σ : L2.St} {H : Hp} {a C dx : Addr} {fs : List (Str × V)} (h : H a = some (.ins C dx fs)) (c : Cls K C) (n : NoAttr K C f) (hl : fs.length < 1000) (q : D.nx σ (upd H a (.ins C dx (putF f y fs)))) : FldS K f y D σ (.ref a) H :=
  ⟨a, C, dx, fs, rfl, h, c, n, hl, q⟩
/-- .. is read -/
def FldG (K : PySem.W.Frag) (f : Str) (Q : VK) : VK := fun x H1 => ∃ a C dx fs v, x = .ref a ∧ H1 a = some (.ins C dx fs) ∧ Cls K C ∧ NoAttr K C f ∧ fs.lookup f = some v ∧ Q v H1
theorem rd_fldG {K : PySem.W.Frag} {ta : TE} {f : Str} {Q : VK} {σ : L2.St} {H : Hp} (h : ta σ H (FldG K f Q)) : tFld K ta f σ H Q := h
theorem rd_fldGet {K : PySem.W.Frag} {f : Str} {Q : VK} {H : Hp} {a C dx : Addr} {fs : List (Str × V)} {v : V} (h : H a = some (.ins C dx fs)) (c : Cls K C) (n : NoAttr K C f) (l : fs.lookup f = some v) (q : Q v H) : FldG K f Q (.ref a) H := ⟨a, C, dx, fs, v, rfl, h, c, n, l, q⟩
theorem rd_callS {sp : Sp} {E : L2.St → XK} {tr : TA} {Q : VK} {σ : L2.St} {H : Hp} (h : tr σ H fun vs H1 => sp vs H1 Q (E σ)) : tCallS sp E tr σ H Q := h
theorem pe_fldK {X : Cx} {K : PySem.W.Frag} {e : Expr} {f : Str} {pos : Pos} {ta : TE} (h : X.K = K) (he : PE X e ta) (hb : attributeBase e f X.env (eval e X.env) = eval e X.env := by rfl) : PE X (.Attribute e f pos) (tFld K ta f) := by
  subst h
  exact pe_fld he hb
theorem ps_fldK {X : Cx} {K : PySem.W.Frag} {o value : Expr} {f : Str} {pos pos' : Pos} {ta tv : TE} (h : X.K = K) (ho : PE X o ta) (hv : PE X value tv) (hs : swapsWith value (some (.Attribute o f pos')) pos.line X.env = pure false := by rfl) : PS X (.Assign [.Attribute o f pos'] value pos) (sFld K ta tv f) := by
  subst h
  exact ps_fld ho hv hs
/-- a refusal's value, read in the suite that handles it -/
theorem rd_xf {a C dd : Addr} {fs : List (Str × V)} {f : Str} {te : TE} {v : V} {Q : VK} {σ : L2.St} {H : Hp} (h : te σ H fun x H1 => x = .ref a ∧ Value.ref C = .ref C ∧ ∃ (d2 : Addr) (fs : List (Str × V)) (v : V), some dd = some d2 ∧ H1 d2 = some (.xd fs) ∧ fs.lookup f = some v ∧ Q v H1) : tXf a (.ref C) (some dd) C f te σ H Q := h
theorem rd_xf1 {a C dd : Addr} {f : Str} {i : Nat} {v : V} {Q : VK} {σ : L2.St} {H : Hp} (hv : σ[i]? = some (some (.ref a))) (h : H dd = some (.xd [(f, v)])) (q : Q v H) : tXf a (.ref C) (some dd) C f (tVar i) σ H Q := by
  refine rd_xf (dd := dd) (fs := [(f, v)]) (v := v) ⟨_, hv, rfl, rfl, dd, [(f, v)], v, rfl, h, ?_, q⟩
  rw [List.lookup_cons, beq_self_eq_true]
/-- a method of an own instance is called -/
def MethG (C : Addr) (m : Str) (P : V → Hp → Prop) : VK := fun x H1 => ∃ a dx fs, x = .ref a ∧ H1 a = some (.ins C dx fs) ∧ fs.lookup m = none ∧ P x H1
theorem rd_methG {C : Addr} {m : Str} {P : V → Hp → Prop} {H : Hp} {a dx : Addr} {fs : List (Str × V)} (h : H a = some (.ins C dx fs)) (l : fs.lookup m = none) (q : P (.ref a) H) : MethG C m P (.ref a) H := ⟨a, dx, fs, rfl, h, l, q⟩
theorem rd_methS {C : Addr} {m : Str} {sp : Sp} {E : L2.St → XK} {to : TE} {t : TA} {Q : VK} {σ : L2.St} {H : Hp} (h : to σ H (MethG C m fun x H1 => t σ H1 fun vs H2 => sp (x :: vs) H2 Q (E σ))) : tMethS C m sp E to t σ H Q := h
theorem rd_meth {C : Addr} {m : Str} {sp : Sp} {dvs : List V} {E : XK} {to : TE} {t : TA} {Q : VK} {σ : L2.St} {H : Hp} (h : to σ H (MethG C m fun x H1 => t σ H1 fun vs H2 => sp (x :: (vs ++ dvs)) H2 Q E)) : tMeth C m sp dvs E to t σ H Q := h
/-- an own instance is made -/
def MakeG (C : Addr) (sp : Sp) (Q : VK) (E : XK) : List V → Hp → Prop := fun vs H1 => ∀ x dx, H1 x = none → H1 dx = none → dx ≠ x → sp (.ref x :: vs) (upd (upd H1 dx (.own x)) x (.ins C dx [])) (fun v H2 => v = .non ∧ Q (.ref x) H2) E
theorem rd_makeS {C : Addr} {sp : Sp} {E : L2.St → XK} {t : TA} {Q : VK} {σ : L2.St} {H : Hp} (h : t σ H (MakeG C sp Q (E σ))) : tMakeS C sp E t σ H Q := h
theorem rd_make {C : Addr} {sp : Sp} {E : XK} {t : TA} {Q : VK} {σ : L2.St} {H : Hp} (h : t σ H (fun vs H1 => MakeG C sp Q E (vs ++ []) H1)) : tMake C sp [] E t σ H Q := h
/-- what stood ahead of the making stands behind it -/
theorem make_keep {H H' : Hp} {x dx : Addr} {o1 o2 : HO} (hx : H x = none) (hdx : H dx = none) (k : ∀ b o, (upd (upd H dx o1) x o2) b = some o → b ≠ x → H' b = some o) : ∀ b o, H b = some o → H' b = some o := fun b o h => by
  have h1 := ne_of_none h hx
  have h2 := ne_of_none h hdx
  exact k b o (by rw [upd_ne h1, upd_ne h2]; exact h) h1
end My
local macro_rules | `(tactic| walk_at "nolk") => `(tactic| kernel_rfl)
local macro_rules | `(tactic| walk_at "rd1") => `(tactic| first
  | (with_reducible refine My.rd_fldG ?_)
  | (with_reducible refine My.rd_fldS ?_)
  | ((with_reducible refine My.rd_fldGet (C := ?cc) (dx := ?dd) (fs := ?ff) (v := ?vv) ?hH ?hc ?hn ?hl ?_); (case hH => (first | assumption | walk_at "hp")); (case hc => walk_at "cls"); (case hn => walk_at "noattr"); (case hl => walk_at "lk"))
  | ((with_reducible refine My.rd_methG (dx := ?dd) (fs := ?ff) ?hH ?hl ?_); (case hH => (first | assumption | walk_at "hp")); (case hl => walk_at "nolk"))
  | ((with_reducible refine My.rd_xf1 (v := ?vv) ?hvar ?hH ?_); (case hvar => rfl); (case hH => assumption))
  | (with_reducible refine My.rd_raiseX ?_)
  | (with_reducible refine My.rd_callS ?_)
  | (with_reducible refine My.rd_meth ?_)
  | (with_reducible refine My.rd_methS ?_)
  | (with_reducible refine My.rd_make ?_)
  | (with_reducible refine My.rd_makeS ?_))

/-! ### P0T: several except clauses, some of which name what they caught -/
namespace My
open PySem PySem.Spec PyProof.Rows L2
abbrev Hand : Type := Value × Option Nat × (Addr → Value → Option Addr → TS)
/-- behind a named suite its name is gone -/
abbrev goneD (i : Nat) (D : Ends) : Ends := { nx := fun σ H => D.nx (σ.set i none) H, rt := D.rt, bk := fun σ H => D.bk (σ.set i none) H, ct := fun σ H => D.ct (σ.set i none) H }
/-- what a suite wishes: t at the caught one -/
def suiteR (q : Hand) (D : Ends) (a : Addr) (cls : Value) (d : Option Addr) (σ : L2.St) (H : Hp) : Prop := match q.2.1 with
  | none => q.2.2 a cls d D σ H
  | some i => q.2.2 a cls d (goneD i D) (σ.set i (some (.ref a))) H
theorem suite_named {i : Nat} {c : Value} {t : Addr → Value → Option Addr → TS} {D : Ends} {a : Addr} {cls : Value} {d : Option Addr} {σ : L2.St} {H : Hp} (h : t a cls d (goneD i D) (σ.set i (some (.ref a))) H) : suiteR (c, some i, t) D a cls d σ H := h
theorem suite_plain {c : Value} {t : Addr → Value → Option Addr → TS} {D : Ends} {a : Addr} {cls : Value} {d : Option Addr} {σ : L2.St} {H : Hp} (h : t a cls d D σ H) : suiteR (c, none, t) D a cls d σ H := h
def wNamed (K : PySem.W.Frag) (Wo : WX) (D : Ends) : List Hand → WX
  | [] => Wo
  | q :: r => fun cls d σ H => ∃ b, PySem.W.exmOne K cls q.1 = some b ∧ (b = true → ∀ a, H a = none → suiteR q D a cls d σ H) ∧ (b = false → wNamed K Wo D r cls d σ H)
inductive Hands (X : Cx) : List ExceptHandler → List Hand → Prop
  | nil : Hands X [] []
  | plain {x : Str} {c : Value} {t : Addr → Value → Option Addr → TS} {st : Stmt} {sts : List Stmt} {p1 p2 : Pos} {es : List ExceptHandler} {l : List Hand} (hx : Names X x c)
      (hs : ∀ (a : Addr) (oe : Obj) (cls : Value) (d : Option Addr) (pn : List (Addr × Obj)), Zc cls d oe → (∃ us, oe.data = .fields us) → PSs (X.suite a ((a, oe) :: pn)) (st :: sts) (t a cls d)) (hr : Hands X es l) :
      Hands X (.ExceptHandler (some (.Name x p1)) none (st :: sts) p2 :: es) ((c, none, t) :: l)
  | named {x n : Str} {i : Nat} {c : Value} {t : Addr → Value → Option Addr → TS} {st : Stmt} {sts : List Stmt} {p1 p2 : Pos} {es : List ExceptHandler} {l : List Hand} (hi : X.N[i]? = some n) (hk : X.env.kindOf n = some .local) (hx : Names X x c)
      (hs : ∀ (a : Addr) (oe : Obj) (cls : Value) (d : Option Addr) (pn : List (Addr × Obj)), Zc cls d oe → (∃ us, oe.data = .fields us) → PSs (X.suite a ((a, oe) :: pn)) (st :: sts) (t a cls d)) (hr : Hands X es l) :
      Hands X (.ExceptHandler (some (.Name x p1)) (some n) (st :: sts) p2 :: es) ((c, some i, t) :: l)
theorem ps_tryN {X : Cx} {body : List Stmt} {e0 : ExceptHandler} {es : List ExceptHandler} {l : List Hand} {pos : Pos} {tb : WX → TS} {Wo : WX} (stk : X.stack = X.env :: X.outer) (fra : X.env.frame = some X.env.locals) (dup : X.N.Nodup) (tk : Takes X Wo)
    (hb : ∀ (W : WX) (pn : List (Addr × Obj)) (xe : Value → Shared → Prop), Takes (X.tr pn xe) W → PassesOwn (model X.prog X.w) X.A X.env xe → PSs (X.tr pn xe) body (tb W))
    (hh : Hands X (e0 :: es) l) : PS X (.Try body (e0 :: es) [] [] pos) (fun D σ H => tb (wNamed X.K Wo D l) D σ H) := by
  constructor
  intro pins s σ H D I h
  have okI := I.ok
  have frames : X.A.frames = some (X.env :: X.outer) := okI.frames.trans (congrArg some stk)
  let after : Value → Shared → Prop := fun e s₁ => wpAny (model X.prog X.w) X.A (noteFrame e X.env) (fun _ s₂ => wpAny (model X.prog X.w) X.A (setFlight e none)
    (fun _ s₃ => wpAny (model X.prog X.w) X.A (handleBy e X.env (e0 :: es)) (SP X pins D) X.xe s₃) X.xe s₂) X.xe s₁
  have bodyRun := (hb (wNamed X.K Wo D l) (X.pn ++ pins) after ?caught PassesOwn.looking).run [] s σ H D (I.toTry _) h
  case caught =>
    rintro u s' ⟨a, B, sI, pins', σ1, H1, cls, d, rfl, J0, nb, up, sky0, free, os, ag, wish⟩
    have J : Inv X pins σ1 H1 sI := J0.ofTry okI
    have sky : Sky B (X.env :: X.outer) a (Zc cls d) X.env.locals s'.heap := stk ▸ sky0
    show wpAny (model X.prog X.w) X.A (noteFrame (.ref a) X.env) _ _ _
    refine Sky.land Zc.steady frames fra sky fun hp flies up1 => ?_
    have J1 : Inv X pins σ1 H1 { s' with heap := hp } := J.landed nb flies.1 (up.trans up1) os ag
    obtain ⟨oe, us, atA, zc, dat⟩ := flies.there
    have noFrame : a ∉ frs (X.env :: X.outer) := fun hm => by
      obtain ⟨_, o1, at1, nofr⟩ := flies.2.2.1.mem hm
      cases atA.symm.trans at1
      exact nofr _ dat
    have notLoc : a ≠ X.env.locals := fun z => noFrame (List.mem_filterMap.mpr ⟨X.env, List.mem_cons_self, z ▸ fra⟩)
    have notOut : a ∉ X.fs := fun hm => by
      obtain ⟨e1, in1, q1⟩ := List.mem_filterMap.mp hm
      exact noFrame (List.mem_filterMap.mpr ⟨e1, List.mem_cons_of_mem _ in1, q1⟩)
    have inSuite := J1.suite atA dat free notLoc notOut
    have each : ∀ {es1 : List ExceptHandler} {l1 : List Hand}, Hands X es1 l1 → wNamed X.K Wo D l1 cls d σ1 H1 → wpAny (model X.prog X.w) X.A (handleBy (.ref a) X.env es1) (SP X pins D) X.xe { s' with heap := hp } := by
      intro es1 l1 hk1
      have tested : ∀ {x : Str} {c : Value} {p1 : Pos} {Q E : Value → Shared → Prop}, Names X x c → Q c { s' with heap := hp } → wpAny (model X.prog X.w) (X.A.mark (some (.ref a))) (eval (.Name x p1) X.env) Q E { s' with heap := hp } := by
        intro x c p1 Q E nm q
        obtain ⟨gl, nodb, gm | ⟨gm, bv, bn⟩⟩ := nm
        · exact ld_glob (X := X.suite a ((a, oe) :: (X.pn ++ pins))) inSuite gl gm q nodb
        · exact ld_blt (X := X.suite a ((a, oe) :: (X.pn ++ pins))) inSuite gl gm bv q bn nodb
      have looks : PySem.W.Looks (model X.prog X.w) hp (typeOf (.ref a)) cls := fun A Q E s k q => wpAny_typeOf_ref (k _ _ atA) (zc.1.symm ▸ q)
      induction hk1 with
      | nil =>
        intro wish1
        refine wpAny_handleBy_nil ?_
        obtain ⟨_, _, _, oe2, us2, T2, oT2, ts2, at2, zc2, dat2, first2, rest2⟩ := id flies
        unfold PySem.passOn
        refine wpAny_bind (wpAny_field at2 dat2 first2 ?_)
        have isRef : ¬ ((Value.ref T2 == Value.none) = true) := by simp
        rw [if_neg isRef]
        have onward : wpAny (model X.prog X.w) X.A (setFlight (.ref a) X.env.frame) (fun _ s4 => wpAny (model X.prog X.w) X.A (throw (.ref a) : Sem Flow) (SP X pins D) X.xe s4) X.xe { s' with heap := hp } := by
          rw [fra]
          refine HandSPX.setFlight_upZ flies fun h4 sky4 up4 => wpAny_throw (tk _ _ ?_)
          refine ⟨a, B, sI, pins, σ1, H1, cls, d, rfl, J, nb, (up.trans up1).trans up4, .inr (.inr ?_), free, os, ag, wish1⟩
          exact stk.symm ▸ sky4
        first
        | exact wpAny_bind (wpAny_pure (wpAny_bind onward))
        | exact wpAny_bind onward
      | @plain x c t st sts p1 p2 es2 l2 hx hs hr ih =>
        rintro ⟨b, isx, yes, no⟩
        refine wpAny_handleBy_cons (codeAny_handlers_test ?_) (fun q => by cases q)
        refine tested hx ((PySem.W.exm_one (M := model X.prog X.w) J1.kIn looks isx).here ?_)
        cases b with
        | false => exact ih (no rfl)
        | true =>
          refine codeAny_handlers_suite (HandSPX.lands_againZ flies fun h4 flies4 up4 => ?_)
          have J4 : Inv X pins σ1 H1 { s' with heap := h4 } := J.landed nb flies4.1 ((up.trans up1).trans up4) os ag
          obtain ⟨oe4, us4, at4, zc4, dat4⟩ := flies4.there
          have runs := (hs a oe4 cls d (X.pn ++ pins) zc4 ⟨_, dat4⟩).run [] _ _ H1 _ (J4.suite at4 dat4 free notLoc notOut) (yes rfl a free)
          refine wpAny_mono runs (fun f s6 got => ?_) fun _ _ z => False.elim z
          match f, got with
          | .next, ⟨_, _, S6, q6⟩ => exact ⟨_, _, S6.unsuite okI, q6⟩
          | .brk, ⟨_, _, S6, q6⟩ => exact ⟨_, _, S6.unsuite okI, q6⟩
          | .cont, ⟨_, _, S6, q6⟩ => exact ⟨_, _, S6.unsuite okI, q6⟩
          | .ret u, ⟨_, _, _, S6, r6, q6⟩ => exact ⟨_, _, _, S6.unsuite okI, r6, q6⟩
      | @named x n i c t st sts p1 p2 es2 l2 hi hk hx hs hr ih =>
        rintro ⟨b, isx, yes, no⟩
        refine wpAny_handleBy_cons (codeAny_handlers_test ?_) (fun q => by cases q)
        refine tested hx ((PySem.W.exm_one (M := model X.prog X.w) J1.kIn looks isx).here ?_)
        cases b with
        | false => exact ih (no rfl)
        | true =>
          have isLoc : Loc X.env.scope n := .inl hk
          refine codeAny_handlers_suite_as (HandSPX.lands_againZ flies fun h4 flies4 up4 => ?_)
          have J4 : Inv X pins σ1 H1 { s' with heap := h4 } := J.landed nb flies4.1 ((up.trans up1).trans up4) os ag
          obtain ⟨oe4, us4, at4, zc4, dat4⟩ := flies4.there
          refine store_ok (X := X.suite a ((a, oe4) :: (X.pn ++ pins))) (v := .ref a) (J4.suite at4 dat4 free notLoc notOut) dup hi isLoc rfl (fun s5 S5 => ?_) (.inr hk)
          have runs := (hs a oe4 cls d (X.pn ++ pins) zc4 ⟨_, dat4⟩).run [] s5 _ H1 _ S5 (yes rfl a free)
          refine wpAny_mono runs (fun f s6 got => ?_) fun _ _ z => False.elim z
          have unnamed : ∀ {σ6 : L2.St} {H6 : Hp} {Q : Shared → Prop}, Inv (X.suite a ((a, oe4) :: (X.pn ++ pins))) [] σ6 H6 s6 → (∀ s7, Inv X pins (σ6.set i none) H6 s7 → Q s7) →
              wpAny (model X.prog X.w) X.A (do bindName X.env n .none; unbindBehindTheSuite X.env n p2) (fun _ s7 => Q s7) X.xe s6 := fun S6 hq => gone_ok (S6.unsuite okI) dup hi hk hq
          match f, got with
          | .next, ⟨_, _, S6, q6⟩ => exact unnamed S6 fun s7 J7 => ⟨_, _, J7, q6⟩
          | .brk, ⟨_, _, S6, q6⟩ => exact unnamed S6 fun s7 J7 => ⟨_, _, J7, q6⟩
          | .cont, ⟨_, _, S6, q6⟩ => exact unnamed S6 fun s7 J7 => ⟨_, _, J7, q6⟩
          | .ret u, ⟨_, _, _, S6, r6, q6⟩ => exact unnamed S6 fun s7 J7 => ⟨_, _, _, J7, r6, q6⟩
    exact each hh wish
  refine wpAny_Try_except (wpAny_mono bodyRun (fun f s1 got => ?_) fun e s1 he => he)
  match f, got with
  | .next, ⟨_, _, J1, q⟩ => exact wpAny_execs_nil ⟨_, _, J1.ofTry okI, q⟩
  | .brk, ⟨_, _, J1, q⟩ => exact ⟨_, _, J1.ofTry okI, q⟩
  | .cont, ⟨_, _, J1, q⟩ => exact ⟨_, _, J1.ofTry okI, q⟩
  | .ret u, ⟨_, _, _, J1, r, q⟩ => exact ⟨_, _, _, J1.ofTry okI, r, q⟩
/-- two ways to read one expression: a call whose receiver may be of either class -/
def tAlt (t u : TE) : TE := fun σ H Q => t σ H Q ∨ u σ H Q
theorem pe_alt {X : Cx} {e : Expr} {t u : TE} (h1 : PE X e t) (h2 : PE X e u) : PE X e (tAlt t u) := by
  constructor
  intro pins s σ H Q I h
  rcases h with h | h
  · exact h1.run pins s σ H Q I h
  · exact h2.run pins s σ H Q I h
theorem rd_altL {t u : TE} {σ : L2.St} {H : Hp} {Q : VK} (h : t σ H Q) : tAlt t u σ H Q := .inl h
theorem rd_altR {t u : TE} {σ : L2.St} {H : Hp} {Q : VK} (h : u σ H Q) : tAlt t u σ H Q := .inr h
end My

namespace My
open PySem PySem.Spec PyProof.Rows L2
/-! ### heaps: all but p stands; a draw's box -/
def KeepB (p : Addr) (H H' : Hp) : Prop := ∀ b o, H b = some o → b ≠ p → H' b = some o
theorem KeepB.refl (p : Addr) (H : Hp) : KeepB p H H := fun _ _ h _ => h
theorem KeepB.trans {p : Addr} {H H1 H2 : Hp} (a : KeepB p H H1) (b : KeepB p H1 H2) : KeepB p H H2 := fun c o h n => b c o (a c o h n) n
theorem Same.keepB {p : Addr} {H H' : Hp} (a : Same H H') : KeepB p H H' := fun c o h _ => a c o h
theorem KeepB.same {p : Addr} {H H1 H2 : Hp} (a : KeepB p H1 H2) (e : Same H H1) (hp : H p = none) : Same H H2 := fun c o h => a c o (e c o h) (ne_of_none h hp)
theorem same_new {H : Hp} {p : Addr} {o : HO} (h : H p = none) : Same H (upd H p o) := fun b x e => by
  rw [upd_ne (ne_of_none e h)]
  exact e
theorem keepB_upd {H : Hp} {p : Addr} {o : HO} : KeepB p H (upd H p o) := fun b x e n => by
  rw [upd_ne n]
  exact e
/-- a box: what is left of the cell, its seed, its count, at most n -/
def BoxAt (H : Hp) (p : Addr) (n : Nat) : Prop := ∃ a b c : Int, H p = some (.lst [.int a, .int b, .int c]) ∧ 0 ≤ a ∧ 0 ≤ b ∧ b < 2147483629 ∧ 0 ≤ c ∧ c ≤ (n : Int)
theorem BoxAt.mono {H : Hp} {p : Addr} {n m : Nat} (h : BoxAt H p n) (l : n ≤ m) : BoxAt H p m := by
  obtain ⟨a, b, c, e, h1, h2, h3, h4, h5⟩ := h
  exact ⟨a, b, c, e, h1, h2, h3, h4, by omega⟩
theorem BoxAt.keep {H H' : Hp} {p : Addr} {n : Nat} (h : BoxAt H p n) (s : Same H H') : BoxAt H' p n := by
  obtain ⟨a, b, c, e, r⟩ := h
  exact ⟨a, b, c, s _ _ e, r⟩
theorem BoxAt.ne {H : Hp} {p q : Addr} {n : Nat} (h : BoxAt H p n) (e : H q = none) : q ≠ p := by
  obtain ⟨a, b, c, e1, r⟩ := h
  exact (ne_of_none e1 e).symm
theorem log2_small {j : Int} (h0 : 0 < j) (h : j < 2 ^ 200) : j.natAbs.log2 < 9000 := by
  have : j.natAbs < 2 ^ 200 := by omega
  exact Nat.lt_of_lt_of_le (PySem.Flt.log2_lt_of (by decide) this) (by decide)
theorem KeepB.seqL {K : PySem.W.Frag} {H H' : Hp} {p a : Addr} {xs : List V} (e : KeepB p H H') (h : SqL K H a xs) (n : a ≠ p) : SqL K H' a xs := by
  rcases h with (h | ⟨o, h⟩) | h
  · exact .inl (.inl (e _ _ h n))
  · exact .inl (.inr ⟨o, e _ _ h n⟩)
  · exact .inr h
theorem BoxAt.new {H : Hp} {p q : Addr} {n : Nat} {o : HO} (h : BoxAt H p n) (e : p ≠ q) : BoxAt (upd H q o) p n := by
  obtain ⟨a, b, c, e1, r⟩ := h
  exact ⟨a, b, c, by rw [upd_ne e]; exact e1, r⟩
theorem KeepB.new {p q : Addr} {H H1 : Hp} {o : HO} (k : KeepB p H H1) (e : H q = none) : KeepB p H (upd H1 q o) := fun b x h n => by
  rw [upd_ne (ne_of_none h e)]
  exact k b x h n
theorem wo_sub {l : Addr} {H : Hp} : Same (Wo l H) H := fun b o e => by
  by_cases h : b = l
  · subst h
    rw [wo_same] at e
    cases e
  · rw [wo_ne h] at e
    exact e
theorem Same.seqT {K : PySem.W.Frag} {H H' : Hp} {a : Addr} {xs : List V} (e : Same H H') (h : SqT K H a xs) : SqT K H' a xs := by
  rcases h with (h | ⟨o, h⟩) | h
  · exact .inl (.inl (e _ _ h))
  · exact .inl (.inr ⟨o, e _ _ h⟩)
  · exact .inr h
theorem same_wo {l : Addr} {H H' : Hp} (e : Same H H') : Same (Wo l H) (Wo l H') := fun b o h => by
  by_cases hb : b = l
  · subst hb
    rw [wo_same] at h
    cases h
  · rw [wo_ne hb] at h ⊢
    exact e _ _ h
theorem wo_none {l p : Addr} {H : Hp} (h : H p = none) : Wo l H p = none := by
  by_cases hb : p = l
  · subst hb
    exact wo_same
  · rw [wo_ne hb]
    exact h
theorem BoxAt.wo {l p : Addr} {H : Hp} {n : Nat} (h : BoxAt H p n) (e : p ≠ l) : BoxAt (Wo l H) p n := by
  obtain ⟨a, b, c, e1, r⟩ := h
  exact ⟨a, b, c, by rw [wo_ne e]; exact e1, r⟩
theorem same_to_wo {l : Addr} {H H' : Hp} (e : Same H H') (h : H l = none) : Same H (Wo l H') := fun b o hb => by
  rw [wo_ne (ne_of_none hb h)]
  exact e _ _ hb
/-! ### solvers: what stands where -/
/-- q is free in H -/
structure Nn (H : Hp) (q : Addr) : Prop where
  e : H q = none
theorem iteTd {b : Bool} {A B : Prop} (h : b = true) (a : A) : if b = true then A else B := by rw [if_pos h]; exact a
theorem iteFd {b : Bool} {A B : Prop} (h : b = false) (a : B) : if b = true then A else B := by rw [if_neg (by rw [h]; decide)]; exact a
theorem hp_same {H H' : Hp} {p : Addr} {o : HO} (s : Same H H') (h : H p = some o) : H' p = some o := s _ _ h
theorem hp_kb {H H' : Hp} {p q : Addr} {o : HO} (s : KeepB p H H') (n : q ≠ p) (h : H q = some o) : H' q = some o := s _ _ h n
theorem hp_upd {H : Hp} {p q : Addr} {o u : HO} (n : q ≠ p) (h : H q = some o) : upd H p u q = some o := by
  rw [upd_ne n]
  exact h
theorem ne_nn {H : Hp} {a b : Addr} {o : HO} (n : Nn H b) (h : H a = some o) : a ≠ b := ne_of_none h n.e
theorem ne_box {H : Hp} {p a : Addr} {n : Nat} (f : Nn H a) (h : BoxAt H p n) : a ≠ p := h.ne f.e
theorem kb_same {p : Addr} {H H1 H2 : Hp} (s : Same H1 H2) (g : KeepB p H H1) : KeepB p H H2 := g.trans (Same.keepB s)
theorem kb_kb {p : Addr} {H H1 H2 : Hp} (s : KeepB p H1 H2) (g : KeepB p H H1) : KeepB p H H2 := g.trans s
theorem kb_skip {p q : Addr} {H H1 H2 : Hp} (s : KeepB q H1 H2) (n : H q = none) (g : KeepB p H H1) : KeepB p H H2 := fun b o h hn => s b o (g b o h hn) (ne_of_none h n)
theorem kb_put {p : Addr} {H H1 : Hp} {o : HO} (g : KeepB p H H1) : KeepB p H (upd H1 p o) := fun b x h n => by
  rw [upd_ne n]
  exact g b x h n
theorem kb_new {p q : Addr} {H H1 : Hp} {o : HO} (n : H q = none) (g : KeepB p H H1) : KeepB p H (upd H1 q o) := fun b x h hn => by
  rw [upd_ne (ne_of_none h n)]
  exact g b x h hn
theorem sm_same {H H1 H2 : Hp} (s : Same H1 H2) (g : Same H H1) : Same H H2 := g.trans s
theorem sm_skip {q : Addr} {H H1 H2 : Hp} (s : KeepB q H1 H2) (n : H q = none) (g : Same H H1) : Same H H2 := fun b o h => s b o (g b o h) (ne_of_none h n)
theorem sm_new {q : Addr} {H H1 : Hp} {o : HO} (n : H q = none) (g : Same H H1) : Same H (upd H1 q o) := fun b x h => by
  rw [upd_ne (ne_of_none h n)]
  exact g b x h
theorem nn_same {q : Addr} {H H1 : Hp} (n : Nn H1 q) (s : Same H H1) : H q = none := by
  cases e : H q with
  | none => rfl
  | some o => exact absurd ((s _ _ e).symm.trans n.e) nofun
theorem nn_box {p q : Addr} {m : Nat} {H H1 : Hp} (n : Nn H1 q) (hB : BoxAt H1 p m) (k : KeepB p H H1) : H q = none := by
  cases e : H q with
  | none => rfl
  | some o => exact absurd ((k _ _ e (hB.ne n.e)).symm.trans n.e) nofun
theorem bx_kb {p q : Addr} {n : Nat} {H H' : Hp} (s : KeepB q H H') (ne : p ≠ q) (h : BoxAt H p n) : BoxAt H' p n := by
  obtain ⟨a, b, c, e, r⟩ := h
  exact ⟨a, b, c, s _ _ e ne, r⟩
theorem bx_nn {p q : Addr} {n : Nat} {H : Hp} (h : BoxAt H p n) (f : Nn H q) : p ≠ q := (h.ne f.e).symm
local macro_rules | `(tactic| walk_at "hp") => `(tactic| first
  | assumption
  | exact L2.upd_same
  | ((with_reducible refine My.hp_upd (o := ?ho) ?hn ?hh); (case hh => walk_at "hp"); (case hn => walk_at "ne"))
  | ((with_reducible refine My.hp_same (H := ?hH) (o := ?ho) ?hs ?hh); (case hs => assumption); (case hh => walk_at "hp"))
  | ((with_reducible refine My.hp_kb (H := ?hH) (p := ?hq) (o := ?ho) ?hs ?hn ?hh); (case hs => assumption); (case hh => walk_at "hp"); (case hn => walk_at "ne")))
local macro_rules | `(tactic| walk_at "bx0") => `(tactic| first
  | assumption
  | ((with_reducible refine My.BoxAt.keep (H := ?hH) (n := ?hm) ?hh ?hs); (case hs => assumption); (case hh => walk_at "bx0"))
  | ((with_reducible refine My.bx_kb (H := ?hH) (q := ?hq) (n := ?hm) ?hs ?hn ?hh); (case hs => assumption); (case hh => walk_at "bx0"); (case hn => walk_at "ne"))
  | ((with_reducible refine My.BoxAt.new (n := ?hm) ?hh ?hn); (case hh => walk_at "bx0"); (case hn => walk_at "ne")))
local macro_rules | `(tactic| walk_at "bx") => `(tactic| first
  | walk_at "bx0"
  | ((with_reducible refine My.BoxAt.mono (n := ?hm) ?hh ?hl); (case hh => walk_at "bx0"); (case hl => omega)))
local macro_rules | `(tactic| walk_at "ne") => `(tactic| first
  | assumption
  | (refine Ne.symm ?_; assumption)
  | ((with_reducible refine My.ne_nn (H := ?hH) (o := ?ho) ?hn ?hh); (case hn => assumption); (case hh => walk_at "hp"))
  | ((with_reducible refine Ne.symm (My.ne_nn (H := ?hH) (o := ?ho) ?hn ?hh)); (case hn => assumption); (case hh => walk_at "hp"))
  | ((with_reducible refine My.ne_box (H := ?hH) (n := ?hm) ?hn ?hh); (case hn => assumption); (case hh => walk_at "bx0"))
  | ((with_reducible refine Ne.symm (My.ne_box (H := ?hH) (n := ?hm) ?hn ?hh)); (case hn => assumption); (case hh => walk_at "bx0"))
  | ((refine L2.ne_of (H := ?hH) (o := L2.HO.tup ?ho) (u := L2.HO.lst ?hu) ?h1 ?h2 nofun); (case h1 => assumption); (case h2 => walk_at "hp"))
  | ((refine L2.ne_of (H := ?hH) (o := L2.HO.lst ?ho) (u := L2.HO.tup ?hu) ?h1 ?h2 nofun); (case h1 => assumption); (case h2 => walk_at "hp")))
local macro_rules | `(tactic| walk_at "nn") => `(tactic| first
  | assumption
  | exact My.Nn.e (by assumption)
  | ((with_reducible refine My.nn_same (H1 := ?hH) ?hn ?hs); (case hn => assumption); (case hs => walk_at "sm"))
  | ((with_reducible refine My.nn_box (H1 := ?hH) (p := ?hp) (m := ?hm) ?hn ?hb ?hs); (case hn => assumption); (case hb => walk_at "bx0"); (case hs => walk_at "kb")))
local macro_rules | `(tactic| walk_at "kb") => `(tactic| first
  | assumption
  | (with_reducible exact My.KeepB.refl _ _)
  | ((with_reducible refine My.kb_put ?hg); (case hg => walk_at "kb"))
  | ((with_reducible refine My.kb_new ?hn ?hg); (case hg => walk_at "kb"); (case hn => walk_at "nn"))
  | ((with_reducible refine My.kb_same (H1 := ?hH) ?hs ?hg); (case hs => assumption); (case hg => walk_at "kb"))
  | ((with_reducible refine My.kb_kb (H1 := ?hH) ?hs ?hg); (case hs => assumption); (case hg => walk_at "kb"))
  | ((with_reducible refine My.kb_skip (q := ?hq) (H1 := ?hH) ?hs ?hn ?hg); (case hs => assumption); (case hg => walk_at "kb"); (case hn => walk_at "nn")))
local macro_rules | `(tactic| walk_at "sm") => `(tactic| first
  | assumption
  | (with_reducible exact L2.Same.refl _)
  | ((with_reducible refine My.sm_new ?hn ?hg); (case hg => walk_at "sm"); (case hn => walk_at "nn"))
  | ((with_reducible refine My.sm_same (H1 := ?hH) ?hs ?hg); (case hs => assumption); (case hg => walk_at "sm"))
  | ((with_reducible refine My.sm_skip (q := ?hq) (H1 := ?hH) ?hs ?hn ?hg); (case hs => assumption); (case hg => walk_at "sm"); (case hn => walk_at "nn")))
/-- what else is kept (a law of one's own adds rows ahead) -/
local macro_rules | `(tactic| walk_at "at") => `(tactic| first | assumption | fail "at")
local macro_rules | `(tactic| walk_at "sl") => `(tactic| first
  | assumption
  | ((refine My.sqL_of (xs := ?hx) ?hh); (case hh => walk_at "hp"))
  | ((with_reducible refine L2.Same.seq (H := ?hH) (xs := ?hx) ?hs ?hh); (case hh => assumption); (case hs => walk_at "sm"))
  | ((with_reducible refine My.KeepB.seqL (H := ?hH) (p := ?hq) (xs := ?hx) ?hs ?hh ?hn); (case hs => assumption); (case hh => walk_at "sl"); (case hn => walk_at "ne")))
local macro_rules | `(tactic| walk_at "st") => `(tactic| first
  | assumption
  | ((refine My.sqT_of (xs := ?hx) ?hh); (case hh => walk_at "hp"))
  | ((with_reducible refine My.Same.seqT (H := ?hH) (xs := ?hx) ?hs ?hh); (case hh => assumption); (case hs => walk_at "sm")))
local macro_rules | `(tactic| walk_at "sql") => `(tactic| walk_at "sl")
local macro_rules | `(tactic| walk_at "sqt") => `(tactic| walk_at "st")
/-- of numbers -/
local macro_rules | `(tactic| walk_at "ar") => `(tactic| first | assumption | omega | (simp only [List.length_map, List.length_cons, List.length_nil]; omega) | decide | (simp only [List.length_map, List.length_cons, List.length_nil] at *; omega))
/-- any side goal -/
local macro_rules | `(tactic| walk_at "sd") => `(tactic| first
  | assumption
  | rfl
  | omega
  | ((with_reducible show My.Same _ _); walk_at "sm")
  | ((with_reducible show L2.Same _ _); walk_at "sm")
  | ((with_reducible show My.KeepB _ _ _); walk_at "kb")
  | ((with_reducible show My.BoxAt _ _ _); walk_at "bx")
  | ((with_reducible show L2.SqL _ _ _ _); walk_at "sl")
  | ((with_reducible show L2.SqT _ _ _ _); walk_at "st")
  | ((with_reducible show _ ≠ _); walk_at "ne")
  | ((with_reducible show _ = Option.none); walk_at "nn")
  | walk_at "at"
  | walk_at "hp"
  | (simp; done)
  | trivial)
section
variable {K : PySem.W.Frag} {σ : L2.St} {H : Hp} {i : Nat} {v x y : V} {Q : VK}
theorem rd_lstB {xs : List V} (q : ∀ p H', Nn H p → Same H H' → H' p = some (.lst xs) → Q (.ref p) H') (hz : xs.length ≤ 100000 := by (first | exact Nat.zero_le _ | decide | (simp; done) | (simp; omega))) : LstK Q xs H := rd_lstA hz fun p H' n => q p H' ⟨n⟩
theorem rd_tupB {xs : List V} (q : ∀ p H', Nn H p → Same H H' → H' p = some (.tup xs) → Q (.ref p) H') (hz : xs.length ≤ 100000 := by (first | exact Nat.zero_le _ | decide | (simp; done) | (simp; omega))) : TupK Q xs H := rd_tupA hz fun p H' n => q p H' ⟨n⟩
theorem rd_revB {p : Addr} {xs : List V} (q : ∀ p H', Nn H p → Same H H' → H' p = some (.lst xs.reverse) → Q (.ref p) H') (h : SqL K H p xs := by walk_at "sl") : RevK K Q (.ref p) H := rd_revK h fun p H' n => q p H' ⟨n⟩
theorem rd_catB {l b : Addr} {xs zs : List V} (q : ∀ p H', Nn H p → Same H H' → H' p = some (.lst (xs ++ zs)) → Q (.ref p) H') (h1 : H l = some (.lst xs) := by walk_at "hp") (h2 : H b = some (.lst zs) := by walk_at "hp") (hz : xs.length + zs.length ≤ 100000 := by (first | exact Nat.zero_le _ | decide | (simp; done) | (simp; omega))) : rCat (.ref l) (.ref b) H Q := rd_cat h1 h2 hz fun p H' n => q p H' ⟨n⟩
theorem rd_catT {a b : Addr} {x y : V} {xs ys : List V} (q : ∀ p H', Nn H p → Same H H' → H' p = some (.tup ((x :: xs) ++ (y :: ys))) → Q (.ref p) H') (h1 : SqT K H a (x :: xs) := by walk_at "st") (h2 : SqT K H b (y :: ys) := by walk_at "st") (hz : (x :: xs).length + (y :: ys).length ≤ 100000 := by (first | exact Nat.zero_le _ | decide | (simp; done) | (simp; omega))) : rCatA K (.ref a) (.ref b) H Q := rd_catA h1 h2 hz fun p H' n => q p H' ⟨n⟩
theorem rd_dnewB (q : ∀ p H', Nn H p → Same H H' → H' p = some (.dK []) → Q (.ref p) H') : tDNewK σ H Q := rd_dnew fun p H' n => q p H' ⟨n⟩
theorem rd_ilB {R : It → Hp → Prop} {p : Addr} {xs : List V} (q : R (Itl K p) H) (h : SqL K H p xs := by walk_at "sl") : LstIt K R (.ref p) H := rd_il h q
theorem rd_itB {R : It → Hp → Prop} {p : Addr} {xs : List V} (q : R (Itt K p) H) (h : SqT K H p xs := by walk_at "st") : TupIt K R (.ref p) H := rd_it h q
end
/-! ### data: how big, and solvers -/
structure Sm (n w : Nat) (d : PyData) : Prop where
  s : d.showable = true
  c : d.canLay0 = true
  p : d.depth ≤ n
  w : wt d ≤ w
theorem Sm.ok {n w : Nat} {d : PyData} (h : Sm n w d) (hn : n ≤ 60 := by decide) (hw : w ≤ 10000000 := by decide) : okD d := .inr ⟨h.s, h.c, Nat.le_trans h.p hn, Nat.le_trans h.w hw⟩
theorem Sm.mono {n w n' w' : Nat} {d : PyData} (h : Sm n w d) (hn : n ≤ n') (hw : w ≤ w') : Sm n' w' d := ⟨h.s, h.c, Nat.le_trans h.p hn, Nat.le_trans h.w hw⟩
theorem Sm.non : Sm 0 2000 .none := ⟨rfl, rfl, by decide +kernel, by decide +kernel⟩
theorem Sm.bl {b : Bool} : Sm 0 2000 (.bool b) := by cases b <;> exact ⟨rfl, rfl, by decide +kernel, by decide +kernel⟩
theorem int_log {i : Int} (h : i.natAbs ≤ 10000000000000000000000000000000000000000000000000000000000000000000000) : i.natAbs.log2 < 1920 := Nat.lt_of_lt_of_le (PySem.Flt.log2_lt_of (k := 240) (by decide) (Nat.lt_of_le_of_lt h (by decide))) (by decide)
theorem Sm.int {i : Int} (h : i.natAbs ≤ 10000000000000000000000000000000000000000000000000000000000000000000000) : Sm 0 2000 (.int i) := ⟨decide_eq_true (int_log h), rfl, by simp [PyData.depth], by simp [wt]⟩
theorem Sm.str {z : Str} (h : PyData.strOk z = true) (l : z.length ≤ 199) : Sm 0 2000 (.str z) := ⟨rfl, by simp only [PyData.canLay0, h], by simp [PyData.depth], by simp only [wt]; omega⟩
theorem sm_all {n w : Nat} : ∀ {ds : List PyData}, (∀ d ∈ ds, Sm n w d) → PyData.showableAll ds = true ∧ PyData.canLayAll0 ds = true ∧ PyData.depthAll ds ≤ n ∧ wtAll ds ≤ ds.length * (w + 2)
  | [], _ => by simp [PyData.showableAll, PyData.canLayAll0, PyData.depthAll, wtAll]
  | d :: ds, h => by
    obtain ⟨a, b, c, e⟩ := sm_all fun x hx => h x (List.mem_cons_of_mem _ hx)
    obtain ⟨a1, b1, c1, e1⟩ := h d List.mem_cons_self
    refine ⟨?_, ?_, ?_, ?_⟩
    · simp only [PyData.showableAll, a, a1, Bool.and_self]
    · simp only [PyData.canLayAll0, b, b1, Bool.and_self]
    · simp only [PyData.depthAll]
      omega
    · simp only [wtAll, List.length_cons, Nat.add_mul]
      omega
theorem Sm.tup {n w m : Nat} {ds : List PyData} (h : ∀ d ∈ ds, Sm n w d) (l : ds.length ≤ m) : Sm (n + 1) (m * (w + 2) + 4) (.tuple ds) := by
  obtain ⟨a, b, c, e⟩ := sm_all h
  have := Nat.mul_le_mul_right (w + 2) l
  refine ⟨by simp only [PyData.showable, a], by simp only [PyData.canLay0, b], by simp only [PyData.depth]; omega, by simp only [wt]; omega⟩
theorem Sm.lst {n w m : Nat} {ds : List PyData} (h : ∀ d ∈ ds, Sm n w d) (l : ds.length ≤ m) : Sm (n + 1) (m * (w + 2) + 4) (.list ds) := by
  obtain ⟨a, b, c, e⟩ := sm_all h
  have := Nat.mul_le_mul_right (w + 2) l
  refine ⟨by simp only [PyData.showable, a], by simp only [PyData.canLay0, b], by simp only [PyData.depth]; omega, by simp only [wt]; omega⟩
theorem sm_nil {n w : Nat} : ∀ d ∈ ([] : List PyData), Sm n w d := fun _ h => nomatch h
theorem sm_cons {n w : Nat} {d : PyData} {ds : List PyData} (h : Sm n w d) (r : ∀ d ∈ ds, Sm n w d) : ∀ x ∈ d :: ds, Sm n w x := fun x hx => by
  rcases List.mem_cons.mp hx with rfl | hx
  · exact h
  · exact r x hx
/-- a leaf -/
local macro_rules | `(tactic| walk_at "sm0") => `(tactic| first
  | exact My.Sm.non
  | exact My.Sm.bl
  | (refine My.Sm.int ?_; omega)
  | (refine My.Sm.int ?_; decide)
  | (refine My.Sm.str ?_ ?_ <;> walk_at "txt"))
local macro_rules | `(tactic| walk_at "txt") => `(tactic| first | assumption | omega | decide +kernel)
local macro_rules | `(tactic| walk_at "sml") => `(tactic| first
  | exact My.sm_nil
  | (refine My.sm_cons ?_ ?_; walk_at "smd"; walk_at "sml"))
local macro_rules | `(tactic| walk_at "smd") => `(tactic| first
  | assumption
  | walk_at "sm0"
  | ((refine My.Sm.mono (My.Sm.tup (n := 0) (w := 2000) (m := 12) ?_ ?_) (by decide) (by decide)); walk_at "sml"; (simp; done))
  | ((refine My.Sm.mono (My.Sm.lst (n := 0) (w := 2000) (m := 12) ?_ ?_) (by decide) (by decide)); walk_at "sml"; (simp; done)))
/-- data that is not too big: a leaf; leaves; rows of leaves -/
local macro_rules | `(tactic| walk_at "ok") => `(tactic| first
  | assumption
  | exact .inl rfl
  | (refine My.Sm.ok (n := 0) (w := 2000) ?_; walk_at "sm0")
  | (refine My.Sm.ok (My.Sm.tup (n := 0) (w := 2000) (m := 50) ?_ ?_); walk_at "sml"; (simp; done))
  | (refine My.Sm.ok (My.Sm.lst (n := 0) (w := 2000) (m := 50) ?_ ?_); walk_at "sml"; (simp; done))
  | (refine My.Sm.ok (My.Sm.tup (n := 1) (w := 26000) (m := 50) ?_ ?_); walk_at "sml"; (simp; done))
  | (refine My.Sm.ok (My.Sm.lst (n := 1) (w := 26000) (m := 50) ?_ ?_); walk_at "sml"; (simp; done)))
/-- what a value is as data -/
local macro_rules | `(tactic| walk_at "dq") => `(tactic| first
  | assumption
  | exact L2.Dp.non
  | exact L2.Dp.bl _
  | exact L2.Dp.int _
  | exact L2.Dp.str _
  | ((refine L2.Dp.tup (xs := ?hx) (ds := ?hd) ?hh ?ha); (case hh => walk_at "st"); (case ha => walk_at "da"))
  | ((refine L2.Dp.lst (xs := ?hx) (ds := ?hd) ?hh ?ha); (case hh => walk_at "sl"); (case ha => walk_at "da"))
  | ((refine My.dp_same (H := ?hH) ?hs ?hd _ ?hh); (case hh => assumption); (case hs => walk_at "sm")))
local macro_rules | `(tactic| walk_at "da") => `(tactic| first
  | assumption
  | exact L2.DpAll.nil
  | ((refine L2.DpAll.cons (d := ?hd) (ds := ?he) ?h1 ?h2); (case h1 => walk_at "dq"); (case h2 => walk_at "da")))
local macro_rules | `(tactic| walk_at "dp") => `(tactic| first
  | assumption
  | ((refine My.DpE.dp (d := ?hd) ?hh); (case hh => walk_at "dq"))
  | (refine My.DpE.dK ?hh; walk_at "hp")
  | ((refine My.DpE.same (H := ?hH) (d := ?hd) ?hs ?hh); (case hh => assumption); (case hs => walk_at "sm")))
theorem rd_rZ {K : PySem.W.Frag} {H : Hp} {Q : VK} {v : V} {d : PyData} (q : ∀ z, z = d.shown → Q (.str z) H) (hd : DpE K H v d := by walk_at "dp") (h : okD d := by walk_at "ok") : rReprE K [v] H Q := rd_rEg hd h q
theorem rd_neB {K : PySem.W.Frag} {H : Hp} {Q : VK} {x y : V} {d e : PyData} (q : Q (.bl (!PyData.eqv d e)) H) (hd : Dp K H x d := by walk_at "dq") (he : Dp K H y e := by walk_at "dq") (sd : SeqAt.shaped d = true := by walk_at "shp") (se : SeqAt.shaped e = true := by walk_at "shp") : rNeD K x y H Q := rd_neD hd he sd se q
theorem rd_eqB {K : PySem.W.Frag} {H : Hp} {Q : VK} {x y : V} {d e : PyData} (q : Q (.bl (PyData.eqv d e)) H) (hd : Dp K H x d := by walk_at "dq") (he : Dp K H y e := by walk_at "dq") (sd : SeqAt.shaped d = true := by walk_at "shp") (se : SeqAt.shaped e = true := by walk_at "shp") : rEqD K x y H Q := rd_eqD hd he sd se q
theorem okD.shp {d : PyData} (h : okD d) (n : d ≠ .dict []) : SeqAt.shaped d = true := h.shaped.resolve_left n
local macro_rules | `(tactic| walk_at "shp") => `(tactic| first
  | assumption
  | decide +kernel
  | (refine My.okD.shp ?_ nofun; walk_at "ok"))
/-- shown texts of one datum are one -/
theorem ite_same {a b : Str} {A B : Prop} (h : a = b) (q : B) : if (!decide (V.str a = V.str b)) = true then A else B := by
  subst h
  exact iteFd (by simp) q
theorem ite_sameP {a b : Str} {A B : Prop} (h : a = b) (q : A) : if decide (V.str a = V.str b) = true then A else B := by
  subst h
  exact iteTd (by simp) q
theorem rd_intD {H : Hp} {Q : VK} {b : Bool} {i : Int} (h : (if b then 1 else 0) = i) (q : Q (.int i) H) : rInt1 [.bl b] H Q := .inr ⟨b, rfl, h ▸ q⟩
theorem rd_slB {K : PySem.W.Frag} {H : Hp} {Q : VK} {a : Addr} {xs ys : List V} {lo hi : Option Int} (q : ∀ p H', Same H H' → H' p = some (.tup ys) → Q (.ref p) H') (h : H a = some (.tup xs) := by walk_at "hp") (e : cutV xs lo hi = ys := by rfl) : rSlA K (.ref a) lo hi H Q := rd_slA h fun p H' s e' => q p H' s (e ▸ e')
theorem rd_catX {K : PySem.W.Frag} {H : Hp} {Q : VK} {a b : Addr} {xs ys : List V} (q : ∀ p H', Same H H' → H' p = some (.tup (xs ++ ys)) → Q (.ref p) H') (h1 : H a = some (.tup xs) := by walk_at "hp") (h2 : H b = some (.tup ys) := by walk_at "hp") (hz : xs.length + ys.length ≤ 100000 := by (first | decide | omega | (simp; done) | (simp; omega))) : rCatA K (.ref a) (.ref b) H Q :=
  ⟨a, b, xs, ys, rfl, rfl, sqT_of h1, sqT_of h2, Nat.le_trans hz (by decide), fun e => q b H (Same.refl H) (by rw [e]; exact h2), fun _ e => q a H (Same.refl H) (by rw [e, List.append_nil]; exact h1), fun _ _ p hp => q p _ (fun b x e => by rw [upd_ne (ne_of_none e hp)]; exact e) upd_same⟩
theorem cutV_to {xs : List V} {n : Nat} : cutV xs none (some (n : Int)) = xs.take n := by
  show ((xs.drop 0).take (HT.sIx xs.length xs.length (some (n : Int)) - 0)) = _
  rw [HT.sIx_nat, List.drop_zero, Nat.sub_zero, List.take_eq_take_iff]
  omega
theorem cutV_from {xs : List V} {n : Nat} : cutV xs (some (n : Int)) none = xs.drop n := by
  show ((xs.drop (HT.sIx xs.length 0 (some (n : Int)))).take (xs.length - HT.sIx xs.length 0 (some (n : Int)))) = _
  rw [HT.sIx_nat]
  by_cases h : n ≤ xs.length
  · rw [Nat.min_eq_left h, List.take_of_length_le (by rw [List.length_drop]; exact Nat.le_refl _)]
  · rw [List.drop_eq_nil_of_le (by omega : xs.length ≤ n), List.drop_eq_nil_of_le (by omega), List.take_nil]

/-- an own class that is none of the built-in ones that are asked for -/
def OwnTy (K : PySem.W.Frag) (C : Addr) : Prop := ∀ n ∈ ["int", "bool", "str", "list", "tuple", "dict"], PySem.W.kitOne K (.ref C) (.type n) = some false
theorem kit_T {K : PySem.W.Frag} {C : Addr} {n : String} {b : Bool} (m : PySem.W.kitMeta n = true) (e : PySem.W.subIn K (.ref C) (.type n) = some b) : PySem.W.kitOne K (.ref C) (.type n) = some b := by
  unfold PySem.W.kitOne PySem.W.kitCls
  rw [if_neg (by simp)]
  show (if PySem.W.kitMeta n = true then PySem.W.subIn K (.ref C) (.type n) else none) = some b
  rw [if_pos m]
  exact e
theorem own_of {K : PySem.W.Frag} {C : Addr} (h1 : PySem.W.subIn K (.ref C) (.type "int") = some false) (h2 : PySem.W.subIn K (.ref C) (.type "bool") = some false) (h3 : PySem.W.subIn K (.ref C) (.type "str") = some false)
    (h4 : PySem.W.subIn K (.ref C) (.type "list") = some false) (h5 : PySem.W.subIn K (.ref C) (.type "tuple") = some false) (h6 : PySem.W.subIn K (.ref C) (.type "dict") = some false) : OwnTy K C := fun n hn => by
  simp only [List.mem_cons, List.not_mem_nil, or_false] at hn
  rcases hn with rfl | rfl | rfl | rfl | rfl | rfl
  · exact kit_T (by decide +kernel) h1
  · exact kit_T (by decide +kernel) h2
  · exact kit_T (by decide +kernel) h3
  · exact kit_T (by decide +kernel) h4
  · exact kit_T (by decide +kernel) h5
  · exact kit_T (by decide +kernel) h6
/-- a thing: a text, not long; a number, a truth, None; a list, a tuple, a dict; an own instance -/
def ThingAt (K : PySem.W.Frag) (H : Hp) : V → Prop
  | .str z => z.length ≤ 100000
  | .int _ => True
  | .bl _ => True
  | .non => True
  | .ref a => (∃ t, TyOf K H (.ref a) (.type t) ∧ (t = "list" ∨ t = "tuple" ∨ t = "dict")) ∨ ∃ C, TyOf K H (.ref a) (.ref C) ∧ OwnTy K C
  | _ => False
theorem tyof_keep {K : PySem.W.Frag} {H H' : Hp} {v : V} {t : Value} (b : TyOf K H v t) (e : Same H H') : TyOf K H' v t := by
  cases b with
  | non => exact .non
  | bl x => exact .bl x
  | int i => exact .int i
  | str x => exact .str x
  | flt x => exact .flt x
  | lst h => exact .lst (e _ _ h)
  | frz h => exact .frz (e _ _ h)
  | tup h => exact .tup (e _ _ h)
  | dK h => exact .dK (e _ _ h)
  | dT h => exact .dT (e _ _ h)
  | ins h a b c d m => exact .ins (e _ _ h) a b c d m
theorem ThingAt.keep {K : PySem.W.Frag} {H H' : Hp} {v : V} (h : ThingAt K H v) (e : Same H H') : ThingAt K H' v := by
  cases v with
  | ref a =>
    rcases h with ⟨t, h1, h2⟩ | ⟨C, h1, h2⟩
    · exact .inl ⟨t, tyof_keep h1 e, h2⟩
    · exact .inr ⟨C, tyof_keep h1 e, h2⟩
  | _ => exact h
def isIB : V → Bool
  | .int _ => true
  | .bl _ => true
  | _ => false
def isBl : V → Bool
  | .bl _ => true
  | _ => false
def isStr : V → Bool
  | .str _ => true
  | _ => false
def wholeV : V → Bool
  | .int _ => true
  | _ => false
def withinV (v : V) (lo hi : Int) : Bool := match v with
  | .int i => decide (lo ≤ i) && decide (i ≤ hi)
  | _ => false
theorem thing_ty {K : PySem.W.Frag} {H : Hp} {v : V} (h : ThingAt K H v) : ∃ t, TyX K H v t ∧ PySem.W.kitOne K t (.type "int") = some (isIB v) ∧ PySem.W.kitOne K t (.type "bool") = some (isBl v) ∧ PySem.W.kitOne K t (.type "str") = some (isStr v) := by
  cases v with
  | non => exact ⟨_, .base .non, kit_ty (by decide +kernel), kit_ty (by decide +kernel), kit_ty (by decide +kernel)⟩
  | bl b => exact ⟨_, .base (.bl b), kit_ty (by show kitB "bool" "int" = some true; decide +kernel), kit_ty (by show kitB "bool" "bool" = some true; decide +kernel), kit_ty (by show kitB "bool" "str" = some false; decide +kernel)⟩
  | int i => exact ⟨_, .base (.int i), kit_ty (by show kitB "int" "int" = some true; decide +kernel), kit_ty (by show kitB "int" "bool" = some false; decide +kernel), kit_ty (by show kitB "int" "str" = some false; decide +kernel)⟩
  | str z => exact ⟨_, .base (.str z), kit_ty (by show kitB "str" "int" = some false; decide +kernel), kit_ty (by show kitB "str" "bool" = some false; decide +kernel), kit_ty (by show kitB "str" "str" = some true; decide +kernel)⟩
  | ref a =>
    rcases h with ⟨t, h1, h2⟩ | ⟨C, h1, h2⟩
    · refine ⟨.type t, .base h1, kit_ty ?_, kit_ty ?_, kit_ty ?_⟩
      · show kitB t "int" = some false
        rcases h2 with rfl | rfl | rfl <;> decide +kernel
      · show kitB t "bool" = some false
        rcases h2 with rfl | rfl | rfl <;> decide +kernel
      · show kitB t "str" = some false
        rcases h2 with rfl | rfl | rfl <;> decide +kernel
    · exact ⟨.ref C, .base h1, h2 _ (by decide), h2 _ (by decide), h2 _ (by decide)⟩
  | byt _ => exact h.elim
  | flt _ => exact h.elim
  | ty _ => exact h.elim
theorem rd_isiV {K : PySem.W.Frag} {H : Hp} {Q : VK} {v : V} {t : Value} {n : String} {b : Bool} (ty : TyX K H v t) (k : PySem.W.kitOne K t (.type n) = some b) (q : Q (.bl b) H) : rIsi K [v, .ty n] H Q := ⟨v, .ty n, _, _, b, rfl, ClsV.ty n, ty, k, q⟩
/-- is it a list or a tuple -/
def isSeq (K : PySem.W.Frag) (H : Hp) (v : V) (b : Bool) : Prop := ∃ t, TyOf K H v t ∧ PySem.W.kitAny K t [.type "list", .type "tuple"] = some b
theorem kitAny2 {K : PySem.W.Frag} {t c d : Value} {x y : Bool} (h1 : PySem.W.kitOne K t c = some x) (h2 : PySem.W.kitOne K t d = some y) : PySem.W.kitAny K t [c, d] = some (x || y) := by
  refine kitAny_cons h1 (fun e => ?_) (fun e => by rw [e]; rfl)
  refine kitAny_cons h2 (fun e2 => ?_) (fun e2 => by rw [e, e2]; rfl)
  rw [e, e2]
  rfl
theorem thing_seq {K : PySem.W.Frag} {H : Hp} {v : V} (h : ThingAt K H v) (n : ∀ a, v = .ref a → (∀ xs, H a ≠ some (.lst xs)) ∧ (∀ o xs, H a ≠ some (.frz o (.lst xs))) ∧ ∀ xs, H a ≠ some (.tup xs)) : isSeq K H v false := by
  cases v with
  | non => exact ⟨.type "NoneType", .non, kitAny2 (x := false) (y := false) (kit_ty (by decide +kernel)) (kit_ty (by decide +kernel))⟩
  | bl b => exact ⟨_, .bl b, kitAny2 (x := false) (y := false) (kit_ty (by show kitB "bool" "list" = some false; decide +kernel)) (kit_ty (by show kitB "bool" "tuple" = some false; decide +kernel))⟩
  | int i => exact ⟨_, .int i, kitAny2 (x := false) (y := false) (kit_ty (by show kitB "int" "list" = some false; decide +kernel)) (kit_ty (by show kitB "int" "tuple" = some false; decide +kernel))⟩
  | str z => exact ⟨_, .str z, kitAny2 (x := false) (y := false) (kit_ty (by show kitB "str" "list" = some false; decide +kernel)) (kit_ty (by show kitB "str" "tuple" = some false; decide +kernel))⟩
  | ref a =>
    rcases h with ⟨t, h1, h2⟩ | ⟨C, h1, h2⟩
    · obtain ⟨n1, n2, n3⟩ := n a rfl
      have e : t = "dict" := by
        clear h2
        generalize hv : V.ref a = w at h1
        generalize ht : Value.type t = u at h1
        cases h1 with
        | lst e => cases hv; exact absurd e (n1 _)
        | frz e => cases hv; exact absurd e (n2 _ _)
        | tup e => cases hv; exact absurd e (n3 _)
        | dK e => exact Value.type.inj ht
        | dT e => exact Value.type.inj ht
        | _ => first | (cases ht; done) | (cases hv; done)
      subst e
      exact ⟨_, h1, kitAny2 (x := false) (y := false) (kit_ty (by decide +kernel)) (kit_ty (by decide +kernel))⟩
    · exact ⟨_, h1, kitAny2 (x := false) (y := false) (h2 _ (by decide)) (h2 _ (by decide))⟩
  | byt _ => exact h.elim
  | flt _ => exact h.elim
  | ty _ => exact h.elim
theorem lst_seq {K : PySem.W.Frag} {H : Hp} {a : Addr} {xs : List V} (h : H a = some (.lst xs)) : isSeq K H (.ref a) true := ⟨_, .lst h, kitAny2 (x := true) (y := false) (kit_ty (by decide +kernel)) (kit_ty (by decide +kernel))⟩
theorem tup_seq {K : PySem.W.Frag} {H : Hp} {a : Addr} {xs : List V} (h : H a = some (.tup xs)) : isSeq K H (.ref a) true := ⟨_, .tup h, kitAny2 (x := false) (y := true) (kit_ty (by decide +kernel)) (kit_ty (by decide +kernel))⟩
theorem dct_seq {K : PySem.W.Frag} {H : Hp} {a : Addr} {kvs : List (Key × V)} (h : H a = some (.dK kvs)) : isSeq K H (.ref a) false := ⟨_, .dK h, kitAny2 (x := false) (y := false) (kit_ty (by decide +kernel)) (kit_ty (by decide +kernel))⟩
/-- isinstance(x, (list, tuple)) -/
theorem rd_isiLT {K : PySem.W.Frag} {H : Hp} {Q : VK} {v : V} {b : Bool} {tp : Addr} (h : isSeq K H v b) (ht : H tp = some (.tup [.ty "list", .ty "tuple"])) (q : Q (.bl b) H) : rIsiT K [v, .ref tp] H Q := by
  obtain ⟨t, ty, k⟩ := h
  exact ⟨v, tp, _, t, [.type "list", .type "tuple"], b, rfl, ht, .cons (.ty _) (.cons (.ty _) .nil), .base ty, k, q⟩
theorem isSeq.keep {K : PySem.W.Frag} {H H' : Hp} {v : V} {b : Bool} (h : isSeq K H v b) (s : Same H H') : isSeq K H' v b := by
  obtain ⟨t, ty, k⟩ := h
  exact ⟨t, tyof_keep ty s, k⟩
def isLet (c : Nat) : Bool := decide (97 ≤ c ∧ c ≤ 122)
def nameS (z : Str) : Bool := decide (1 ≤ z.length ∧ z.length ≤ 8) && z.cps.toList.all isLet
def nameV : V → Bool
  | .str z => nameS z
  | _ => false
theorem name_lenV {z : Str} (h : nameS z = true) : z.length ≤ 100000 := by
  unfold nameS at h
  have := of_decide_eq_true (Bool.and_eq_true_iff.mp h).1
  omega
theorem lets_list : (Str.ofString "abcdefghijklmnopqrstuvwxyz").cps.toList = (List.range 26).map (97 + ·) := by decide +kernel
theorem isLet_in (c : Nat) : decide (c ∈ (Str.ofString "abcdefghijklmnopqrstuvwxyz").cps.toList) = isLet c := by
  rw [lets_list]
  unfold isLet
  congr 1
  rw [eq_iff_iff, List.mem_map]
  constructor
  · rintro ⟨a, ha, rfl⟩
    have := List.mem_range.mp ha
    omega
  · intro h
    exact ⟨c - 97, List.mem_range.mpr (by omega), by omega⟩
/-- a word: a text, not long; or a thing of another kind -/
def WordAt (K : PySem.W.Frag) (H : Hp) (v : V) : Prop := (∃ z : Str, v = .str z ∧ z.length ≤ 100000) ∨ ∃ t : String, TyX K H v (.type t) ∧ kitB t "str" = some false
theorem tyx_keep {K : PySem.W.Frag} {H H' : Hp} {v : V} {t : Value} (h : TyX K H v t) (e : Same H H') : TyX K H' v t := by
  cases h with
  | base b =>
    refine .base ?_
    cases b with
    | non => exact .non
    | bl x => exact .bl x
    | int i => exact .int i
    | str x => exact .str x
    | flt x => exact .flt x
    | lst h => exact .lst (e _ _ h)
    | frz h => exact .frz (e _ _ h)
    | tup h => exact .tup (e _ _ h)
    | dK h => exact .dK (e _ _ h)
    | dT h => exact .dT (e _ _ h)
    | ins h a b c d m => exact .ins (e _ _ h) a b c d m
  | byt b => exact .byt b
  | set h => exact .set (e _ _ h)
  | kList a b => exact .kList a b
  | kTuple a b => exact .kTuple a b
  | kDict a b => exact .kDict a b
  | fTuple h => exact .fTuple (e _ _ h)
  | fDict h => exact .fDict (e _ _ h)
theorem WordAt.keep {K : PySem.W.Frag} {H H' : Hp} {v : V} (h : WordAt K H v) (e : Same H H') : WordAt K H' v := by
  rcases h with h | ⟨t, h, k⟩
  · exact .inl h
  · exact .inr ⟨t, tyx_keep h e, k⟩
/-! the number that a word writes -/
def isFig (c : Nat) : Bool := decide (48 ≤ c ∧ c ≤ 57)
def numOf (z : Str) : Option Int :=
  if 1 ≤ z.length ∧ z.length ≤ 12 ∧ z.cps.toList.all isFig = true ∧ ¬ (z.cps.toList.head? = some 48 ∧ z.length ≠ 1) then some ((PySem.NumText.digitsVal z.cps.toList : Nat) : Int) else none
def numV : Option Int → V
  | none => .non
  | some n => .int n
theorem figs : (Str.ofString "0123456789").cps.toList = [48, 49, 50, 51, 52, 53, 54, 55, 56, 57] := by decide +kernel
theorem isFig_in (c : Nat) : decide (c ∈ (Str.ofString "0123456789").cps.toList) = isFig c := by
  rw [figs]
  unfold isFig
  congr 1
  simp only [List.mem_cons, List.not_mem_nil, or_false, eq_iff_iff]
  omega
theorem sign_eq (c d : Nat) : ((⟨#[c]⟩ : Str) = ⟨#[d]⟩) ↔ c = d := ⟨fun h => by
  have h2 : (#[c] : Array Nat) = #[d] := congrArg Str.cps h
  simpa using h2, fun h => by rw [h]⟩
theorem zero_text : Str.ofString "0" = ⟨#[48]⟩ := by decide +kernel
theorem is_zero_text (z : Str) (h : z.cps.toList.head? = some 48) : (z = Str.ofString "0") ↔ z.length = 1 := by
  obtain ⟨⟨l⟩⟩ := z
  rw [zero_text]
  cases l with
  | nil => simp at h
  | cons a r =>
    have e : a = 48 := by simpa using h
    subst e
    constructor
    · intro z
      cases z
      rfl
    · intro z
      have z2 : r.length + 1 = 1 := z
      have z3 : r = [] := List.length_eq_zero_iff.mp (by omega)
      rw [z3]
theorem numOf_out {z : Str} (h : ¬ (1 ≤ z.length ∧ z.length ≤ 12)) : numOf z = none := by
  unfold numOf
  rw [if_neg]
  rintro ⟨a, b, _⟩
  exact h ⟨a, b⟩
theorem numOf_fig {z : Str} (h : ¬ z.cps.toList.all isFig = true) : numOf z = none := by
  unfold numOf
  rw [if_neg]
  rintro ⟨a, b, c, _⟩
  exact h c
theorem numOf_zero {z : Str} (h : z.cps.toList.head? = some 48) (h1 : z.length ≠ 1) : numOf z = none := by
  unfold numOf
  rw [if_neg]
  rintro ⟨a, b, c, d⟩
  exact d ⟨h, h1⟩
theorem numOf_some {z : Str} (h1 : 1 ≤ z.length) (h2 : z.length ≤ 12) (h3 : z.cps.toList.all isFig = true) (h4 : ¬ (z.cps.toList.head? = some 48 ∧ z.length ≠ 1)) : numOf z = some ((PySem.NumText.digitsVal z.cps.toList : Nat) : Int) := by
  unfold numOf
  rw [if_pos ⟨h1, h2, h3, h4⟩]
theorem head_at {z : Str} (h : 1 ≤ z.length) : ∃ c, z.cps.toList.head? = some c ∧ atI z.cps.toList (0 : Int) = some c := by
  obtain ⟨⟨l⟩⟩ := z
  cases l with
  | nil => exact absurd h (by decide)
  | cons a r => exact ⟨a, rfl, atI0⟩
theorem all_digits {l : List Nat} (h : l.all isFig = true) : PySem.NumText.AllDigits l := fun c hc => by
  have := List.all_eq_true.mp h c hc
  exact of_decide_eq_true this
def sg (c : Nat) : Str := ⟨#[c]⟩
theorem joinL_one (cs : List Nat) : TL.joinL [] (cs.map fun c => [c]) = cs := by
  induction cs with
  | nil => rfl
  | cons a r ih =>
    cases r with
    | nil => rfl
    | cons b r =>
      show [a] ++ ([] ++ TL.joinL [] ((b :: r).map fun c => [c])) = a :: b :: r
      rw [ih]
      rfl
theorem join_sg (cs : List Nat) : (Txt.join (Str.ofString "") (cs.map sg)).cps.toList = cs := by
  have h := TL.tl_join (Str.ofString "") (cs.map sg)
  have e : TL.tl (Str.ofString "") = [] := by decide +kernel
  rw [e, List.map_map] at h
  rw [TL.join_eq]
  exact h.trans (joinL_one cs)
theorem lett_len : (Str.ofString "abcdefghijklmnopqrstuvwxyz").length = 26 := by decide +kernel
theorem lett_at {k : Nat} (h : k < 26) : atI (Str.ofString "abcdefghijklmnopqrstuvwxyz").cps.toList (k : Int) = some (97 + k) := by
  refine atI_nat ?_
  rw [lets_list, List.getElem?_map, List.getElem?_range h]
  rfl
theorem cut_to {z : Str} {n : Nat} : (cutS z none (some (n : Int))).cps.toList = z.cps.toList.take n := by
  show ((z.cps.toList.drop 0).take (HT.sIx z.length z.length (some (n : Int)) - 0)) = _
  rw [HT.sIx_nat, List.drop_zero, Nat.sub_zero]
  have : z.length = z.cps.toList.length := by simp [Str.length]
  rw [this, List.take_eq_take_iff]
  omega
theorem cut_ft {z : Str} {m n : Nat} : (cutS z (some (m : Int)) (some (n : Int))).cps.toList = (z.cps.toList.take n).drop m := by
  show ((z.cps.toList.drop (HT.sIx z.length 0 (some (m : Int)))).take (HT.sIx z.length z.length (some (n : Int)) - HT.sIx z.length 0 (some (m : Int)))) = _
  have : z.length = z.cps.toList.length := by simp [Str.length]
  rw [HT.sIx_nat, HT.sIx_nat, this, List.drop_take]
  by_cases h : m ≤ z.cps.toList.length
  · rw [Nat.min_eq_left h, List.take_eq_take_iff, List.length_drop]
    omega
  · rw [List.drop_eq_nil_of_le (by omega), List.drop_eq_nil_of_le (by omega), List.take_nil, List.take_nil]
theorem len_list (z : Str) : z.length = z.cps.toList.length := by simp [Str.length]
theorem toList_app (a b : Str) : (a ++ b).cps.toList = a.cps.toList ++ b.cps.toList := by
  show (a.cps ++ b.cps).toList = _
  rw [Array.toList_append]
theorem name_of {z : Str} (h1 : 1 ≤ z.cps.toList.length) (h8 : z.cps.toList.length ≤ 8) (h : ∀ c ∈ z.cps.toList, isLet c = true) : nameS z = true := by
  unfold nameS
  rw [len_list, decide_eq_true ⟨h1, h8⟩, Bool.true_and]
  exact List.all_eq_true.mpr h
theorem isLet_at (k : Nat) (h : k < 26) : isLet (97 + k) = true := decide_eq_true (by omega)
theorem nodup_map {f : Nat → Str} {m : Nat} (h : ∀ i j, i < m → j < m → i ≠ j → f i ≠ f j) : ((List.range m).map f).Nodup := by
  unfold List.Nodup
  rw [List.pairwise_map]
  exact List.Pairwise.imp_of_mem (fun {a b} ha hb hab => h a b (List.mem_range.mp ha) (List.mem_range.mp hb) hab) List.nodup_range
/-- a comprehension over 0 .. n - 1, its element a function of the number -/
theorem lcgo_rng {σ : L2.St} {Q : VK} {te : TE} {vs : List Nat} {k : Nat} {f : Nat → V} {n : Nat} {H : Hp} (hz : n ≤ 100000) (hw : ∀ x, wipe ((wipe σ vs).set k (some x)) vs = wipe σ vs)
    (he : ∀ (i : Nat) (H' : Hp) (Q' : VK), i < n → Q' (f i) H' → te ((wipe σ vs).set k (some (.int i))) H' Q')
    (hq : ∀ D, H D = none → Q (.ref D) (upd H D (.lst ((List.range n).map f)))) : LcGo (Itr 0 n) (gName k) tYes (tFrm te) vs σ H Q := by
  refine lcgoF walk_range hz (fun i x => x = .int (i : Nat)) (fun i H x H' _ _ y => ⟨y.1, y.2.trans (congrArg V.int (Int.zero_add _))⟩) hw (fun i acc H' => H' = H ∧ acc = (List.range i).map f) ⟨rfl, rfl⟩ (fun _ _ _ _ _ _ _ => trivial) ?_ ?_
  · rintro i x acc H' Qc hin hla ⟨rfl, ha⟩ rfl hq'
    refine he i _ _ hin (hq' _ _ ⟨rfl, ?_⟩)
    rw [List.range_succ, List.map_append, ← ha]
    rfl
  · rintro acc H' D hla ⟨rfl, ha⟩ hD
    subst ha
    exact hq D hD
theorem kb_free {p : Addr} {n : Nat} {H H' : Hp} (k : KeepB p H H') (b : BoxAt H' p n) {x : Addr} (h : H' x = none) : H x = none := by
  cases e : H x with
  | none => rfl
  | some o =>
    have np : x ≠ p := fun z => by
      obtain ⟨_, _, _, e2, _⟩ := b
      rw [z, e2] at h
      cases h
    rw [k x o e np] at h
    cases h

/-! ### texts: split; comprehensions over drawn pairs -/
theorem rd_split {Q : VK} {H : Hp} {a b : Str} (hb : (b.length == 0) = false) (hz : a.length ≤ 100000) (q : ∀ p H', Nn H p → Same H H' → H' p = some (.lst ((Txt.split a b).map V.str)) → Q (.ref p) H') : ∃ a' b', V.str a = .str a' ∧ [V.str b] = [.str b'] ∧ (b'.length == 0) = false ∧ a'.length + 2 ≤ sizeLine ∧ rNewStrs (Txt.split a' b') H Q :=
  ⟨a, b, rfl, rfl, hb, Nat.le_trans (Nat.add_le_add_right hz 2) (by decide), fun p hp => q p _ ⟨hp⟩ (fun b x e => by rw [upd_ne (ne_of_none e hp)]; exact e) upd_same⟩
theorem cnt_nn (c : Nat) : ∀ l : List Nat, 0 ≤ PyProof.Rows.cnt c l ∧ PyProof.Rows.cnt c l ≤ l.length
  | [] => ⟨Int.le_refl _, Int.le_refl _⟩
  | x :: r => by
    obtain ⟨h1, h2⟩ := cnt_nn c r
    unfold PyProof.Rows.cnt at h1 h2 ⊢
    simp only [List.map_cons, Spec.countIn, List.length_cons]
    split <;> omega
theorem le_sumN : ∀ {xs : List Nat} {n : Nat}, n ∈ xs → n ≤ xs.sum
  | x :: r, n, h => by
    rw [List.sum_cons]
    rcases List.mem_cons.mp h with rfl | h
    · omega
    · have := le_sumN h
      omega
theorem part_len {s z : Str} {c : Nat} (h : z ∈ Txt.split s ⟨#[c]⟩) : z.length ≤ s.length := by
  have e := PySem.StrLaws.join_split s ⟨#[c]⟩
  have g := size_glued (⟨#[c]⟩ : Str) (Txt.split s ⟨#[c]⟩)
  rw [PySem.StrLaws.glued_eq_join, e] at g
  have := le_sumN (List.mem_map_of_mem (f := fun x : Str => x.length) h)
  rw [g]
  omega
theorem split_cnt {s : Str} {c : Nat} : 1 ≤ (Txt.split s ⟨#[c]⟩).length ∧ (Txt.split s ⟨#[c]⟩).length ≤ s.length + 1 := by
  have e := PyProof.Rows.split_len s c
  obtain ⟨h1, h2⟩ := cnt_nn c s.cps.toList
  have : s.length = s.cps.toList.length := by simp [Str.length]
  omega
/-- a comprehension over pairs that are drawn as new tuples -/
theorem upd_comm {H : Hp} {a b : Addr} {o u : HO} (h : a ≠ b) : upd (upd H a o) b u = upd (upd H b u) a o := by
  funext c
  by_cases e1 : c = a
  · subst e1
    rw [upd_ne h, upd_same, upd_same]
  · by_cases e2 : c = b
    · subst e2
      rw [upd_same, upd_ne e1, upd_same]
    · rw [upd_ne e2, upd_ne e1, upd_ne e1, upd_ne e2]
theorem lcPair {K : PySem.W.Frag} {σ : L2.St} {H : Hp} {Q : VK} {J : It} {n : Nat} {G : Hp → Prop} {te : TE} {vs : List Nat} {k1 k2 : Nat} {fx fy : Nat → Option V} (w : Walk J n G (YPair fx fy)) (hz : n ≤ 100000) (hG : ∀ H', Same H H' → G H')
    (P : Nat → List V → Hp → Prop) (h0 : P 0 [] H) (keep : ∀ i acc H1 H2, Same H1 H2 → P i acc H1 → P i acc H2)
    (hw : ∀ x y, wipe (((wipe σ vs).set k1 (some x)).set k2 (some y)) vs = wipe σ vs)
    (he : ∀ i x y acc H' (Q' : VK), i < n → acc.length = i → fx i = some x → fy i = some y → Same H H' → P i acc H' → (∀ z H2, Same H' H2 → P (i + 1) (acc ++ [z]) H2 → Q' z H2) → te (((wipe σ vs).set k1 (some x)).set k2 (some y)) H' Q')
    (hq : ∀ acc D H', Same H H' → H' D = none → acc.length = n → P n acc H' → Q (.ref D) (upd H' D (.lst acc))) : LcGo J (gTup K 2 (gCons (gName k1) (gCons (gName k2) gNil))) tYes (tFrm te) vs σ H Q := by
  refine fun D hD => lc_yes w (fun i acc Hc => ∃ H0, Hc = upd H0 D (.lst acc) ∧ H0 D = none ∧ Same H H0 ∧ P i acc H0) ⟨H, rfl, hD, Same.refl _, h0⟩ (fun i acc Hc hi ⟨H0, e, hn, s, p⟩ => e ▸ hG _ (s.trans (same_new hn))) ?_ ?_
  · rintro i x acc Hc Hd hi hla hDa ⟨H0, rfl, hn, s, p⟩ ⟨tt, u, v, rfl, hT0, rfl, hu, hv⟩
    have ntD : tt ≠ D := fun z => by
      rw [z, upd_same] at hT0
      cases hT0
    have hT1 : H0 tt = none := by
      rw [upd_ne ntD] at hT0
      exact hT0
    rw [upd_comm ntD.symm]
    have hn2 : (upd H0 tt (.tup [u, v])) D = none := by rw [upd_ne ntD.symm]; exact hn
    refine ⟨tt, [u, v], rfl, sqT_of (by rw [upd_ne ntD, upd_same]), rfl, _, _, rfl, _, _, rfl, rfl, hw _ _, D, acc, upd_same, ?_⟩
    rw [wo_upd hn2]
    have sT : Same H0 (upd H0 tt (.tup [u, v])) := same_new hT1
    exact he i u v acc _ _ hi hla hu hv (s.trans sT) (keep _ _ _ _ sT p) fun z H2 s2 p2 hD2 => lcK (acc := acc) upd_same hla hi hz ⟨H2, by rw [upd_upd], hD2, (s.trans sT).trans s2, p2⟩
  · rintro acc Hc hla hDa ⟨H0, rfl, hn, s, p⟩
    exact hq acc D H0 s hn hla p
theorem rd_fmt {Q : VK} {H : Hp} {a : Str} {c : Nat} {b : Str} (hb : b = ⟨#[c]⟩) (hz : a.length ≤ 90000) (q : ∀ p H', Nn H p → Same H H' → H' p = some (.lst ((Txt.split a b).map V.str)) → (Txt.split a b).length ≤ a.length + 1 → 1 ≤ (Txt.split a b).length → (∀ z ∈ Txt.split a b, z.length ≤ a.length) → Q (.ref p) H') : ∃ a' b', V.str a = .str a' ∧ [V.str b] = [.str b'] ∧ (b'.length == 0) = false ∧ a'.length + 2 ≤ sizeLine ∧ rNewStrs (Txt.split a' b') H Q := by
  subst hb
  obtain ⟨s1, s2⟩ := split_cnt (s := a) (c := c)
  exact rd_split rfl (by omega) fun p H' n s e => q p H' n s e s2 s1 fun z hz => part_len hz
theorem blank_is : Str.ofString " " = ⟨#[32]⟩ := by decide +kernel
theorem feed_is : Str.ofString "\n" = ⟨#[10]⟩ := by decide +kernel
/-- a comprehension that keeps the items of a test, which may make new things -/
theorem lcFilt {α : Type} {σ : L2.St} {H : Hp} {Q : VK} {J : It} {G : Hp → Prop} {te : TE} {tt : TT} {vs : List Nat} {k : Nat} {xs : List V} {ws : List α} (g0 : α → V) (ex : xs = ws.map g0) (w : Walk J xs.length G (YAt xs)) (hz : ws.length ≤ 100000) (hG : ∀ H', Same H H' → G H') (f : α → Bool) (g : α → V)
    (hw : ∀ x, wipe ((wipe σ vs).set k (some x)) vs = wipe σ vs)
    (ht : ∀ u ∈ ws, ∀ H' (P : Bool → Hp → Prop), Same H H' → (∀ H2, Same H' H2 → P (f u) H2) → tt ((wipe σ vs).set k (some (g0 u))) H' P)
    (he : ∀ u ∈ ws, f u = true → ∀ H' (Q' : VK), Same H H' → (∀ H2, Same H' H2 → Q' (g u) H2) → te ((wipe σ vs).set k (some (g0 u))) H' Q')
    (hq : ∀ D H', Nn H D → Same H H' → H' D = some (.lst ((ws.filter f).map g)) → Q (.ref D) H') : LcGo J (gName k) tt (tFrm te) vs σ H Q := by
  subst ex
  refine fun D hD => lc_it w (fun i Hc => ∃ acc H0, acc.length ≤ i ∧ Hc = upd H0 D (.lst acc) ∧ H0 D = none ∧ Same H H0 ∧ acc = ((ws.take i).filter f).map g) ⟨[], H, Nat.le_refl _, rfl, hD, Same.refl _, rfl⟩ (fun i Hc hi ⟨acc, H0, _, e, hn, s, _⟩ => e ▸ hG _ (s.trans (same_new hn))) ?_ ?_
  · rintro i x Hc Hd hi ⟨acc, H0, hla, rfl, hn, s, p⟩ ⟨e0, hx⟩
    subst e0
    rw [List.getElem?_map] at hx
    rw [List.length_map] at hi
    obtain ⟨u, hu, rfl⟩ := Option.map_eq_some_iff.mp hx
    have mx := List.mem_of_getElem? hu
    refine ⟨hw _, ?_⟩
    refine ht u mx _ _ (s.trans (same_new hn)) fun H3 s3 => ?_
    have e3 : H3 D = some (.lst acc) := s3 _ _ upd_same
    have sW : Same H (Wo D H3) := fun b o e => by
      have n : b ≠ D := ne_of_none e hD
      rw [wo_ne n]
      exact s3 _ _ (by rw [upd_ne n]; exact s _ _ e)
    have uw : upd (Wo D H3) D (.lst acc) = H3 := by
      funext b
      by_cases e : b = D
      · subst e
        rw [upd_same, e3]
      · rw [upd_ne e, wo_ne e]
    cases hf : f u with
    | false =>
      refine iteF ⟨acc, Wo D H3, by omega, uw.symm, wo_same, sW, ?_⟩
      rw [List.take_add_one, hu, List.filter_append]
      show acc = (List.filter f (ws.take i) ++ List.filter f [u]).map g
      rw [List.filter_cons, hf]
      simpa using p
    | true =>
      refine iteT ⟨D, acc, e3, ?_⟩
      refine he u mx hf _ _ sW fun H4 s4 hD4 => ⟨acc, upd_same, Nat.lt_of_lt_of_le (show acc.length < 100000 by omega) (by decide), acc ++ [g u], H4, by rw [List.length_append]; show acc.length + 1 ≤ i + 1; omega, by rw [upd_upd], hD4, sW.trans s4, ?_⟩
      rw [List.take_add_one, hu, List.filter_append]
      show acc ++ [g u] = (List.filter f (ws.take i) ++ List.filter f [u]).map g
      rw [List.filter_cons, hf, p]
      simp
  · rintro Hc ⟨acc, H0, hla, rfl, hn, s, p⟩
    rw [List.length_map, List.take_length] at p
    exact hq D _ ⟨hD⟩ (s.trans (same_new hn)) (by rw [upd_same, p])
/-- .. of pairs, with a test -/
theorem lcPairF {K : PySem.W.Frag} {σ : L2.St} {H : Hp} {Q : VK} {J : It} {n : Nat} {G : Hp → Prop} {te : TE} {tt : TT} {vs : List Nat} {k1 k2 : Nat} {fx fy : Nat → Option V} (w : Walk J n G (YPair fx fy)) (hz : n ≤ 100000) (hG : ∀ H', Same H H' → G H') (f : Nat → Bool) (g : Nat → V)
    (hw : ∀ x y, wipe (((wipe σ vs).set k1 (some x)).set k2 (some y)) vs = wipe σ vs)
    (ht : ∀ i x y H' (P : Bool → Hp → Prop), i < n → fx i = some x → fy i = some y → Same H H' → (∀ H2, Same H' H2 → P (f i) H2) → tt (((wipe σ vs).set k1 (some x)).set k2 (some y)) H' P)
    (he : ∀ i x y H' (Q' : VK), i < n → f i = true → fx i = some x → fy i = some y → Same H H' → (∀ H2, Same H' H2 → Q' (g i) H2) → te (((wipe σ vs).set k1 (some x)).set k2 (some y)) H' Q')
    (hq : ∀ D H', Nn H D → Same H H' → H' D = some (.lst (((List.range n).filter f).map g)) → Q (.ref D) H') : LcGo J (gTup K 2 (gCons (gName k1) (gCons (gName k2) gNil))) tt (tFrm te) vs σ H Q := by
  refine fun D hD => lc_it w (fun i Hc => ∃ acc H0, acc.length ≤ i ∧ Hc = upd H0 D (.lst acc) ∧ H0 D = none ∧ Same H H0 ∧ acc = ((List.range i).filter f).map g) ⟨[], H, Nat.le_refl _, rfl, hD, Same.refl _, rfl⟩ (fun i Hc hi ⟨acc, H0, _, e, hn, s, _⟩ => e ▸ hG _ (s.trans (same_new hn))) ?_ ?_
  · rintro i x Hc Hd hi ⟨acc, H0, hla, rfl, hn, s, p⟩ ⟨tp, u, v, rfl, hT0, rfl, hu, hv⟩
    have ntD : tp ≠ D := fun z => by
      rw [z, upd_same] at hT0
      cases hT0
    have eT : (upd (upd H0 D (.lst acc)) tp (.tup [u, v])) tp = some (.tup [u, v]) := upd_same
    have sT : Same (upd H0 D (.lst acc)) (upd (upd H0 D (.lst acc)) tp (.tup [u, v])) := same_new hT0
    have eD : (upd (upd H0 D (.lst acc)) tp (.tup [u, v])) D = some (.lst acc) := by rw [upd_ne ntD.symm, upd_same]
    generalize upd (upd H0 D (.lst acc)) tp (.tup [u, v]) = He at eT sT eD
    refine ⟨tp, [u, v], rfl, sqT_of eT, rfl, _, _, rfl, _, _, rfl, rfl, hw _ _, ?_⟩
    have s0e : Same H He := (s.trans (same_new hn)).trans sT
    refine ht i u v _ _ hi hu hv s0e fun H3 s3 => ?_
    have e3 : H3 D = some (.lst acc) := s3 _ _ eD
    have sW : Same H (Wo D H3) := fun b o e => by
      have nb : b ≠ D := ne_of_none e hD
      rw [wo_ne nb]
      exact s3 _ _ (s0e _ _ e)
    have uw : upd (Wo D H3) D (.lst acc) = H3 := by
      funext b
      by_cases e : b = D
      · subst e
        rw [upd_same, e3]
      · rw [upd_ne e, wo_ne e]
    have er : List.range (i + 1) = List.range i ++ [i] := List.range_succ
    cases hf : f i with
    | false =>
      refine iteF ⟨acc, Wo D H3, by omega, uw.symm, wo_same, sW, ?_⟩
      rw [er, List.filter_append, List.filter_cons, hf]
      simpa using p
    | true =>
      refine iteT ⟨D, acc, e3, ?_⟩
      refine he i u v _ _ hi hf hu hv sW fun H4 s4 hD4 => ⟨acc, upd_same, Nat.lt_of_lt_of_le (show acc.length < 100000 by omega) (by decide), acc ++ [g i], H4, by rw [List.length_append]; show acc.length + 1 ≤ i + 1; omega, by rw [upd_upd], hD4, sW.trans s4, ?_⟩
      rw [er, List.filter_append, List.filter_cons, hf, p]
      simp
  · rintro Hc ⟨acc, H0, hla, rfl, hn, s, p⟩
    exact hq D _ ⟨hD⟩ (s.trans (same_new hn)) (by rw [upd_same, p])

/-- a channel's numbers and names -/
structure Ch where
  name : Str
  one : Str
  other : Str
  hours : Int
  depth : Int
  first : Int
  growth : Int
  most : Int
def chOk (c : Ch) : Prop := 0 ≤ c.first ∧ c.first ≤ 1000000 ∧ 1 ≤ c.hours ∧ c.hours ≤ 1000 ∧ 0 ≤ c.depth ∧ c.depth ≤ 1000 ∧ 0 ≤ c.growth ∧ c.growth ≤ 1000 ∧ c.first ≤ c.most ∧ c.most ≤ 1000000
def chV (c : Ch) : List V := [.str c.name, .str c.one, .str c.other, .int c.hours, .int c.depth, .int c.first, .int c.growth, .int c.most]
def chF (c : Ch) : List (Str × V) := [("name", .str c.name), ("one", .str c.one), ("other", .str c.other), ("hours", .int c.hours), ("depth", .int c.depth), ("first", .int c.first), ("growth", .int c.growth), ("most", .int c.most)]
theorem chl_name (c : Ch) : (chF c).lookup ("name" : Str) = some (.str c.name) := by kernel_rfl
theorem chl_one (c : Ch) : (chF c).lookup ("one" : Str) = some (.str c.one) := by kernel_rfl
theorem chl_other (c : Ch) : (chF c).lookup ("other" : Str) = some (.str c.other) := by kernel_rfl
theorem chl_hours (c : Ch) : (chF c).lookup ("hours" : Str) = some (.int c.hours) := by kernel_rfl
theorem chl_depth (c : Ch) : (chF c).lookup ("depth" : Str) = some (.int c.depth) := by kernel_rfl
theorem chl_first (c : Ch) : (chF c).lookup ("first" : Str) = some (.int c.first) := by kernel_rfl
theorem chl_growth (c : Ch) : (chF c).lookup ("growth" : Str) = some (.int c.growth) := by kernel_rfl
theorem chl_most (c : Ch) : (chF c).lookup ("most" : Str) = some (.int c.most) := by kernel_rfl
local macro_rules | `(tactic| walk_at "lk") => `(tactic| with_reducible first | exact My.chl_name _ | exact My.chl_one _ | exact My.chl_other _ | exact My.chl_hours _ | exact My.chl_depth _ | exact My.chl_first _ | exact My.chl_growth _ | exact My.chl_most _)
def putAll : List (Str × V) → List (Str × V) → List (Str × V)
  | [], fs => fs
  | (f, v) :: r, fs => putAll r (putF f v fs)
theorem ch_put (c : Ch) : putF "most" (.int c.most) (putF "growth" (.int c.growth) (putF "first" (.int c.first) (putF "depth" (.int c.depth) (putF "hours" (.int c.hours) (putF "other" (.str c.other) (putF "one" (.str c.one) (putF "name" (.str c.name) []))))))) = chF c := by kernel_rfl
theorem putF_len (f : Str) (v : V) : ∀ fs : List (Str × V), (putF f v fs).length ≤ fs.length + 1
  | [] => by simp [putF]
  | (g, x) :: r => by
    unfold putF
    split
    · simp
    · have := putF_len f v r
      simp only [List.length_cons]
      omega
/-- the first of a list that is not so -/
theorem find_step {α : Type} {f : α → Bool} {xs : List α} {i : Nat} {x : α} (h : (xs.take i).find? f = none) (hx : xs[i]? = some x) : (f x = false → (xs.take (i + 1)).find? f = none) ∧ (f x = true → xs.find? f = some x) := by
  have e : xs.take (i + 1) = xs.take i ++ [x] := by rw [List.take_add_one, hx]; rfl
  have e2 : (xs.take (i + 1)).find? f = [x].find? f := by rw [e, List.find?_append, h, Option.none_or]
  refine ⟨fun hf => ?_, fun hf => ?_⟩
  · rw [e2, List.find?_cons, hf]
    rfl
  · rw [← List.take_append_drop (i + 1) xs, List.find?_append, e2, List.find?_cons, hf]
    rfl
/-- the first refusal that is due of the eight things of a channel: which (0 NoName, 1 Doubled, 2 NoNumber), and of what -/
def intOf : V → Int
  | .int i => i
  | _ => 0
def badN (r : V × Int × Int) : Bool := !withinV r.1 r.2.1 r.2.2
def chanRef (nm one oth h d f g m : V) : Option (Nat × V) :=
  match [nm, one, oth].find? (fun v => !nameV v) with
  | some v => some (0, v)
  | none => if one = oth then some (1, one) else
    match [(h, 1, 1000), (d, 0, 1000), (f, 0, 1000000)].find? badN with
    | some r => some (2, r.1)
    | none => match [(g, 0, 1000), (m, intOf f, 1000000)].find? badN with
      | some r => some (2, r.1)
      | none => none
theorem KeepB.put {a : Addr} {H H' : Hp} {o : HO} (k : KeepB a H H') : KeepB a H (upd H' a o) := fun b x h n => by
  rw [upd_ne n]
  exact k b x h n
theorem name_str {v : V} (h : nameV v = true) : ∃ z : Str, v = .str z := by
  cases v with
  | str z => exact ⟨z, rfl⟩
  | _ => cases h
theorem in_int {v : V} {lo hi : Int} (h : badN (v, lo, hi) = false) : ∃ i : Int, v = .int i := by
  cases v with
  | int i => exact ⟨i, rfl⟩
  | _ => cases h
/-- a vessel (kind 0), a breaker (1), a ship (2) -/
structure Ve where
  kind : Nat
  name : Str
  port : Str
  goal : Str
  hour : Int
  strength : Int
  draught : Int
  cut : Int
def veB (v : Ve) : List (Str × V) := [("name", .str v.name), ("port", .str v.port), ("hour", .int v.hour), ("strength", .int v.strength), ("draught", .int v.draught)]
def veF (v : Ve) : List (Str × V) := match v.kind with
  | 0 => veB v
  | 1 => veB v ++ [(("cut" : Str), V.int v.cut)]
  | _ => veB v ++ [(("goal" : Str), V.str v.goal)]
/-- its row -/
def veV (v : Ve) : List V := match v.kind with
  | 0 => [.str v.name, .str v.port, .int v.hour, .int v.strength, .int v.draught]
  | 1 => [.str v.name, .str v.port, .int v.hour, .int v.strength, .int v.draught, .int v.cut]
  | _ => [.str v.name, .str v.port, .str v.goal, .int v.hour, .int v.strength, .int v.draught]
def veKind : Nat → Str
  | 0 => Str.ofString "vessel"
  | 1 => Str.ofString "breaker"
  | _ => Str.ofString "ship"
def veThins (v : Ve) : Int := if v.kind = 1 then v.cut else 0
/-- the first refusal that is due: (0 NoName | 2 NoNumber), of what -/
def veRef (nm po ho st dr : V) : Option (Nat × V) :=
  match [nm, po].find? (fun v => !nameV v) with
  | some v => some (0, v)
  | none => match [(ho, 0, 1000000), (st, 0, 1000000), (dr, 0, 1000)].find? badN with
    | some r => some (2, r.1)
    | none => none
def brRef (nm po ho st dr cu : V) : Option (Nat × V) := match veRef nm po ho st dr with
  | some r => some r
  | none => if badN (cu, 1, 1000000) = true then some (2, cu) else none
def shRef (nm po go ho st dr : V) : Option (Nat × V) := match [nm, po, go].find? (fun v => !nameV v) with
  | some v => some (0, v)
  | none => veRef nm po ho st dr
/-- a class whose instances may keep what a vessel is made of -/
def SetC (K : PySem.W.Frag) (C : Addr) : Prop := Cls K C ∧ NoAttr K C "name" ∧ NoAttr K C "port" ∧ NoAttr K C "hour" ∧ NoAttr K C "strength" ∧ NoAttr K C "draught"
def veBOn (v : Ve) (fs : List (Str × V)) : List (Str × V) := putF "draught" (.int v.draught) (putF "strength" (.int v.strength) (putF "hour" (.int v.hour) (putF "port" (.str v.port) (putF "name" (.str v.name) fs))))
theorem putF_le (f : Str) (v : V) : ∀ fs : List (Str × V), (putF f v fs).length ≤ fs.length + 1
  | [] => by simp [putF]
  | (g, x) :: r => by
    unfold putF
    split
    · simp
    · have := putF_le f v r
      simp only [List.length_cons]
      omega
def veOk (v : Ve) : Prop := v.kind < 3 ∧ 0 ≤ v.hour ∧ v.hour ≤ 1000000 ∧ 0 ≤ v.strength ∧ v.strength ≤ 1000000 ∧ 0 ≤ v.draught ∧ v.draught ≤ 1000 ∧ 1 ≤ v.cut ∧ v.cut ≤ 1000000
def veNames (v : Ve) : Prop := nameS v.name = true ∧ nameS v.port = true ∧ nameS v.goal = true
theorem veV_0 {v : Ve} (h : v.kind = 0) : veV v = [.str v.name, .str v.port, .int v.hour, .int v.strength, .int v.draught] := by unfold veV; rw [h]; rfl
theorem veV_1 {v : Ve} (h : v.kind = 1) : veV v = [.str v.name, .str v.port, .int v.hour, .int v.strength, .int v.draught, .int v.cut] := by unfold veV; rw [h]; rfl
theorem veV_2 {v : Ve} (h : v.kind = 2) : veV v = [.str v.name, .str v.port, .str v.goal, .int v.hour, .int v.strength, .int v.draught] := by unfold veV; rw [h]; rfl
theorem name_ok {z : Str} (h : nameS z = true) : PyData.strOk z = true := by
  unfold nameS at h
  have h2 := (Bool.and_eq_true_iff.mp h).2
  unfold PyData.strOk
  rw [← Array.all_toList, List.all_eq_true]
  intro c hc
  have h3 : decide (97 ≤ c ∧ c ≤ 122) = true := List.all_eq_true.mp h2 c hc
  have h4 := of_decide_eq_true h3
  exact decide_eq_true (by omega)
theorem name_len {z : Str} (h : nameS z = true) : 1 ≤ z.length ∧ z.length ≤ 8 := by
  unfold nameS at h
  exact of_decide_eq_true (Bool.and_eq_true_iff.mp h).1
theorem mem_map_str {v : V} {ys : List Str} (h : v ∈ ys.map V.str) : ∃ y, v = .str y ∧ y ∈ ys := by
  obtain ⟨y, hy, rfl⟩ := List.mem_map.mp h
  exact ⟨y, rfl, hy⟩

def refsOf {α : Type} (ws : List (Addr × α)) : List V := ws.map fun w => .ref w.1
theorem refs_get {α : Type} {ws : List (Addr × α)} {i : Nat} {x : V} (h : (refsOf ws)[i]? = some x) : ∃ w, ws[i]? = some w ∧ x = .ref w.1 := by
  unfold refsOf at h
  rw [List.getElem?_map] at h
  obtain ⟨w, hw, rfl⟩ := Option.map_eq_some_iff.mp h
  exact ⟨w, hw, rfl⟩
theorem refs_len {α : Type} {ws : List (Addr × α)} : (refsOf ws).length = ws.length := by unfold refsOf; rw [List.length_map]
theorem take_map {α β : Type} {ws : List α} {i : Nat} {w : α} (f : α → β) (h : ws[i]? = some w) : (ws.take (i + 1)).map f = (ws.take i).map f ++ [f w] := by rw [List.take_add_one, h, List.map_append]; rfl
theorem refs_mem {α : Type} {ws : List (Addr × α)} {v : V} (h : v ∈ refsOf ws) : ∃ u ∈ ws, v = .ref u.1 := by
  unfold refsOf at h
  obtain ⟨u, hu, rfl⟩ := List.mem_map.mp h
  exact ⟨u, hu, rfl⟩
theorem refs_app {α : Type} {ws us : List (Addr × α)} : refsOf (ws ++ us) = refsOf ws ++ refsOf us := by
  unfold refsOf
  rw [List.map_append]
section
variable {K : PySem.W.Frag} {σ : L2.St} {H : Hp} {Q : VK}
/-- a comprehension over the addresses of things, its element a function of the thing -/
theorem lcQ {α : Type} {J : It} {G : Hp → Prop} {te : TE} {vs : List Nat} {k : Nat} {ws : List (Addr × α)} (w : Walk J (refsOf ws).length G (YAt (refsOf ws))) (hz : ws.length ≤ 100000) (hG : ∀ H', Same H H' → G H') (f : Addr × α → V)
    (hw : ∀ x, wipe ((wipe σ vs).set k (some x)) vs = wipe σ vs) (he : ∀ u ∈ ws, ∀ Q' : VK, Q' (f u) H → te ((wipe σ vs).set k (some (.ref u.1))) H Q') (hq : ∀ D, H D = none → Q (.ref D) (upd H D (.lst (ws.map f)))) : LcGo J (gName k) tYes (tFrm te) vs σ H Q := by
  refine lcgoF w (by rw [refs_len]; exact hz) (fun i x => (refsOf ws)[i]? = some x) (fun i H x H' _ _ y => y) hw (fun i acc H' => H' = H ∧ acc = (ws.take i).map f) ⟨rfl, rfl⟩ (fun i acc H' D _ p hD => by rw [p.1] at hD ⊢; exact hG _ (same_new hD)) ?_ ?_
  · rintro i x acc H' Qc hi hla ⟨rfl, rfl⟩ hx q'
    obtain ⟨u, hu, rfl⟩ := refs_get hx
    refine he u (List.mem_of_getElem? hu) _ (q' _ _ ⟨rfl, ?_⟩)
    rw [take_map f hu]
  · rintro acc H' D hla ⟨rfl, rfl⟩ hD
    rw [refs_len, List.take_length]
    exact hq D hD
/-- .. its element makes new things -/
theorem lcQn {α : Type} {J : It} {G : Hp → Prop} {te : TE} {vs : List Nat} {k : Nat} {ws : List (Addr × α)} (w : Walk J (refsOf ws).length G (YAt (refsOf ws))) (hz : ws.length ≤ 100000) (hG : ∀ H', Same H H' → G H') (P : List V → List (Addr × α) → Hp → Prop) (h0 : P [] [] H)
    (hw : ∀ x, wipe ((wipe σ vs).set k (some x)) vs = wipe σ vs) (he : ∀ i u acc H' (Q' : VK), ws[i]? = some u → Same H H' → P acc (ws.take i) H' → (∀ y H2, Same H' H2 → P (acc ++ [y]) (ws.take (i + 1)) H2 → Q' y H2) → te ((wipe σ vs).set k (some (.ref u.1))) H' Q')
    (hq : ∀ acc D H', Same H H' → H' D = none → acc.length = ws.length → P acc ws H' → Q (.ref D) (upd H' D (.lst acc))) : LcGo J (gName k) tYes (tFrm te) vs σ H Q := by
  refine lcgoF w (by rw [refs_len]; exact hz) (fun i x => (refsOf ws)[i]? = some x) (fun i H x H' _ _ y => y) hw (fun i acc H' => Same H H' ∧ P acc (ws.take i) H') ⟨Same.refl _, h0⟩ (fun i acc H' D _ p hD => hG _ (p.1.trans (same_new hD))) ?_ ?_
  · rintro i x acc H' Qc hi hla ⟨sH, p⟩ hx q'
    obtain ⟨u, hu, rfl⟩ := refs_get hx
    exact he i u acc H' Qc hu sH p fun y H2 s2 p2 => q' y H2 ⟨sH.trans s2, p2⟩
  · rintro acc H' D hla ⟨sH, p⟩ hD
    rw [refs_len] at hla
    rw [refs_len, List.take_length] at p
    exact hq acc D H' sH hD hla p
end
section
variable {K : PySem.W.Frag} {H : Hp} {Q : VK}
/-- xs[lo:hi], a list -/
theorem rd_slL {a : Addr} {xs : List V} {lo hi : Option Int} (h : SqL K H a xs) (q : ∀ p H', Nn H p → Same H H' → H' p = some (.lst (cutV xs lo hi)) → Q (.ref p) H') : rSlL K (.ref a) lo hi H Q :=
  ⟨a, xs, rfl, h, fun p hp => q p _ ⟨hp⟩ (fun b x e => by rw [upd_ne (ne_of_none e hp)]; exact e) upd_same⟩
theorem rd_listB {p : Addr} {ys : List V} (h : SqA K H p ys) (q : ∀ l H', Nn H l → Same H H' → H' l = some (.lst ys) → Q (.ref l) H') : rListOf K [.ref p] H Q := rd_listOf h fun l H' n => q l H' ⟨n⟩
theorem rd_tupB2 {p : Addr} {ys : List V} (h : SqL K H p ys) (q : ∀ l H', Nn H l → Same H H' → H' l = some (.tup ys) → Q (.ref l) H') : rTupOf K [.ref p] H Q := rd_tupOf h fun l H' n => q l H' ⟨n⟩
theorem cut_all {xs : List V} {n : Nat} (h : xs.length ≤ n) : cutV xs none (some (n : Int)) = xs := by rw [cutV_to, List.take_of_length_le h]
end

structure Wd where
  begin : Int
  ports : List Str
  chans : List (Addr × Ch)
  brks : List (Addr × Ve)
  ships : List (Addr × Ve)
structure WoOk (w : Wd) : Prop where
  b0 : 0 ≤ w.begin
  b1 : w.begin ≤ 1000000
  p1 : 1 ≤ w.ports.length
  p8 : w.ports.length ≤ 8
  c12 : w.chans.length ≤ 12
  k4 : w.brks.length ≤ 4
  s6 : w.ships.length ≤ 6
  pn : ∀ z ∈ w.ports, nameS z = true
  pd : w.ports.Nodup
  cd : (w.chans.map (·.2.name)).Nodup
  vd : ((w.brks ++ w.ships).map (·.2.name)).Nodup
  ce : ∀ c ∈ w.chans, c.2.one ∈ w.ports ∧ c.2.other ∈ w.ports
  ke : ∀ u ∈ w.brks, u.2.port ∈ w.ports
  se : ∀ u ∈ w.ships, u.2.port ∈ w.ports ∧ u.2.goal ∈ w.ports
  kk : ∀ u ∈ w.brks, u.2.kind = 1
  sk : ∀ u ∈ w.ships, u.2.kind = 2
  co : ∀ c ∈ w.chans, chOk c.2 ∧ nameS c.2.name = true ∧ nameS c.2.one = true ∧ nameS c.2.other = true ∧ c.2.one ≠ c.2.other
  ko : ∀ u ∈ w.brks ++ w.ships, veOk u.2 ∧ veNames u.2
def strsV (zs : List Str) : List V := zs.map V.str
def woF (w : Wd) (lp lc lb ls : Addr) : List (Str × V) := [("beginning", .int w.begin), ("all_ports", .ref lp), ("all_channels", .ref lc), ("all_breakers", .ref lb), ("all_ships", .ref ls)]
theorem wo_put (w : Wd) (lp lc lb ls : Addr) : putF "all_ships" (.ref ls) (putF "all_breakers" (.ref lb) (putF "all_channels" (.ref lc) (putF "all_ports" (.ref lp) (putF "beginning" (.int w.begin) [])))) = woF w lp lc lb ls := by kernel_rfl
theorem wol_b (w : Wd) (lp lc lb ls : Addr) : (woF w lp lc lb ls).lookup ("beginning" : Str) = some (.int w.begin) := by kernel_rfl
theorem wol_p (w : Wd) (lp lc lb ls : Addr) : (woF w lp lc lb ls).lookup ("all_ports" : Str) = some (.ref lp) := by kernel_rfl
theorem wol_c (w : Wd) (lp lc lb ls : Addr) : (woF w lp lc lb ls).lookup ("all_channels" : Str) = some (.ref lc) := by kernel_rfl
theorem wol_k (w : Wd) (lp lc lb ls : Addr) : (woF w lp lc lb ls).lookup ("all_breakers" : Str) = some (.ref lb) := by kernel_rfl
theorem wol_s (w : Wd) (lp lc lb ls : Addr) : (woF w lp lc lb ls).lookup ("all_ships" : Str) = some (.ref ls) := by kernel_rfl
theorem won (w : Wd) (lp lc lb ls : Addr) : (woF w lp lc lb ls).lookup ("begin_hour" : Str) = none ∧ (woF w lp lc lb ls).lookup ("ports" : Str) = none ∧ (woF w lp lc lb ls).lookup ("channels" : Str) = none ∧ (woF w lp lc lb ls).lookup ("breakers" : Str) = none ∧ (woF w lp lc lb ls).lookup ("ships" : Str) = none ∧ (woF w lp lc lb ls).lookup ("vessels" : Str) = none ∧ (woF w lp lc lb ls).lookup ("channel" : Str) = none ∧ (woF w lp lc lb ls).lookup ("vessel" : Str) = none ∧ (woF w lp lc lb ls).lookup ("is_port" : Str) = none ∧ (woF w lp lc lb ls).lookup ("channels_at" : Str) = none ∧ (woF w lp lc lb ls).lookup ("from_hour" : Str) = none ∧ (woF w lp lc lb ls).lookup ("told" : Str) = none := by
  refine ⟨?_, ?_, ?_, ?_, ?_, ?_, ?_, ?_, ?_, ?_, ?_, ?_⟩ <;> kernel_rfl
local macro_rules | `(tactic| walk_at "lk") => `(tactic| with_reducible first | exact My.wol_b _ _ _ _ _ | exact My.wol_p _ _ _ _ _ | exact My.wol_c _ _ _ _ _ | exact My.wol_k _ _ _ _ _ | exact My.wol_s _ _ _ _ _)
local macro_rules | `(tactic| walk_at "nolk") => `(tactic| with_reducible first | exact (My.won _ _ _ _ _).1 | exact (My.won _ _ _ _ _).2.1 | exact (My.won _ _ _ _ _).2.2.1 | exact (My.won _ _ _ _ _).2.2.2.1 | exact (My.won _ _ _ _ _).2.2.2.2.1 | exact (My.won _ _ _ _ _).2.2.2.2.2.1 | exact (My.won _ _ _ _ _).2.2.2.2.2.2.1 | exact (My.won _ _ _ _ _).2.2.2.2.2.2.2.1 | exact (My.won _ _ _ _ _).2.2.2.2.2.2.2.2.1 | exact (My.won _ _ _ _ _).2.2.2.2.2.2.2.2.2.1 | exact (My.won _ _ _ _ _).2.2.2.2.2.2.2.2.2.2.1 | exact (My.won _ _ _ _ _).2.2.2.2.2.2.2.2.2.2.2)
/-- a list or a tuple at p -/
def SeqOf (H : Hp) (p : Addr) (xs : List V) : Prop := H p = some (.lst xs) ∨ H p = some (.tup xs)
theorem SeqOf.a {K : PySem.W.Frag} {H : Hp} {p : Addr} {xs : List V} (h : SeqOf H p xs) : SqA K H p xs := h.elim sqA_l sqA_t
theorem SeqOf.s {K : PySem.W.Frag} {H : Hp} {p : Addr} {xs : List V} (h : SeqOf H p xs) : isSeq K H (.ref p) true := h.elim lst_seq tup_seq
theorem SeqOf.keep {H H' : Hp} {p : Addr} {xs : List V} (h : SeqOf H p xs) (s : Same H H') : SeqOf H' p xs := h.imp (s _ _) (s _ _)
theorem SeqOf.kb {H H' : Hp} {p q : Addr} {xs : List V} (h : SeqOf H p xs) (s : KeepB q H H') (n : p ≠ q) : SeqOf H' p xs := h.imp (fun e => s _ _ e n) (fun e => s _ _ e n)
theorem SeqOf.ne {H : Hp} {p q : Addr} {xs : List V} (h : SeqOf H p xs) (n : H q = none) : p ≠ q := h.elim (fun e => ne_of_none e n) (fun e => ne_of_none e n)
theorem SeqOf.nei {H : Hp} {p a C dx : Addr} {xs : List V} {fs : List (Str × V)} (h : SeqOf H p xs) (n : H a = some (.ins C dx fs)) : p ≠ a := h.elim (fun e => ne_of e n nofun) (fun e => ne_of e n nofun)
theorem none_sm0 {H H' : Hp} {p : Addr} (e : Same H H') (h : H' p = none) : H p = none := by
  cases h1 : H p with
  | none => rfl
  | some o => exact absurd ((e _ _ h1).symm.trans h) nofun
section
variable {K : PySem.W.Frag} {σ : L2.St} {H : Hp} {Q : VK}
/-- a comprehension over any items, whose element makes new things -/
theorem lcV {J : It} {G : Hp → Prop} {te : TE} {vs : List Nat} {k : Nat} {xs : List V} (w : Walk J xs.length G (YAt xs)) (hz : xs.length ≤ 100000) (hG : ∀ H', Same H H' → G H') (P : List V → List V → Hp → Prop) (h0 : P [] [] H)
    (hw : ∀ x, wipe ((wipe σ vs).set k (some x)) vs = wipe σ vs) (he : ∀ i x acc H' (Q' : VK), xs[i]? = some x → Same H H' → P acc (xs.take i) H' → (∀ y H2, Same H' H2 → P (acc ++ [y]) (xs.take i ++ [x]) H2 → Q' y H2) → te ((wipe σ vs).set k (some x)) H' Q')
    (hq : ∀ acc D H', Same H H' → H' D = none → acc.length = xs.length → P acc xs H' → Q (.ref D) (upd H' D (.lst acc))) : LcGo J (gName k) tYes (tFrm te) vs σ H Q := by
  refine lcgoF w hz (fun i x => xs[i]? = some x) (fun i H x H' _ _ y => y) hw (fun i acc H' => Same H H' ∧ P acc (xs.take i) H') ⟨Same.refl _, h0⟩ (fun i acc H' D _ p hD => hG _ (p.1.trans (same_new hD))) ?_ ?_
  · rintro i x acc H' Qc hi hla ⟨sH, p⟩ hx q'
    refine he i x acc H' Qc hx sH p fun y H2 s2 p2 => q' y H2 ⟨sH.trans s2, ?_⟩
    rw [List.take_add_one, hx]
    exact p2
  · rintro acc H' D hla ⟨sH, p⟩ hD
    rw [List.take_length] at p
    exact hq acc D H' sH hD hla p
/-- .. whose elements are all True -/
theorem lcTrue {J : It} {G : Hp → Prop} {te : TE} {vs : List Nat} {k : Nat} {xs : List V} (w : Walk J xs.length G (YAt xs)) (hz : xs.length ≤ 100000) (hG : ∀ H', Same H H' → G H')
    (hw : ∀ x, wipe ((wipe σ vs).set k (some x)) vs = wipe σ vs) (he : ∀ x ∈ xs, ∀ H' (Q' : VK), Same H H' → (∀ H2, Same H' H2 → Q' (.bl true) H2) → te ((wipe σ vs).set k (some x)) H' Q')
    (hq : ∀ D H', Nn H D → Same H H' → H' D = some (.lst ((List.replicate xs.length true).map V.bl)) → Q (.ref D) H') : LcGo J (gName k) tYes (tFrm te) vs σ H Q := by
  refine lcV w hz hG (fun acc us H' => acc = (List.replicate us.length true).map V.bl) rfl hw (fun i x acc H' Q' hx s e q' => he x (List.mem_of_getElem? hx) H' Q' s fun H2 s2 => q' _ _ s2 ?_) fun acc D H' s hD _ e => hq D _ ⟨none_sm0 s hD⟩ (s.trans (same_new hD)) (by rw [upd_same, e])
  rw [e, List.length_append, List.length_singleton, List.replicate_succ', List.map_append]
  rfl
theorem all_rep (n : Nat) : (List.replicate n true).all id = true := by
  rw [List.all_eq_true]
  intro x hx
  rw [(List.mem_replicate.mp hx).2]
  rfl
theorem rd_allTrue {p : Addr} {n : Nat} (h : H p = some (.lst ((List.replicate n true).map V.bl))) (q : Q (.bl true) H) : rAll K [.ref p] H Q := rd_all (sqL_of h) (by rw [all_rep]; exact q)
end
/-- the dict of what is known -/
def knK (zs : List Str) : List (Key × V) := zs.map fun z => (Sum.inr z, .bl true)
theorem kn_none {zs : List Str} {z : Str} (h : z ∉ zs) : valV (knK zs) (Sum.inr z) = none := by
  unfold valV knK
  rw [List.find?_eq_none.mpr, Option.map_none]
  intro kv hkv
  obtain ⟨y, hy, rfl⟩ := List.mem_map.mp hkv
  simp only [decide_eq_true_eq]
  intro e
  exact h (Sum.inr.inj e ▸ hy)
theorem kn_put {zs : List Str} {z : Str} (h : z ∉ zs) : putK (knK zs) (Sum.inr z) (.bl true) = knK (zs ++ [z]) := by
  unfold putK
  rw [if_neg]
  · unfold knK
    rw [List.map_append]
    rfl
  · intro e
    obtain ⟨kv, hkv, e⟩ := List.any_eq_true.mp e
    unfold knK at hkv
    obtain ⟨y, hy, rfl⟩ := List.mem_map.mp hkv
    exact h (Sum.inr.inj (of_decide_eq_true e) ▸ hy)
theorem strs_flat {zs : List Str} : (strsV zs).all flatV = true := List.all_eq_true.mpr fun x hx => by
  unfold strsV at hx
  obtain ⟨z, _, rfl⟩ := List.mem_map.mp hx
  rfl
theorem inV_str {z : Str} {zs : List Str} : inV (.str z) (strsV zs) = decide (z ∈ zs) := by
  rw [Bool.eq_iff_iff, decide_eq_true_iff]
  unfold inV strsV
  rw [List.any_eq_true]
  constructor
  · rintro ⟨x, hx, e⟩
    obtain ⟨y, hy, rfl⟩ := List.mem_map.mp hx
    have e : (y == z) = true := e
    rw [← beq_iff_eq.mp e]
    exact hy
  · intro h
    exact ⟨.str z, List.mem_map_of_mem h, beq_self_eq_true z⟩
theorem strs_map {α : Type} {xs : List α} {f : α → Str} : xs.map (fun x => V.str (f x)) = strsV (xs.map f) := by
  unfold strsV
  rw [List.map_map]
  rfl
theorem strs_len {zs : List Str} : (strsV zs).length = zs.length := by unfold strsV; rw [List.length_map]
section
variable {K : PySem.W.Frag}
theorem rd_ninS {p : Addr} {z : Str} {zs : List Str} {H : Hp} {Q : VK} (h : SeqOf H p (strsV zs)) (q : Q (.bl (!decide (z ∈ zs))) H) : rIn K true (.str z) (.ref p) H Q := ⟨p, _, rfl, h.imp sqL_of sqT_of, rfl, strs_flat, by rw [inV_str]; exact q⟩
theorem rd_inZ {p : Addr} {z : Str} {zs : List Str} {H : Hp} {Q : VK} (h : SeqOf H p (strsV zs)) (q : Q (.bl (decide (z ∈ zs))) H) : rIn K false (.str z) (.ref p) H Q := ⟨p, _, rfl, h.imp sqL_of sqT_of, rfl, strs_flat, by rw [inV_str]; exact q⟩
end
/-! what a world is refused with -/
inductive Itm
  | ch (c : Ch)
  | ve (v : Ve)
  | oth
def itCh : Itm → Option Ch
  | .ch c => some c
  | _ => none
def itVe (k : Nat) : Itm → Option Ve
  | .ve v => if v.kind = k then some v else none
  | _ => none
def strOf : V → Option Str
  | .str z => some z
  | _ => none
/-- the first that stands ahead -/
def dupS (zs : List Str) : Option Str := ((List.range zs.length).find? fun i => match zs[i]? with
  | some z => decide (z ∈ zs.take i)
  | none => false).bind fun i => zs[i]?
def okSeq {α : Type} (o : Option (List α)) (lo hi : Nat) (f : α → Bool) : Bool := match o with
  | none => false
  | some xs => (decide (lo ≤ xs.length) && decide (xs.length ≤ hi)) && xs.all f
def kindRef (ps : Option (List V)) (cs ks ss : Option (List Itm)) : Option Str :=
  if okSeq ps 1 8 nameV then
    if okSeq cs 0 12 fun t => (itCh t).isSome then
      if okSeq ks 0 4 fun t => (itVe 1 t).isSome then
        if okSeq ss 0 6 fun t => (itVe 2 t).isSome then none else some (Str.ofString "ships")
      else some (Str.ofString "breakers")
    else some (Str.ofString "channels")
  else some (Str.ofString "ports")
def endsOf (c : Ch) : List Str := [c.one, c.other]
def endsVe (v : Ve) : List Str := [v.port, v.goal]
def lateRef (zs : List Str) (cs : List Ch) (ks ss : List Ve) : Option (Nat × Str) :=
  match dupS zs with
  | some z => some (2, z)
  | none => match dupS (cs.map (·.name)) with
    | some z => some (2, z)
    | none => match dupS ((ks ++ ss).map (·.name)) with
      | some z => some (2, z)
      | none => match (cs.flatMap endsOf).find? (fun z => !decide (z ∈ zs)) with
        | some z => some (3, z)
        | none => match (ks.map (·.port)).find? (fun z => !decide (z ∈ zs)) with
          | some z => some (3, z)
          | none => match (ss.flatMap endsVe).find? (fun z => !decide (z ∈ zs)) with
            | some z => some (3, z)
            | none => none
def psOf (ps : Option (List V)) : List Str := (ps.getD []).filterMap strOf
def csOf (cs : Option (List Itm)) : List Ch := (cs.getD []).filterMap itCh
def vsOf (k : Nat) (cs : Option (List Itm)) : List Ve := (cs.getD []).filterMap (itVe k)
def worldRef (b : V) (ps : Option (List V)) (cs ks ss : Option (List Itm)) : Option (Nat × V) :=
  if withinV b 0 1000000 then
    match kindRef ps cs ks ss with
    | some w => some (1, .str w)
    | none => (lateRef (psOf ps) (csOf cs) (vsOf 1 ks) (vsOf 2 ss)).map fun r => (r.1, .str r.2)
  else some (0, b)
theorem dup_none {zs : List Str} (h : dupS zs = none) : zs.Nodup := by
  unfold List.Nodup
  rw [List.pairwise_iff_getElem]
  intro i j hi hj hij e
  unfold dupS at h
  rw [Option.bind_eq_none_iff] at h
  cases hf : (List.range zs.length).find? fun i => match zs[i]? with
    | some z => decide (z ∈ zs.take i)
    | none => false with
  | none =>
    have := List.find?_eq_none.mp hf j (List.mem_range.mpr hj)
    rw [List.getElem?_eq_getElem hj] at this
    refine this (decide_eq_true ?_)
    rw [← e]
    exact List.mem_take_iff_getElem.mpr ⟨i, by omega, rfl⟩
  | some k =>
    have h2 := h k hf
    rw [List.getElem?_eq_none_iff] at h2
    have := List.mem_range.mp (List.mem_of_find?_eq_some hf)
    omega
theorem dup_of {zs : List Str} (h : zs.Nodup) : dupS zs = none := by
  unfold dupS
  rw [List.find?_eq_none.mpr, Option.bind_none]
  intro i hi
  have hi := List.mem_range.mp hi
  rw [List.getElem?_eq_getElem hi]
  simp only [decide_eq_true_eq]
  intro m
  obtain ⟨j, hj, e⟩ := List.getElem_of_mem m
  rw [List.getElem_take] at e
  rw [List.length_take] at hj
  have := (List.getElem_inj h).mp e
  omega
/-- a walk over the names so far -/
theorem dup_step {zs : List Str} {i : Nat} {z : Str} (h : (zs.take i).Nodup) (hz : zs[i]? = some z) : (z ∈ zs.take i → dupS zs = some z) ∧ (z ∉ zs.take i → (zs.take (i + 1)).Nodup) := by
  have hi : i < zs.length := (List.getElem?_eq_some_iff.mp hz).1
  constructor
  · intro m
    unfold dupS
    have e : (List.range zs.length).find? (fun i => match zs[i]? with
      | some z => decide (z ∈ zs.take i)
      | none => false) = some i := by
      refine (find_step (i := i) (xs := List.range zs.length) ?_ ?_).2 ?_
      · rw [List.find?_eq_none]
        intro j hj
        rw [List.take_range, List.mem_range] at hj
        have hj2 : j < i := by omega
        rw [List.getElem?_eq_getElem (by omega)]
        simp only [decide_eq_true_eq]
        intro m2
        obtain ⟨k, hk, e⟩ := List.getElem_of_mem m2
        rw [List.getElem_take] at e
        rw [List.length_take] at hk
        have hk2 : k < (zs.take i).length := by rw [List.length_take]; omega
        have hj3 : j < (zs.take i).length := by rw [List.length_take]; omega
        have := (List.getElem_inj (i := k) (j := j) (h₀ := hk2) (h₁ := hj3) h).mp (by rw [List.getElem_take, List.getElem_take]; exact e)
        omega
      · rw [List.getElem?_range hi]
      · rw [hz]
        exact decide_eq_true m
    rw [e]
    exact hz
  · intro n
    rw [List.take_add_one, hz]
    show (zs.take i ++ [z]).Nodup
    rw [List.nodup_append]
    refine ⟨h, by simp, fun a ha b hb e => n ?_⟩
    rw [List.mem_singleton.mp hb] at e
    rw [← e]
    exact ha
/-- .. over what stands in rows -/
theorem flat_step {α β : Type} {f : β → Bool} {g : α → List β} {xs : List α} {i : Nat} {x : α} (h : ((xs.take i).flatMap g).find? f = none) (hx : xs[i]? = some x) : ((g x).find? f = none → ((xs.take (i + 1)).flatMap g).find? f = none) ∧ (∀ y, (g x).find? f = some y → (xs.flatMap g).find? f = some y) := by
  have e : xs.take (i + 1) = xs.take i ++ [x] := by rw [List.take_add_one, hx]; rfl
  have e2 : ((xs.take (i + 1)).flatMap g).find? f = (g x).find? f := by
    rw [e, List.flatMap_append, List.find?_append, h, Option.none_or]
    simp only [List.flatMap_cons, List.flatMap_nil, List.append_nil]
  refine ⟨fun hf => by rw [e2, hf], fun y hf => ?_⟩
  rw [← List.take_append_drop (i + 1) xs, List.flatMap_append, List.find?_append, e2, hf]
  rfl
theorem kn_some {zs : List Str} {z : Str} (h : z ∈ zs) : valV (knK zs) (Sum.inr z) = some (.bl true) := by
  unfold valV knK
  induction zs with
  | nil => cases h
  | cons y r ih =>
    rw [List.map_cons, List.find?_cons]
    by_cases e : y = z
    · subst e
      simp
    · rcases List.mem_cons.mp h with h | h
      · exact absurd h.symm e
      · have : decide ((Sum.inr y : Key) = Sum.inr z) = false := decide_eq_false fun q => e (Sum.inr.inj q)
        simp only [this]
        exact ih h
theorem names_of : ∀ {xs : List V}, xs.all nameV = true → ∃ zs : List Str, xs = strsV zs ∧ (∀ z ∈ zs, nameS z = true) ∧ xs.filterMap strOf = zs
  | [], _ => ⟨[], rfl, nofun, rfl⟩
  | x :: r, h => by
    rw [List.all_cons, Bool.and_eq_true] at h
    obtain ⟨zs, rfl, h2, h3⟩ := names_of h.2
    obtain ⟨z, rfl⟩ := name_str h.1
    refine ⟨z :: zs, rfl, fun y hy => ?_, ?_⟩
    · rcases List.mem_cons.mp hy with rfl | hy
      · exact h.1
      · exact h2 y hy
    · rw [List.filterMap_cons]
      show z :: _ = _
      rw [h3]
section
variable {K : PySem.W.Frag} {σ : L2.St} {H : Hp} {Q : VK}
/-- a comprehension whose elements are truths -/
theorem lcBl {α : Type} {J : It} {G : Hp → Prop} {te : TE} {vs : List Nat} {k : Nat} {ws : List α} {xs : List V} (g : α → V) (ex : xs = ws.map g) (w : Walk J xs.length G (YAt xs)) (hz : ws.length ≤ 100000) (hG : ∀ H', Same H H' → G H') (f : α → Bool)
    (hw : ∀ x, wipe ((wipe σ vs).set k (some x)) vs = wipe σ vs) (he : ∀ u ∈ ws, ∀ H' (Q' : VK), Same H H' → (∀ H2, Same H' H2 → Q' (.bl (f u)) H2) → te ((wipe σ vs).set k (some (g u))) H' Q')
    (hq : ∀ D H', Nn H D → Same H H' → H' D = some (.lst ((ws.map f).map V.bl)) → Q (.ref D) H') : LcGo J (gName k) tYes (tFrm te) vs σ H Q := by
  subst ex
  refine lcV w (by rw [List.length_map]; exact hz) hG (fun acc us H' => acc = ((ws.take us.length).map f).map V.bl) rfl hw (fun i x acc H' Q' hx s e q' => ?_) fun acc D H' s hD _ e => hq D _ ⟨none_sm0 s hD⟩ (s.trans (same_new hD)) ?_
  · rw [List.getElem?_map] at hx
    obtain ⟨u, hu, rfl⟩ := Option.map_eq_some_iff.mp hx
    have hi : i < ws.length := (List.getElem?_eq_some_iff.mp hu).1
    refine he u (List.mem_of_getElem? hu) H' Q' s fun H2 s2 => q' _ _ s2 ?_
    rw [List.length_take, List.length_map, Nat.min_eq_left (by omega)] at e
    rw [e, List.length_append, List.length_singleton, List.length_take, List.length_map, Nat.min_eq_left (by omega), List.take_add_one, hu, List.map_append, List.map_append]
    rfl
  · rw [upd_same, e, List.length_map, List.take_length]
theorem rd_allB {p : Addr} {α : Type} {ws : List α} {f : α → Bool} (h : H p = some (.lst ((ws.map f).map V.bl))) (q : Q (.bl (ws.all f)) H) : rAll K [.ref p] H Q := rd_all (sqL_of h) (by rw [List.all_map]; exact q)
end
/-- a list or a tuple of so many, or no such thing -/
def SeqN (K : PySem.W.Frag) (H : Hp) (v : V) : Option Nat → Prop
  | none => isSeq K H v false
  | some n => ∃ p xs, v = .ref p ∧ SeqOf H p xs ∧ xs.length = n
theorem SeqN.keep {K : PySem.W.Frag} {H H' : Hp} {v : V} {o : Option Nat} (h : SeqN K H v o) (s : Same H H') : SeqN K H' v o := by
  cases o with
  | none => exact isSeq.keep h s
  | some n =>
    obtain ⟨p, xs, e, h1, h2⟩ := h
    exact ⟨p, xs, e, h1.keep s, h2⟩
/-! ### worlds as data -/
/-- a world as data -/
structure Td where
  begin : Int
  ports : List Str
  chans : List Ch
  brks : List Ve
  ships : List Ve
structure TdOk (w : Td) : Prop where
  b0 : 0 ≤ w.begin
  b1 : w.begin ≤ 1000000
  p1 : 1 ≤ w.ports.length
  p8 : w.ports.length ≤ 8
  c12 : w.chans.length ≤ 12
  k4 : w.brks.length ≤ 4
  s6 : w.ships.length ≤ 6
  pn : ∀ z ∈ w.ports, nameS z = true
  pd : w.ports.Nodup
  cd : (w.chans.map (·.name)).Nodup
  vd : ((w.brks ++ w.ships).map (·.name)).Nodup
  ce : ∀ c ∈ w.chans, c.one ∈ w.ports ∧ c.other ∈ w.ports
  ke : ∀ u ∈ w.brks, u.port ∈ w.ports
  se : ∀ u ∈ w.ships, u.port ∈ w.ports ∧ u.goal ∈ w.ports
  kk : ∀ u ∈ w.brks, u.kind = 1
  sk : ∀ u ∈ w.ships, u.kind = 2
  co : ∀ c ∈ w.chans, chOk c ∧ nameS c.name = true ∧ nameS c.one = true ∧ nameS c.other = true ∧ c.one ≠ c.other
  ko : ∀ u ∈ w.brks ++ w.ships, veOk u ∧ veNames u
def okR : V → Prop
  | .int i => 0 ≤ i ∧ i < 1000000000000
  | .str z => nameS z = true
  | _ => False
/-- what a world's rows must be so that they can be written -/
structure TdW (w : Td) : Prop where
  b0 : 0 ≤ w.begin
  b1 : w.begin < 1000000000000
  p1 : 1 ≤ w.ports.length
  p8 : w.ports.length ≤ 9
  c12 : w.chans.length ≤ 13
  k4 : w.brks.length ≤ 5
  s6 : w.ships.length ≤ 7
  pn : ∀ z ∈ w.ports, nameS z = true
  cw : ∀ c ∈ w.chans, ∀ x ∈ chV c, okR x
  kw : ∀ v ∈ w.brks ++ w.ships, ∀ x ∈ veV v, okR x
  kk : ∀ u ∈ w.brks, u.kind = 1
  sk : ∀ u ∈ w.ships, u.kind = 2
theorem ch_okR0 {c : Ch} (h : chOk c) (n : nameS c.name = true ∧ nameS c.one = true ∧ nameS c.other = true) : ∀ x ∈ chV c, okR x := fun x hx => by
  obtain ⟨n1, n2, n3⟩ := n
  unfold chOk at h
  unfold chV at hx
  simp only [List.mem_cons, List.not_mem_nil, or_false] at hx
  rcases hx with rfl | rfl | rfl | rfl | rfl | rfl | rfl | rfl <;> first | assumption | exact ⟨by omega, by omega⟩
theorem ve_okR0 {v : Ve} (h : veOk v) (n : veNames v) : ∀ x ∈ veV v, okR x := fun x hx => by
  obtain ⟨_, h1, h2, h3, h4, h5, h6, h7, h8⟩ := h
  obtain ⟨n1, n2, n3⟩ := n
  unfold veV at hx
  split at hx <;> simp only [List.mem_cons, List.not_mem_nil, or_false] at hx
  · rcases hx with rfl | rfl | rfl | rfl | rfl <;> first | assumption | exact ⟨by omega, by omega⟩
  · rcases hx with rfl | rfl | rfl | rfl | rfl | rfl <;> first | assumption | exact ⟨by omega, by omega⟩
  · rcases hx with rfl | rfl | rfl | rfl | rfl | rfl <;> first | assumption | exact ⟨by omega, by omega⟩
theorem TdOk.weak {d : Td} (h : TdOk d) : TdW d := by
  have b1 := h.b1
  have p8 := h.p8
  have c12 := h.c12
  have k4 := h.k4
  have s6 := h.s6
  exact ⟨h.b0, by omega, h.p1, by omega, by omega, by omega, by omega, h.pn, fun c hc => ch_okR0 (h.co c hc).1 ⟨(h.co c hc).2.1, (h.co c hc).2.2.1, (h.co c hc).2.2.2.1⟩, fun v hv => ve_okR0 (h.ko v hv).1 (h.ko v hv).2, h.kk, h.sk⟩
theorem TdOk.wo {x : Td} (h : TdOk x) {w : Wd} (e0 : w.begin = x.begin) (e1 : w.ports = x.ports) (e2 : w.chans.map (·.2) = x.chans) (e3 : w.brks.map (·.2) = x.brks) (e4 : w.ships.map (·.2) = x.ships) : WoOk w := by
  obtain ⟨b, ps, cs, ks, ss⟩ := w
  obtain ⟨b', ps', cs', ks', ss'⟩ := x
  simp only at e0 e1 e2 e3 e4
  subst e0 e1 e2 e3 e4
  obtain ⟨h1, h2, h3, h4, h5, h6, h7, h8, h9, h10, h11, h12, h13, h14, h15, h16, h17, h18⟩ := h
  refine ⟨h1, h2, h3, h4, by simpa using h5, by simpa using h6, by simpa using h7, h8, h9, ?_, ?_, fun c hc => h12 _ (List.mem_map_of_mem hc), fun c hc => h13 _ (List.mem_map_of_mem hc), fun c hc => h14 _ (List.mem_map_of_mem hc), fun c hc => h15 _ (List.mem_map_of_mem hc), fun c hc => h16 _ (List.mem_map_of_mem hc), fun c hc => h17 _ (List.mem_map_of_mem hc), fun c hc => h18 _ ?_⟩
  · simpa [List.map_map, Function.comp_def] using h10
  · simpa [List.map_map, List.map_append, Function.comp_def] using h11
  · rcases List.mem_append.mp hc with h | h
    · exact List.mem_append_left _ (List.mem_map_of_mem h)
    · exact List.mem_append_right _ (List.mem_map_of_mem h)
/-- what a world tells, as tuples -/
def TdAt (H : Hp) (t : Addr) (w : Td) : Prop := ∃ tp tc tk ts pc pk ps, H t = some (.tup [.int w.begin, .ref tp, .ref tc, .ref tk, .ref ts]) ∧ H tp = some (.tup (strsV w.ports)) ∧ H tc = some (.tup pc) ∧ RowsAt H pc (w.chans.map chV) ∧ H tk = some (.tup pk) ∧ RowsAt H pk (w.brks.map veV) ∧ H ts = some (.tup ps) ∧ RowsAt H ps (w.ships.map veV)
theorem TdAt.tups {H H' : Hp} {t : Addr} {w : Td} (h : TdAt H t w) (k : ∀ b xs, H b = some (.tup xs) → H' b = some (.tup xs)) : TdAt H' t w := by
  obtain ⟨tp, tc, tk, ts, pc, pk, ps, h1, h2, h3, r3, h4, r4, h5, r5⟩ := h
  exact ⟨tp, tc, tk, ts, pc, pk, ps, k _ _ h1, k _ _ h2, k _ _ h3, r3.same k, k _ _ h4, r4.same k, k _ _ h5, r5.same k⟩
theorem kb_tup {p : Addr} {n : Nat} {H H' : Hp} (k : KeepB p H H') (b : BoxAt H p n) : ∀ c xs, H c = some (.tup xs) → H' c = some (.tup xs) := fun c xs e => k _ _ e fun z => by
  obtain ⟨_, _, _, e2, _⟩ := b
  rw [z, e2] at e
  cases e
theorem find_none {zs ys : List Str} (h : ∀ z ∈ zs, z ∈ ys) : zs.find? (fun z => !decide (z ∈ ys)) = none := List.find?_eq_none.mpr fun z hz => by simpa using h z hz
theorem all_some {α β : Type} {f : α → Option β} {g : β → α} (h : ∀ b, f (g b) = some b) : ∀ xs : List β, (xs.map g).filterMap f = xs
  | [] => rfl
  | x :: r => by rw [List.map_cons, List.filterMap_cons, h x, all_some h r]
theorem fm_ve {k : Nat} : ∀ {xs : List Ve}, (∀ v ∈ xs, v.kind = k) → (xs.map Itm.ve).filterMap (itVe k) = xs ∧ (xs.map Itm.ve).all (fun t => (itVe k t).isSome) = true
  | [], _ => ⟨rfl, rfl⟩
  | x :: r, h => by
    obtain ⟨h1, h2⟩ := fm_ve (xs := r) fun v hv => h v (List.mem_cons_of_mem _ hv)
    have e : itVe k (.ve x) = some x := if_pos (h x List.mem_cons_self)
    rw [List.map_cons, List.filterMap_cons, List.all_cons, e, h1, h2]
    exact ⟨rfl, rfl⟩
/-! ### P0M: a dict walked over, locked; list(a dict); how long data with dicts is shown -/
/-- e, and what it gives is locked for good -/
def FzK (Q : VK) : VK := fun x H1 => ∃ d u, x = .ref d ∧ H1 d = some u ∧ Mut (some u) ∧ ∀ od, Q x (upd H1 d (.frz od u))
def tFz (te : TE) : TE := fun σ H Q => te σ H (FzK Q)
theorem pe_fz {X : Cx} {e : Expr} {te : TE} (he : PE X e te) : PE X e (tFz te) := by
  refine ⟨fun pins s σ H Q I h => thn (he.run pins s σ H _ I h) fun v s1 ⟨x, H1, I2, r, d, u, ex, hd, mu, q⟩ => ?_⟩
  obtain ⟨od, I3⟩ := I2.lock hd mu
  exact ⟨x, _, I3, r, q od⟩
/-- .. the items of a locked dict -/
def ItmK (R : It → Hp → Prop) : VK := fun x H1 => ∃ d o kvs, x = .ref d ∧ H1 d = some (.frz o (.dK kvs)) ∧ R (Iti d o kvs) H1
def VlsK (R : It → Hp → Prop) : VK := fun x H1 => ∃ d o kvs, x = .ref d ∧ H1 d = some (.frz o (.dK kvs)) ∧ R (Itd d o kvs) H1
def KeyK (R : It → Hp → Prop) : VK := fun x H1 => ∃ d o, x = .ref d ∧ ((∃ kvs, H1 d = some (.frz o (.dK kvs)) ∧ R (Itk d o kvs) H1) ∨ ∃ kvs, H1 d = some (.frz o (.dT kvs)) ∧ R (Itkt d o kvs) H1)
section
variable {K : PySem.W.Frag} {σ : L2.St} {H : Hp} {Q : VK} {te : TE} {t : TS} {D : Ends}
theorem rd_fz (h : te σ H (FzK Q)) : tFz te σ H Q := h
/-- the locked thing: d2 stands beside d, a new name for the heap -/
theorem rd_fz1 {d : Addr} {u : HO} (hd : H d = some u) (mu : Mut (some u)) (q : ∀ od H', (∀ b o, H b = some o → b ≠ d → H' b = some o) → (∀ b, H' b = none → H b = none) → H' d = some (.frz od u) → Q (.ref d) H') : FzK Q (.ref d) H := by
  refine ⟨d, u, rfl, hd, mu, fun od => q od _ (fun b o e n => by rw [upd_ne n]; exact e) (fun b e => ?_) upd_same⟩
  by_cases z : b = d
  · subst z
    rw [upd_same] at e
    cases e
  · rw [upd_ne z] at e
    exact e
theorem rd_items {R : It → Hp → Prop} (h : te σ H (ItmK R)) : iItems te σ H R := h
theorem rd_vals {R : It → Hp → Prop} (h : te σ H (VlsK R)) : iVals te σ H R := h
theorem rd_vls {R : It → Hp → Prop} {d : Addr} {od : Obj} {kvs : List (Key × V)} (h : H d = some (.frz od (.dK kvs))) (q : R (Itd d od kvs) H) : VlsK R (.ref d) H := ⟨d, od, kvs, rfl, h, q⟩
theorem rd_itm {R : It → Hp → Prop} {d : Addr} {od : Obj} {kvs : List (Key × V)} (h : H d = some (.frz od (.dK kvs))) (q : R (Iti d od kvs) H) : ItmK R (.ref d) H := ⟨d, od, kvs, rfl, h, q⟩
theorem rd_keys {R : It → Hp → Prop} (h : te σ H (KeyK R)) : iKeys te σ H R := h
theorem rd_key {R : It → Hp → Prop} {d : Addr} {od : Obj} {kvs : List (Key × V)} (h : H d = some (.frz od (.dK kvs))) (q : R (Itk d od kvs) H) : KeyK R (.ref d) H := ⟨d, od, rfl, .inl ⟨kvs, h, q⟩⟩
/-- a statement runs while the thing at d is locked -/
def LkE (d : Addr) (od : Obj) (u : HO) (D : Ends) : Ends := ⟨fun σ' H' => H' d = some (.frz od u) ∧ D.nx σ' (upd H' d u), fun v H' => H' d = some (.frz od u) ∧ D.rt v (upd H' d u), fun σ' H' => H' d = some (.frz od u) ∧ D.bk σ' (upd H' d u), fun σ' H' => H' d = some (.frz od u) ∧ D.ct σ' (upd H' d u)⟩
theorem rd_lock {d : Addr} {u : HO} (hd : H d = some u) (mu : Mut (some u)) (q : ∀ od H', H' = upd H d (.frz od u) → H' d = some (.frz od u) → t (LkE d od u D) σ H') : tLock t D σ H := ⟨d, u, hd, mu, fun od => q od _ rfl upd_same⟩
theorem rd_lockE {d : Addr} {u : HO} (hd : H d = some u) (mu : Mut (some u)) (q : ∀ od H', H' = upd H d (.frz od u) → H' d = some (.frz od u) → te σ H' fun v H2 => H2 d = some (.frz od u) ∧ Q v (upd H2 d u)) : tLockE te σ H Q := ⟨d, u, hd, mu, fun od => q od _ rfl upd_same⟩
/-- the ends of a locked statement, by names at which the walk stops -/
def LkN (d : Addr) (od : Obj) (u : HO) (P : L2.St → Hp → Prop) : L2.St → Hp → Prop := fun σ' H' => H' d = some (.frz od u) ∧ P σ' (upd H' d u)
def LkR (d : Addr) (od : Obj) (u : HO) (P : V → Hp → Prop) : V → Hp → Prop := fun v H' => H' d = some (.frz od u) ∧ P v (upd H' d u)
theorem rd_lkn {d : Addr} {od : Obj} {u : HO} (h : LkN d od u D.nx σ H) : (LkE d od u D).nx σ H := h
theorem rd_lkr {d : Addr} {od : Obj} {u : HO} {v : V} (h : LkR d od u D.rt v H) : (LkE d od u D).rt v H := h
theorem LkE.nx {d : Addr} {od : Obj} {u : HO} (h : H d = some (.frz od u)) (q : D.nx σ (upd H d u)) : (LkE d od u D).nx σ H := ⟨h, q⟩
theorem LkE.rt {d : Addr} {od : Obj} {u : HO} {v : V} (h : H d = some (.frz od u)) (q : D.rt v (upd H d u)) : (LkE d od u D).rt v H := ⟨h, q⟩
/-- list(a dict) -/
def rListDK : List V → Hp → VK → Prop := fun xs H Q => ∃ (a : Addr) (kvs : List (Key × V)), xs = [.ref a] ∧ Rd H a (.dK kvs) ∧ ∀ p, H p = none → Q (.ref p) (upd H p (.lst (kvs.map fun kv => kV kv.1)))
theorem listDK {X : Cx} (hc : X.calm = true) : CallR X (.type "list") rListDK := call_listD hc
theorem rd_listDK {a : Addr} {kvs : List (Key × V)} (h : Rd H a (.dK kvs)) (q : ∀ p H', Nn H p → Same H H' → H' p = some (.lst (kvs.map fun kv => kV kv.1)) → Q (.ref p) H') : rListDK [.ref a] H Q := ⟨a, kvs, rfl, h, fun p hp => q p _ ⟨hp⟩ (same_new hp) upd_same⟩
theorem rd_neKE {a b : Addr} {kvs : List (Key × V)} (ha : Rd H a (.dK kvs)) (hb : Rd H b (.dK [])) (q : Q (.bl (!decide (kvs = []))) H) : rNeKE (.ref a) (.ref b) H Q := ⟨a, b, kvs, rfl, rfl, ha, hb, q⟩
theorem rd_eqKE {a b : Addr} {kvs : List (Key × V)} (ha : Rd H a (.dK kvs)) (hb : Rd H b (.dK [])) (q : Q (.bl (decide (kvs = []))) H) : rEqKE (.ref a) (.ref b) H Q := ⟨a, b, kvs, rfl, rfl, ha, hb, q⟩
end
/-- data that can be shown: how deep, how long -/
structure SmX (n w : Nat) (d : PyData) : Prop where
  s : d.showable = true
  p : d.depth ≤ n
  w : d.shown.length ≤ w
theorem SmX.mono {n w n' w' : Nat} {d : PyData} (h : SmX n w d) (hn : n ≤ n') (hw : w ≤ w') : SmX n' w' d := ⟨h.s, Nat.le_trans h.p hn, Nat.le_trans h.w hw⟩
theorem SmX.of {n w : Nat} {d : PyData} (h : Sm n w d) : SmX n w d := ⟨h.s, h.p, Nat.le_trans (shown_wt d h.s h.c) h.w⟩
theorem smx_all {n w : Nat} : ∀ {ds : List PyData}, (∀ d ∈ ds, SmX n w d) → PyData.showableAll ds = true ∧ PyData.depthAll ds ≤ n ∧ ((PyData.shownAll ds).map fun t => t.length + 2).sum ≤ ds.length * (w + 2)
  | [], _ => by simp [PyData.showableAll, PyData.depthAll, PyData.shownAll]
  | d :: ds, h => by
    obtain ⟨a, b, c⟩ := smx_all fun x hx => h x (List.mem_cons_of_mem _ hx)
    obtain ⟨a1, b1, c1⟩ := h d List.mem_cons_self
    refine ⟨by simp only [PyData.showableAll, a, a1, Bool.and_self], by simp only [PyData.depthAll]; omega, ?_⟩
    simp only [PyData.shownAll, List.map_cons, List.sum_cons, List.length_cons, Nat.add_mul]
    omega
theorem SmX.lst {n w m : Nat} {ds : List PyData} (h : ∀ d ∈ ds, SmX n w d) (l : ds.length ≤ m) : SmX (n + 1) (m * (w + 2) + 4) (.list ds) := by
  obtain ⟨a, b, c⟩ := smx_all h
  have := Nat.mul_le_mul_right (w + 2) l
  refine ⟨by simp only [PyData.showable, a], by simp only [PyData.depth]; omega, ?_⟩
  have h2 := textFrom_le (PyData.shownAll ds) 0 "["
  have h3 : (("[" : String) : Str).length = 1 := by decide +kernel
  have h4 : (("]" : String) : Str).length = 1 := by decide +kernel
  simp only [PyData.shown]
  show (textFrom 0 "[" (PyData.shownAll ds) ++ "]" : Str).length ≤ _
  rw [PySem.Str.length_append]
  omega
theorem join2_le : ∀ ts : List Str, (Str.join ", " ts).length ≤ (ts.map fun t => t.length + 2).sum := fun ts => by
  by_cases e : ts = []
  · rw [e]
    exact Nat.zero_le _
  · have := join_length_add _ e
    rw [← piled_sum]
    omega
theorem smx_kv {n w : Nat} : ∀ {kvs : List (PyData × PyData)}, (∀ kv ∈ kvs, SmX n w kv.1 ∧ SmX n w kv.2) → PyData.showableKv kvs = true ∧ PyData.depthKv kvs ≤ n ∧ ((PyData.shownKv kvs).map fun t => t.length + 2).sum ≤ kvs.length * (2 * w + 4)
  | [], _ => by simp [PyData.showableKv, PyData.depthKv, PyData.shownKv]
  | (k, v) :: r, h => by
    obtain ⟨a, b, c⟩ := smx_kv fun x hx => h x (List.mem_cons_of_mem _ hx)
    obtain ⟨⟨a1, b1, c1⟩, a2, b2, c2⟩ := h _ List.mem_cons_self
    simp only at a1 b1 c1 a2 b2 c2
    refine ⟨by simp only [PyData.showableKv, a, a1, a2, Bool.and_self], by simp only [PyData.depthKv]; omega, ?_⟩
    simp only [PyData.shownKv, List.map_cons, List.sum_cons, List.length_cons, Nat.add_mul, PySem.Str.length_append]
    have : ((": " : String) : Str).length = 2 := by decide +kernel
    omega
theorem SmX.dct {n w m : Nat} {kvs : List (PyData × PyData)} (h : ∀ kv ∈ kvs, SmX n w kv.1 ∧ SmX n w kv.2) (l : kvs.length ≤ m) : SmX (n + 1) (m * (2 * w + 4) + 4) (.dict kvs) := by
  obtain ⟨a, b, c⟩ := smx_kv h
  have := Nat.mul_le_mul_right (2 * w + 4) l
  refine ⟨by simp only [PyData.showable, a], by simp only [PyData.depth]; omega, ?_⟩
  have h2 := join2_le (PyData.shownKv kvs)
  have h3 : (("{" : String) : Str).length = 1 := by decide +kernel
  have h4 : (("}" : String) : Str).length = 1 := by decide +kernel
  simp only [PyData.shown]
  show (("{" : Str) ++ Str.join ", " (PyData.shownKv kvs) ++ "}").length ≤ _
  rw [PySem.Str.length_append, PySem.Str.length_append]
  omega
/-- repr, its text a name -/
theorem rd_rX {K : PySem.W.Frag} {H : Hp} {Q : VK} {v : V} {d : PyData} {n w : Nat} (hd : Px K H v d) (h : SmX n w d) (q : ∀ z, z = d.shown → Q (.str z) H) (hn : n ≤ 60 := by decide) (hw : w ≤ 10000000 := by decide) : rReprX K [v] H Q :=
  ⟨v, d, rfl, hd, h.s, Nat.le_trans h.p hn, Nat.le_trans h.w hw, q _ rfl⟩
theorem rd_rXF {K : PySem.W.Frag} {H : Hp} {Q : VK} {a : Addr} {kvs : List (Key × V)} {ds : List (PyData × PyData)} {n w : Nat} (ha : Rd H a (.dK kvs)) (hd : PxKv K H kvs ds) (h : SmX n w (.dict ds)) (q : ∀ z, z = (PyData.dict ds).shown → Q (.str z) H) (hn : n ≤ 60 := by decide) (hw : w ≤ 10000000 := by decide) : rReprXF K [.ref a] H Q :=
  ⟨a, kvs, ds, rfl, ha, hd, h.s, Nat.le_trans h.p hn, Nat.le_trans h.w hw, q _ rfl⟩
local macro_rules | `(tactic| walk_at "rd1") => `(tactic| first
  | (with_reducible refine My.rd_lkn ?_)
  | (with_reducible refine My.rd_lkr ?_)
  | (with_reducible refine My.rd_fz ?_)
  | (with_reducible refine My.rd_items ?_)
  | (with_reducible refine My.rd_vals ?_)
  | (with_reducible refine My.rd_keys ?_))

/-! ### written numbers are read back -/
theorem num_head {n : Nat} (h : (TL.numL n).head? = some 48) : (TL.numL n).length = 1 := by
  cases hl : TL.numL n with
  | nil => exact absurd hl (TL.numL_ne n)
  | cons a r =>
    rw [hl] at h
    obtain rfl : a = 48 := by simpa using h
    cases r with
    | nil => rfl
    | cons c r =>
      exfalso
      have hv := TL.numL_val n
      rw [hl] at hv
      have hd := TL.numL_digits n
      rw [hl] at hd
      have z : ∀ (l : List Nat) (acc m : Nat), (∀ c ∈ l, isFig c = true) → acc < 10 ^ m → l.foldl (fun acc c => acc * 10 + (c - 48)) acc < 10 ^ (m + l.length) := by
        intro l
        induction l with
        | nil => intro acc m _ h; exact h
        | cons c r ih =>
          intro acc m hc h
          rw [List.foldl_cons, List.length_cons, show m + (r.length + 1) = (m + 1) + r.length by omega]
          refine ih _ _ (fun d hd => hc d (List.mem_cons_of_mem _ hd)) ?_
          have := of_decide_eq_true (hc c List.mem_cons_self)
          rw [Nat.pow_succ]
          omega
      have hlt : n < 10 ^ (r.length + 1) := by
        have e : PySem.NumText.digitsVal (48 :: c :: r) = (c :: r).foldl (fun acc c => acc * 10 + (c - 48)) 0 := rfl
        rw [← hv, e]
        have := z (c :: r) 0 0 (fun d hd2 => decide_eq_true (hd d (List.mem_cons_of_mem _ hd2))) (by decide)
        rw [List.length_cons, Nat.zero_add] at this
        exact this
      have := TL.numL_len (n := n) (k := r.length + 1) (by omega) hlt
      rw [hl, List.length_cons, List.length_cons] at this
      omega
theorem num_back {i : Int} (h0 : 0 ≤ i) (h1 : i < 1000000000000) : numOf (wordV (.int i)) = some i ∧ ∀ c ∈ (wordV (.int i)).cps.toList, isFig c = true := by
  obtain ⟨n, rfl⟩ : ∃ n : Nat, i = (n : Int) := ⟨i.toNat, by omega⟩
  have e : (wordV (.int (n : Int))).cps.toList = TL.numL n := TL.tl_num n
  have hl : (wordV (.int (n : Int))).length = (TL.numL n).length := by rw [← e]; exact Array.length_toList.symm
  have hd := TL.numL_digits n
  have hf : ∀ c ∈ (wordV (.int (n : Int))).cps.toList, isFig c = true := fun c hc => by
    rw [e] at hc
    exact decide_eq_true (hd c hc)
  refine ⟨?_, hf⟩
  have h12 := TL.numL_len (n := n) (k := 12) (by decide) (by omega)
  have hne : 1 ≤ (TL.numL n).length := by
    cases hq : TL.numL n with
    | nil => exact absurd hq (TL.numL_ne n)
    | cons a r => rw [List.length_cons]; omega
  rw [numOf_some (by omega) (by omega) (List.all_eq_true.mpr hf) (fun z => z.2 (by rw [hl]; exact num_head (by rw [← e]; exact z.1))), e, TL.numL_val]
/-- words without a blank -/
def noBl (z : Str) : Prop := ¬ 32 ∈ z.cps.toList
theorem name_let {z : Str} (h : nameS z = true) : ∀ c ∈ z.cps.toList, isLet c = true := by
  unfold nameS at h
  exact List.all_eq_true.mp (Bool.and_eq_true_iff.mp h).2

/-! ### tables as data -/
mutual
theorem px_det {K : PySem.W.Frag} {H : Hp} : ∀ {v : V} {d e : PyData}, Px K H v d → Px K H v e → d = e
  | _, _, _, .non, h => by cases h; rfl
  | _, _, _, .bl _, h => by cases h; rfl
  | _, _, _, .int _, h => by cases h; rfl
  | _, _, _, .str _ _, h => by cases h; rfl
  | _, _, _, .lst e a, h => by
    cases h with
    | lst e2 a2 =>
      rw [e] at e2
      cases e2
      rw [px_detA a a2]
    | tup e2 _ => rw [e] at e2; cases e2
    | dct e2 _ => rw [e] at e2; cases e2
  | _, _, _, .tup e a, h => by
    cases h with
    | tup e2 a2 =>
      rw [e] at e2
      cases e2
      rw [px_detA a a2]
    | lst e2 _ => rw [e] at e2; cases e2
    | dct e2 _ => rw [e] at e2; cases e2
  | _, _, _, .dct e a, h => by
    cases h with
    | dct e2 a2 =>
      rw [e] at e2
      cases e2
      rw [px_detK a a2]
    | lst e2 _ => rw [e] at e2; cases e2
    | tup e2 _ => rw [e] at e2; cases e2
theorem px_detA {K : PySem.W.Frag} {H : Hp} : ∀ {vs : List V} {ds es : List PyData}, PxAll K H vs ds → PxAll K H vs es → ds = es
  | _, _, _, .nil, h => by cases h; rfl
  | _, _, _, .cons h a, h2 => by
    cases h2 with
    | cons h3 a3 => rw [px_det h h3, px_detA a a3]
theorem px_detK {K : PySem.W.Frag} {H : Hp} : ∀ {vs : List (Key × V)} {ds es : List (PyData × PyData)}, PxKv K H vs ds → PxKv K H vs es → ds = es
  | _, _, _, .nil, h => by cases h; rfl
  | _, _, _, .cons h a, h2 => by
    cases h2 with
    | cons h3 a3 => rw [px_det h h3, px_detK a a3]
end
theorem depth_le_all : ∀ {ds : List PyData} {d : PyData}, d ∈ ds → d.depth ≤ PyData.depthAll ds
  | _ :: ds, d, h => by
    simp only [PyData.depthAll]
    rcases List.mem_cons.mp h with rfl | h
    · omega
    · have := depth_le_all h
      omega
mutual
/-- what is below a thing stands when only the thing itself is changed -/
theorem px_off {K : PySem.W.Frag} {H H' : Hp} {a : Addr} {D : PyData} (hD : Px K H (.ref a) D) (k : ∀ b o, H b = some o → b ≠ a → H' b = some o) : ∀ {v : V} {d : PyData}, Px K H v d → d.depth < D.depth → Px K H' v d
  | _, _, .non, _ => .non
  | _, _, .bl b, _ => .bl b
  | _, _, .int i, _ => .int i
  | _, _, .str x l, _ => .str x l
  | _, _, .lst (ds := ds) e r, l => by
    have z : (PyData.list ds).depth = PyData.depthAll ds + 1 := by simp only [PyData.depth]
    refine .lst (k _ _ e fun z2 => ?_) (px_offA hD k r (by omega))
    subst z2
    rw [px_det hD (.lst e r)] at l
    exact absurd l (Nat.lt_irrefl _)
  | _, _, .tup (ds := ds) e r, l => by
    have z : (PyData.tuple ds).depth = PyData.depthAll ds + 1 := by simp only [PyData.depth]
    refine .tup (k _ _ e fun z2 => ?_) (px_offA hD k r (by omega))
    subst z2
    rw [px_det hD (.tup e r)] at l
    exact absurd l (Nat.lt_irrefl _)
  | _, _, .dct (ds := ds) e r, l => by
    have z : (PyData.dict ds).depth = PyData.depthKv ds + 1 := by simp only [PyData.depth]
    refine .dct (k _ _ e fun z2 => ?_) (px_offK hD k r (by omega))
    subst z2
    rw [px_det hD (.dct e r)] at l
    exact absurd l (Nat.lt_irrefl _)
theorem px_offA {K : PySem.W.Frag} {H H' : Hp} {a : Addr} {D : PyData} (hD : Px K H (.ref a) D) (k : ∀ b o, H b = some o → b ≠ a → H' b = some o) : ∀ {vs : List V} {ds : List PyData}, PxAll K H vs ds → PyData.depthAll ds < D.depth → PxAll K H' vs ds
  | _, _, .nil, _ => .nil
  | _, _, .cons h r, l => by
    simp only [PyData.depthAll] at l
    exact .cons (px_off hD k h (by omega)) (px_offA hD k r (by omega))
theorem px_offK {K : PySem.W.Frag} {H H' : Hp} {a : Addr} {D : PyData} (hD : Px K H (.ref a) D) (k : ∀ b o, H b = some o → b ≠ a → H' b = some o) : ∀ {vs : List (Key × V)} {ds : List (PyData × PyData)}, PxKv K H vs ds → PyData.depthKv ds < D.depth → PxKv K H' vs ds
  | _, _, .nil, _ => .nil
  | _, _, .cons h r, l => by
    simp only [PyData.depthKv] at l
    exact .cons (px_off hD k h (by omega)) (px_offK hD k r (by omega))
end
theorem pxk_get {K : PySem.W.Frag} {H : Hp} : ∀ {kvs : List (Key × V)} {ds : List (PyData × PyData)}, PxKv K H kvs ds → ∀ {i : Nat} {k : Key} {v : V}, kvs[i]? = some (k, v) → ∃ d, ds[i]? = some (keyD k, d) ∧ Px K H v d
  | _, _, .cons h r, 0, k, v, e => by
    cases e
    exact ⟨_, rfl, h⟩
  | _, _, .cons h r, i + 1, k, v, e => by
    obtain ⟨d, e2, h2⟩ := pxk_get r (i := i) (by simpa using e)
    exact ⟨d, by simpa using e2, h2⟩
  | _, _, .nil, i, k, v, e => by cases e
theorem pxk_len {K : PySem.W.Frag} {H : Hp} : ∀ {kvs : List (Key × V)} {ds : List (PyData × PyData)}, PxKv K H kvs ds → kvs.length = ds.length
  | _, _, .nil => rfl
  | _, _, .cons _ r => by rw [List.length_cons, List.length_cons, pxk_len r]
theorem pxa_get {K : PySem.W.Frag} {H : Hp} : ∀ {xs : List V} {ds : List PyData}, PxAll K H xs ds → ∀ {i : Nat} {v : V}, xs[i]? = some v → ∃ d, ds[i]? = some d ∧ Px K H v d
  | _, _, .cons h r, 0, v, e => by
    cases e
    exact ⟨_, rfl, h⟩
  | _, _, .cons h r, i + 1, v, e => by
    obtain ⟨d, e2, h2⟩ := pxa_get r (i := i) (by simpa using e)
    exact ⟨d, by simpa using e2, h2⟩
  | _, _, .nil, i, v, e => by cases e
theorem pxa_len {K : PySem.W.Frag} {H : Hp} : ∀ {xs : List V} {ds : List PyData}, PxAll K H xs ds → xs.length = ds.length
  | _, _, .nil => rfl
  | _, _, .cons _ r => by rw [List.length_cons, List.length_cons, pxa_len r]
theorem px_thing {K : PySem.W.Frag} {H : Hp} {v : V} {d : PyData} (h : Px K H v d) : ThingAt K H v := by
  cases h with
  | non => trivial
  | bl b => trivial
  | int i => trivial
  | str x l => exact l
  | lst e _ => exact .inl ⟨_, .lst e, .inl rfl⟩
  | tup e _ => exact .inl ⟨_, .tup e, .inr (.inl rfl)⟩
  | dct e _ => exact .inl ⟨_, .dK e, .inr (.inr rfl)⟩
def isTupD : PyData → Bool
  | .tuple _ => true
  | _ => false
def isDctD : PyData → Bool
  | .dict _ => true
  | _ => false
def isLstD : PyData → Bool
  | .list _ => true
  | _ => false
def seqD : PyData → Option (List PyData)
  | .list ds => some ds
  | .tuple ds => some ds
  | _ => none
/-- isinstance(v, tuple), isinstance(v, dict), isinstance(v, list) -/
theorem px_isi {K : PySem.W.Frag} {H : Hp} {v : V} {d : PyData} (h : Px K H v d) : ∃ t, TyX K H v t ∧ PySem.W.kitOne K t (.type "tuple") = some (isTupD d) ∧ PySem.W.kitOne K t (.type "dict") = some (isDctD d) ∧ PySem.W.kitOne K t (.type "list") = some (isLstD d) := by
  cases h with
  | non => exact ⟨_, .base .non, kit_ty (by decide +kernel), kit_ty (by decide +kernel), kit_ty (by decide +kernel)⟩
  | bl b => exact ⟨_, .base (.bl b), kit_ty (by show kitB "bool" "tuple" = some false; decide +kernel), kit_ty (by show kitB "bool" "dict" = some false; decide +kernel), kit_ty (by show kitB "bool" "list" = some false; decide +kernel)⟩
  | int i => exact ⟨_, .base (.int i), kit_ty (by show kitB "int" "tuple" = some false; decide +kernel), kit_ty (by show kitB "int" "dict" = some false; decide +kernel), kit_ty (by show kitB "int" "list" = some false; decide +kernel)⟩
  | str x _ => exact ⟨_, .base (.str x), kit_ty (by show kitB "str" "tuple" = some false; decide +kernel), kit_ty (by show kitB "str" "dict" = some false; decide +kernel), kit_ty (by show kitB "str" "list" = some false; decide +kernel)⟩
  | lst e _ => exact ⟨_, .base (.lst e), kit_ty (by show kitB "list" "tuple" = some false; decide +kernel), kit_ty (by show kitB "list" "dict" = some false; decide +kernel), kit_ty (by show kitB "list" "list" = some true; decide +kernel)⟩
  | tup e _ => exact ⟨_, .base (.tup e), kit_ty (by show kitB "tuple" "tuple" = some true; decide +kernel), kit_ty (by show kitB "tuple" "dict" = some false; decide +kernel), kit_ty (by show kitB "tuple" "list" = some false; decide +kernel)⟩
  | dct e _ => exact ⟨_, .base (.dK e), kit_ty (by show kitB "dict" "tuple" = some false; decide +kernel), kit_ty (by show kitB "dict" "dict" = some true; decide +kernel), kit_ty (by show kitB "dict" "list" = some false; decide +kernel)⟩
theorem px_seq {K : PySem.W.Frag} {H : Hp} {v : V} {d : PyData} (h : Px K H v d) : isSeq K H v (seqD d).isSome := by
  cases h with
  | lst e _ => exact lst_seq e
  | tup e _ => exact tup_seq e
  | dct e _ => exact dct_seq e
  | non => exact thing_seq (v := .non) trivial nofun
  | bl b => exact thing_seq (v := .bl b) trivial nofun
  | int i => exact thing_seq (v := .int i) trivial nofun
  | str x l => exact thing_seq (v := .str x) l nofun
/-- an entry: an hour, a channel's name -/
abbrev En := Int × Str
def enV (e : En) : List V := [.int e.1, .str e.2]
def enD (e : En) : PyData := .tuple [.int e.1, .str e.2]
def entD : PyData → Option En
  | .tuple [.int h, .str c] => some (h, c)
  | _ => none
def okEn (b : Int) (cs : List Str) (e : En) : Bool := (decide (b ≤ e.1) && decide (e.1 ≤ 100000000)) && decide (e.2 ∈ cs)
def isEnt (b : Int) (cs : List Str) (d : PyData) : Bool := match entD d with
  | some e => okEn b cs e
  | none => false
def rises (b : Int) (cs : List Str) : Int → List PyData → Bool
  | _, [] => true
  | a, d :: ds => match entD d with
    | some e => (okEn b cs e && decide (a < e.1)) && rises b cs e.1 ds
    | none => false
def areEnts (b : Int) (cs : List Str) (d : PyData) : Bool := match seqD d with
  | some ds => rises b cs (b - 1) ds
  | none => false
def keyIn (vs : List Str) : PyData → Bool
  | .str z => decide (z ∈ vs)
  | _ => false
def isTabD (b : Int) (vs cs : List Str) : PyData → Bool
  | .dict kvs => kvs.all fun kv => keyIn vs kv.1 && areEnts b cs kv.2
  | _ => false
/-- a table, its rows in order -/
abbrev Tb := List (Str × List En)
def rowOf (kv : PyData × PyData) : Option (Str × List En) := match kv.1, seqD kv.2 with
  | .str z, some ds => some (z, ds.filterMap entD)
  | _, _ => none
def tabOf : PyData → Tb
  | .dict kvs => kvs.filterMap rowOf
  | _ => []
/-- the rows of some vessels that have entries -/
def told (vs : List Str) (t : Tb) : Tb := vs.filterMap fun n => match t.lookup n with
  | some (e :: es) => some (n, e :: es)
  | _ => none
def csN (w : Wd) : List Str := w.chans.map (·.2.name)
def vsN (w : Wd) : List Str := (w.brks ++ w.ships).map (·.2.name)
/-- a new table: lists of tuples -/
abbrev Rl := Addr × Str × List En
def kvL (rs : List Rl) : List (Key × V) := rs.map fun r => (Sum.inr r.2.1, .ref r.1)
def RlAt (H : Hp) (a : Addr) (es : List En) : Prop := ∃ ps, H a = some (.lst ps) ∧ RowsAt H ps (es.map enV)
def TbL (H : Hp) (p : Addr) (rs : List Rl) : Prop := H p = some (.dK (kvL rs)) ∧ ∀ r ∈ rs, RlAt H r.1 r.2.2
theorem lcQB {α : Type} {σ : L2.St} {H : Hp} {Q : VK} {J : It} {G : Hp → Prop} {te : TE} {vs : List Nat} {k : Nat} {ws : List (Addr × α)} (w : Walk J (refsOf ws).length G (YAt (refsOf ws))) (hz : ws.length ≤ 100000) (hG : ∀ H', Same H H' → G H') (f : Addr × α → V)
    (hw : ∀ x, wipe ((wipe σ vs).set k (some x)) vs = wipe σ vs) (he : ∀ u ∈ ws, ∀ Q' : VK, Q' (f u) H → te ((wipe σ vs).set k (some (.ref u.1))) H Q') (hq : ∀ D H', Nn H D → Same H H' → H' D = some (.lst (ws.map f)) → Q (.ref D) H') : LcGo J (gName k) tYes (tFrm te) vs σ H Q :=
  lcQ w hz hG f hw he fun D hD => hq D _ ⟨hD⟩ (same_new hD) upd_same
/-- the heap behind a statement for which p was locked -/
theorem lk_same {H H3 H' : Hp} {p : Addr} {od : Obj} {u : HO} (e : H p = some u) (e3 : H3 = upd H p (.frz od u)) (s : Same H3 H') : Same H (upd H' p u) := fun b o h => by
  by_cases z : b = p
  · subst z
    rw [upd_same, ← e, h]
  · rw [upd_ne z]
    refine s _ _ ?_
    rw [e3, upd_ne z]
    exact h
theorem rd_neEmp {K : PySem.W.Frag} {H : Hp} {Q : VK} {p l : Addr} {xs : List V} (h : SqL K H p xs) (h2 : SqL K H l []) (n : p ≠ l) (q : Q (.bl (!xs.isEmpty)) H) : rNeW K (.ref p) (.ref l) H Q := by
  cases xs with
  | nil => exact rd_neW (n := 0) (eqS_lst h h2 AlkAll.nil) q
  | cons x r => exact rd_neWF (n := 0) (eqS_len h h2 n (by simp)) q
/-! ### tables as texts -/
/-- None in a list of None and of tuples -/
def rNoneT : R2 := fun x y H Q => ∃ p xs, x = .non ∧ y = .ref p ∧ H p = some (.lst xs) ∧ (∀ z ∈ xs, z = .non ∨ ∃ t ts, z = .ref t ∧ H t = some (.tup ts)) ∧ Q (.bl (xs.any isNon)) H
theorem memT {X : Cx} {A : Around} {pins : List (Addr × Obj)} {σ : L2.St} {H : Hp} {s : Shared} (I : Inv X pins σ H s) (hu : A.units < cLine) : ∀ {xs : List V} {us : List Value}, Vals xs us → (∀ z ∈ xs, z = .non ∨ ∃ t ts, z = .ref t ∧ H t = some (.tup ts)) →
    (∀ u ∈ us, SeqAt.EqAt A s u .none (PySem.Numpy.isNone u)) ∧ us.any PySem.Numpy.isNone = xs.any isNon
  | _, _, .nil, _ => ⟨(fun _ h => nomatch h), rfl⟩
  | y :: xs, u :: us, .cons r t, f => by
    obtain ⟨h1, h2⟩ := memT I hu t fun z hz => f z (List.mem_cons_of_mem _ hz)
    have hy : SeqAt.EqAt A s u .none (PySem.Numpy.isNone u) ∧ PySem.Numpy.isNone u = isNon y := by
      rcases f y List.mem_cons_self with rfl | ⟨a, ts, rfl, e⟩
      · cases r
        exact ⟨SeqAt.EqAt.same _, rfl⟩
      · cases r
        obtain ⟨ws, r2, p2, _⟩ := I.tuple (sqT_of (K := X.K) e)
        exact ⟨SeqAt.EqAt.tuple_none p2 hu, rfl⟩
    refine ⟨fun v hv => ?_, by rw [List.any_cons, List.any_cons, hy.2, h2]⟩
    rcases List.mem_cons.mp hv with rfl | hv
    · exact hy.1
    · exact h1 v hv
theorem noneInT {X : Cx} (hu : X.A.units + 64 < cLine) : OpR X (compareOp .In) rNoneT := by
  intro pins s σ H x y v u Q I rx ry h
  obtain ⟨p, xs, rfl, rfl, hq, f, q⟩ := h
  cases rx
  cases ry
  obtain ⟨its, rv, hl, _⟩ := I.list (sqL_of (K := X.K) hq)
  have hu1 : X.A.in1.units < cLine := by show X.A.units + 1 < cLine; omega
  obtain ⟨h1, h2⟩ := memT I hu1 rv f
  refine SeqAt.in_listAt PySem.Numpy.isNone hl.isList (fun z hz => h1 z (by simpa using hz)) ⟨.bl _, H, I, rfl, ?_⟩
  rw [show its.toArray.any PySem.Numpy.isNone = its.any PySem.Numpy.isNone by simp, h2]
  exact q
def comS : Str := Str.ofString ", "
def entT (e : En) : Str := wordV (.int e.1) ++ Str.ofString " " ++ e.2
def rowX (r : Str × List En) : Str := r.1 ++ Str.ofString " " ++ Txt.join comS (r.2.map entT)
def tabX (t : Tb) : Str := Txt.join (Str.ofString "\n") (t.map rowX)
/-- rows of at most m entries that can be written -/
structure TbW (m : Nat) (t : Tb) : Prop where
  n : ∀ r ∈ t, nameS r.1 = true
  l : ∀ r ∈ t, r.2.length ≤ m
  e : ∀ r ∈ t, ∀ e ∈ r.2, 0 ≤ e.1 ∧ e.1 < 1000000000000 ∧ nameS e.2 = true
theorem hour_len {i : Int} (h0 : 0 ≤ i) (h1 : i < 1000000000000) : (wordV (.int i)).length ≤ 12 := by
  obtain ⟨n, rfl⟩ : ∃ n : Nat, i = (n : Int) := ⟨i.toNat, by omega⟩
  have e : (wordV (.int (n : Int))).cps.toList = TL.numL n := TL.tl_num n
  have hl : (wordV (.int (n : Int))).length = (TL.numL n).length := by rw [← e]; exact Array.length_toList.symm
  have := TL.numL_len (n := n) (k := 12) (by decide) (by omega)
  omega
theorem name_len8 {z : Str} (h : nameS z = true) : z.length ≤ 8 := by
  unfold nameS at h
  have := of_decide_eq_true (Bool.and_eq_true_iff.mp h).1
  omega
theorem ent_len {e : En} (h0 : 0 ≤ e.1) (h1 : e.1 < 1000000000000) (h2 : nameS e.2 = true) : (entT e).length ≤ 21 := by
  unfold entT
  rw [PySem.Str.length_append, PySem.Str.length_append]
  have := hour_len h0 h1
  have := name_len8 h2
  have : (Str.ofString " ").length = 1 := by decide +kernel
  omega
theorem ents_len {es : List En} {m : Nat} (hl : es.length ≤ m) (h : ∀ e ∈ es, 0 ≤ e.1 ∧ e.1 < 1000000000000 ∧ nameS e.2 = true) : (Txt.join comS (es.map entT)).length ≤ m * 31 := by
  have := join_le (sep := comS) (ys := es.map entT) (m := 21) (fun y hy => by
    obtain ⟨e, he, rfl⟩ := List.mem_map.mp hy
    obtain ⟨h0, h1, h2⟩ := h e he
    exact ent_len h0 h1 h2) (by decide +kernel)
  rw [List.length_map] at this
  have := Nat.mul_le_mul_right 31 hl
  omega
theorem rowX_len {m : Nat} {t : Tb} (h : TbW m t) {r : Str × List En} (hr : r ∈ t) : (rowX r).length ≤ m * 31 + 9 := by
  unfold rowX
  rw [PySem.Str.length_append, PySem.Str.length_append]
  have := ents_len (h.l r hr) (h.e r hr)
  have := name_len8 (h.n r hr)
  have : (Str.ofString " ").length = 1 := by decide +kernel
  omega
/-- a comprehension over pairs, each a tuple of a list, its element flat -/
theorem lcRow2 {α : Type} {K : PySem.W.Frag} {σ : L2.St} {H : Hp} {Q : VK} {J : It} {G : Hp → Prop} {te : TE} {vs : List Nat} {k1 k2 : Nat} {ps : List V} {es : List α} {fx fy : α → V} (w : Walk J ps.length G (YAt ps)) (hr : RowsAt H ps (es.map fun e => [fx e, fy e])) (hz : ps.length ≤ 100000)
    (hG : ∀ H', Same H H' → G H') (f : α → V) (hw : ∀ x y, wipe (((wipe σ vs).set k1 (some x)).set k2 (some y)) vs = wipe σ vs)
    (he : ∀ e ∈ es, ∀ Q' : VK, Q' (f e) H → te (((wipe σ vs).set k1 (some (fx e))).set k2 (some (fy e))) H Q')
    (hq : ∀ D H', Nn H D → Same H H' → H' D = some (.lst (es.map f)) → Q (.ref D) H') : LcGo J (gTup K 2 (gCons (gName k1) (gCons (gName k2) gNil))) tYes (tFrm te) vs σ H Q := by
  have hl : ps.length = es.length := by
    have := hr.len
    rwa [List.length_map] at this
  refine lcgoG w hz (fun i x => ps[i]? = some x) (fun i H x H' _ _ y => y) (fun i acc H' => H' = H ∧ acc = (es.take i).map f) ⟨rfl, rfl⟩ (fun i acc H' D _ p hD => by rw [p.1] at hD ⊢; exact hG _ (same_new hD)) ?_ ?_
  · rintro i x acc H' D hi hla ⟨rfl, rfl⟩ hD hx
    obtain ⟨t, r, rfl, hre, ht⟩ := hr.get hx
    rw [List.getElem?_map] at hre
    obtain ⟨e, hee, rfl⟩ := Option.map_eq_some_iff.mp hre
    have ht' := same_new (o := .lst ((es.take i).map f)) hD _ _ ht
    refine ⟨_, true, hw (fx e) (fy e), fun P q => ?_, fun P q => q, nofun, fun _ Qc q => he e (List.mem_of_getElem? hee) Qc (q _ _ ⟨rfl, ?_⟩)⟩
    · exact ⟨t, _, rfl, sqT_of ht', rfl, _, _, rfl, _, _, rfl, rfl, q⟩
    · rw [List.take_add_one, hee, List.map_append]
      rfl
  · rintro acc H' D hla ⟨rfl, rfl⟩ hD
    rw [hl, List.take_length]
    exact hq D _ ⟨hD⟩ (same_new hD) upd_same
/-- an entry that a text tells -/
def readEnt (z : Str) : Option En := match Txt.split z (Str.ofString " ") with
  | [a, b] => match numOf a with
    | some h => if nameS b = true then some (h, b) else none
    | none => none
  | _ => none
def EntV (H : Hp) : Option En → V → Prop
  | none, v => v = .non
  | some e, v => ∃ t, v = .ref t ∧ H t = some (.tup (enV e))
theorem EntV.keep {H H' : Hp} {o : Option En} {v : V} (h : EntV H o v) (s : Same H H') : EntV H' o v := by
  cases o with
  | none => exact h
  | some e => exact h.imp fun t h => ⟨h.1, s _ _ h.2⟩
def partEs (z : Str) : List (Option En) := (Txt.split z comS).map readEnt
/-- the row that a text tells -/
def readRow (z : Str) : Option (Str × List En) :=
  if nameS (Txt.partition z (Str.ofString " ")).1 = true ∧ (partEs (Txt.partition z (Str.ofString " ")).2.2).all Option.isSome = true then some ((Txt.partition z (Str.ofString " ")).1, (partEs (Txt.partition z (Str.ofString " ")).2.2).filterMap id) else none
/-- the rows of a text, or the number of the first that is none -/
def readRows : Nat → List Str → Tb → Nat ⊕ Tb
  | _, [], t => .inr t
  | i, z :: r, t => match readRow z with
    | some x => if x.1 ∈ t.map (·.1) then .inl i else readRows (i + 1) r (t ++ [x])
    | none => .inl i
def linesOf (z : Str) : List Str := if z = Str.ofString "" then [] else Txt.split z (Str.ofString "\n")
def rowD (r : Str × List En) : PyData × PyData := (.str r.1, .list (r.2.map enD))
def tbD (t : Tb) : PyData := .dict (t.map rowD)
theorem ents_back : ∀ es : List En, (es.map enD).filterMap entD = es
  | [] => rfl
  | e :: r => by
    rw [List.map_cons, List.filterMap_cons, show entD (enD e) = some e from rfl, ents_back r]
theorem tabOf_tbD : ∀ t : Tb, tabOf (tbD t) = t
  | [] => rfl
  | r :: t => by
    have ih : List.filterMap rowOf (t.map rowD) = t := tabOf_tbD t
    show List.filterMap rowOf ((r :: t).map rowD) = r :: t
    have : rowOf (rowD r) = some r := by
      unfold rowOf rowD
      simp only [seqD, ents_back]
    rw [List.map_cons, List.filterMap_cons, ih, this]
/-- entries whose hours rise -/
def GoodE (b : Int) (cs : List Str) (es : List En) : Prop := (∀ e ∈ es, okEn b cs e = true) ∧ es.Pairwise fun a c => a.1 < c.1
theorem good_rises0 {b : Int} {cs : List Str} : ∀ {es : List En} {a : Int}, (∀ e ∈ es, okEn b cs e = true) → (es.Pairwise fun a c => a.1 < c.1) → (∀ e ∈ es, a < e.1) → rises b cs a (es.map enD) = true
  | [], _, _, _, _ => rfl
  | e :: es, a, h1, h2, h3 => by
    rw [List.map_cons, rises, show entD (enD e) = some e from rfl]
    simp only []
    rw [h1 e List.mem_cons_self, decide_eq_true (h3 e List.mem_cons_self), good_rises0 (fun x hx => h1 x (List.mem_cons_of_mem _ hx)) (List.pairwise_cons.mp h2).2 (List.pairwise_cons.mp h2).1]
    rfl
theorem okEn_hour {b : Int} {cs : List Str} {e : En} (h : okEn b cs e = true) : b ≤ e.1 ∧ e.1 ≤ 100000000 ∧ e.2 ∈ cs := by
  unfold okEn at h
  simp only [Bool.and_eq_true, decide_eq_true_eq] at h
  exact ⟨h.1.1, h.1.2, h.2⟩
theorem okEn_mk {b : Int} {cs : List Str} {e : En} (h1 : b ≤ e.1) (h2 : e.1 ≤ 100000000) (h3 : e.2 ∈ cs) : okEn b cs e = true := by
  unfold okEn
  rw [decide_eq_true h1, decide_eq_true h2, decide_eq_true h3]
  rfl
theorem good_rises {b : Int} {cs : List Str} {es : List En} (h : GoodE b cs es) : rises b cs (b - 1) (es.map enD) = true := good_rises0 h.1 h.2 fun e he => by
  have := (okEn_hour (h.1 e he)).1
  omega
theorem GoodE.snoc {b : Int} {cs : List Str} {es : List En} {e : En} (h : GoodE b cs es) (k : okEn b cs e = true) (l : ∀ x ∈ es, x.1 < e.1) : GoodE b cs (es ++ [e]) := by
  refine ⟨fun x hx => ?_, List.pairwise_append.mpr ⟨h.2, List.pairwise_singleton _ _, fun x hx y hy => ?_⟩⟩
  · rcases List.mem_append.mp hx with hx | hx
    · exact h.1 x hx
    · rw [List.mem_singleton.mp hx]
      exact k
  · rw [List.mem_singleton.mp hy]
    exact l x hx
theorem GoodE.init {b : Int} {cs : List Str} {es : List En} {e : En} (h : GoodE b cs (es ++ [e])) : GoodE b cs es ∧ okEn b cs e = true ∧ ∀ x ∈ es, x.1 < e.1 := by
  obtain ⟨h1, h2⟩ := h
  obtain ⟨g1, _, g3⟩ := List.pairwise_append.mp h2
  exact ⟨⟨fun x hx => h1 x (List.mem_append_left _ hx), g1⟩, h1 e (List.mem_append_right _ (List.mem_singleton_self _)), fun x hx => g3 x hx e (List.mem_singleton_self _)⟩
/-- a good table of some vessels, of at most m entries a row -/
structure GoodT (b : Int) (vs cs : List Str) (m : Nat) (t : Tb) : Prop where
  d : (t.map (·.1)).Nodup
  v : ∀ r ∈ t, r.1 ∈ vs
  g : ∀ r ∈ t, GoodE b cs r.2
  l : ∀ r ∈ t, r.2.length ≤ m
theorem GoodT.ok {b : Int} {vs cs : List Str} {m : Nat} {t : Tb} (h : GoodT b vs cs m t) : isTabD b vs cs (tbD t) = true := by
  show (t.map rowD).all _ = true
  rw [List.all_map, List.all_eq_true]
  intro r hr
  show (decide (r.1 ∈ vs) && rises b cs (b - 1) (r.2.map enD)) = true
  rw [decide_eq_true (h.v r hr), good_rises (h.g r hr)]
  rfl
theorem nodup_le {α : Type} [DecidableEq α] : ∀ {l m : List α}, l.Nodup → (∀ x ∈ l, x ∈ m) → l.length ≤ m.length
  | [], _, _, _ => Nat.zero_le _
  | x :: l, m, hd, hs => by
    have h1 := nodup_le (l := l) (m := m.erase x) (List.nodup_cons.mp hd).2 fun y hy => by
      have ne : y ≠ x := fun e => by
        subst e
        exact (List.nodup_cons.mp hd).1 hy
      exact (List.mem_erase_of_ne ne).mpr (hs y (List.mem_cons_of_mem _ hy))
    rw [List.length_erase_of_mem (hs x List.mem_cons_self)] at h1
    have := List.length_pos_of_mem (hs x List.mem_cons_self)
    rw [List.length_cons]
    omega
theorem GoodT.len {b : Int} {vs cs : List Str} {m : Nat} {t : Tb} (h : GoodT b vs cs m t) : t.length ≤ vs.length := by
  have : (t.map (·.1)).length ≤ vs.length := nodup_le h.d fun x hx => by
    obtain ⟨r, hr, rfl⟩ := List.mem_map.mp hx
    exact h.v r hr
  rwa [List.length_map] at this

/-! ### tables: the law's own rows, dicts of lists -/
def vsD (d : Td) : List Str := (d.brks ++ d.ships).map (·.name)
def csD (d : Td) : List Str := d.chans.map (·.name)
theorem rows_0 {H : Hp} {α : Type} {f : α → List V} {nm : α → Str} (hf : ∀ x, ∃ r, f x = .str (nm x) :: r) : ∀ {cs : List α} {ps : List V}, RowsAt H ps (cs.map f) → ∀ {i : Nat} {x : V}, ps[i]? = some x → ∃ t r c, x = .ref t ∧ cs[i]? = some c ∧ H t = some (.tup (.str (nm c) :: r)) := fun {cs ps} h {i x} e => by
  obtain ⟨t, r, rfl, hr, ht⟩ := h.get e
  rw [List.getElem?_map] at hr
  obtain ⟨c, hc, rfl⟩ := Option.map_eq_some_iff.mp hr
  obtain ⟨r, er⟩ := hf c
  exact ⟨t, r, c, rfl, hc, er ▸ ht⟩
theorem chV_0s (c : Ch) : ∃ r, chV c = .str c.name :: r := ⟨_, rfl⟩
theorem veV_0s (v : Ve) : ∃ r, veV v = .str v.name :: r := by
  unfold veV
  split <;> exact ⟨_, rfl⟩
theorem kvL_val {n : Str} : ∀ {rs : List Rl}, (valV (kvL rs) (Sum.inr n) = none ∧ (rs.map (·.2)).lookup n = none) ∨ ∃ r ∈ rs, valV (kvL rs) (Sum.inr n) = some (.ref r.1) ∧ r.2.1 = n ∧ (rs.map (·.2)).lookup n = some r.2.2
  | [] => .inl ⟨rfl, rfl⟩
  | r :: rs => by
    by_cases e : r.2.1 = n
    · refine .inr ⟨r, List.mem_cons_self, ?_, e, ?_⟩
      · unfold valV kvL
        rw [List.map_cons, List.find?_cons, decide_eq_true (congrArg Sum.inr e)]
        rfl
      · rw [List.map_cons]
        show List.lookup n ((r.2.1, r.2.2) :: _) = _
        rw [List.lookup_cons, e, beq_self_eq_true]
    · have ev : valV (kvL (r :: rs)) (Sum.inr n) = valV (kvL rs) (Sum.inr n) := by
        unfold valV kvL
        rw [List.map_cons, List.find?_cons, decide_eq_false fun q => e (Sum.inr.inj q)]
      have el : ((r :: rs).map (·.2)).lookup n = (rs.map (·.2)).lookup n := by
        rw [List.map_cons]
        show List.lookup n ((r.2.1, r.2.2) :: _) = _
        rw [List.lookup_cons, beq_eq_false_iff_ne.mpr (Ne.symm e)]
      rw [ev, el]
      rcases kvL_val (n := n) (rs := rs) with h | ⟨r', h1, h2⟩
      · exact .inl h
      · exact .inr ⟨r', List.mem_cons_of_mem _ h1, h2⟩
theorem rd_dgtF {Q : VK} {H : Hp} {a : Addr} {k : Str} {v : V} {od : Obj} {kvs : List (Key × V)} (h : H a = some (.frz od (.dK kvs))) (l : valV kvs (.inr k) = some v) (q : Q v H) : Dgtb (.ref a) Q (.str k) H := ⟨a, v, rfl, .inl ⟨kvs, .inr k, .inr ⟨od, h⟩, rfl, l.symm⟩, q⟩
theorem nodup_at {α β : Type} {f : α → β} {l : List α} (h : (l.map f).Nodup) {i j : Nat} {x y : α} (h1 : l[i]? = some x) (h2 : l[j]? = some y) (e : f x = f y) : i = j := by
  obtain ⟨l1, e1⟩ := List.getElem?_eq_some_iff.mp h1
  obtain ⟨l2, e2⟩ := List.getElem?_eq_some_iff.mp h2
  have l1' : i < (l.map f).length := by rw [List.length_map]; exact l1
  have l2' : j < (l.map f).length := by rw [List.length_map]; exact l2
  refine (List.getElem_inj (h₀ := l1') (h₁ := l2') h).mp ?_
  rw [List.getElem_map, List.getElem_map, e1, e2, e]
/-! dict(pairs), list(d.items()) -/
def pairV (r : Rl) : List V := [.str r.2.1, .ref r.1]
def rDictP (K : PySem.W.Frag) : List V → Hp → VK → Prop := fun xs H Q => ∃ (a : Addr) (ps : List Addr) (kvs : List (Key × V)), xs = [.ref a] ∧ SqL K H a (ps.map V.ref) ∧ Paired (fun p kv => SqT K H p [kV kv.1, kv.2]) ps kvs ∧ ∀ p, H p = none → Q (.ref p) (upd H p (.dK (mergeK [] kvs)))
theorem dictPK {X : Cx} {K : PySem.W.Frag} (h : X.K = K) (hc : X.calm = true) : CallR X (.type "dict") (rDictP K) := by
  subst h
  exact call_dictP hc
theorem kvL_put0 {rs : List Rl} {r : Rl} (h : r.2.1 ∉ rs.map (·.2.1)) : putK (kvL rs) (Sum.inr r.2.1) (.ref r.1) = kvL (rs ++ [r]) := by
  have hany : ((kvL rs).any fun kv => decide (kv.1 = (Sum.inr r.2.1 : Key))) = false := by
    rw [List.any_eq_false]
    intro kv hkv
    unfold kvL at hkv
    obtain ⟨x, hx, rfl⟩ := List.mem_map.mp hkv
    simp only [decide_eq_true_eq]
    exact fun e => h (Sum.inr.inj e ▸ List.mem_map_of_mem hx)
  unfold putK
  rw [if_neg (by rw [hany]; exact Bool.false_ne_true)]
  unfold kvL
  rw [List.map_append]
  rfl
theorem merge_kvL : ∀ {us rs : List Rl}, ((rs ++ us).map (·.2.1)).Nodup → mergeK (kvL rs) (kvL us) = kvL (rs ++ us)
  | [], rs, _ => by rw [List.append_nil]; rfl
  | r :: us, rs, h => by
    have h1 : r.2.1 ∉ rs.map (·.2.1) := fun m => by
      rw [List.map_append, List.map_cons, List.nodup_append] at h
      exact h.2.2 _ m _ List.mem_cons_self rfl
    show mergeK (putK (kvL rs) (Sum.inr r.2.1) (.ref r.1)) (kvL us) = _
    rw [kvL_put0 h1, merge_kvL (by rw [List.append_assoc]; exact h), List.append_assoc]
    rfl
theorem rd_dictP {K : PySem.W.Frag} {H : Hp} {Q : VK} {a : Addr} {ps : List V} {rs : List Rl} (h : H a = some (.lst ps)) (hr : RowsAt H ps (rs.map pairV)) (nd : (rs.map (·.2.1)).Nodup) (q : ∀ p H', Nn H p → Same H H' → H' p = some (.dK (kvL rs)) → Q (.ref p) H') : rDictP K [.ref a] H Q := by
  have go : ∀ {rs : List Rl} {ps : List V}, RowsAt H ps (rs.map pairV) → ∃ as : List Addr, ps = as.map V.ref ∧ Paired (fun p kv => SqT K H p [kV kv.1, kv.2]) as (kvL rs) := fun {rs} => by
    induction rs with
    | nil =>
      intro ps h
      cases h
      exact ⟨[], rfl, .nil⟩
    | cons r rs ih =>
      intro ps h
      rw [List.map_cons] at h
      cases h with
      | @cons t _ _ _ e k =>
        obtain ⟨as, rfl, p⟩ := ih k
        exact ⟨t :: as, rfl, .cons (sqT_of e) p⟩
  obtain ⟨as, rfl, p⟩ := go hr
  refine ⟨a, as, kvL rs, rfl, sqL_of h, p, fun x hx => ?_⟩
  have m : mergeK [] (kvL rs) = kvL rs := merge_kvL (rs := []) nd
  rw [m]
  exact q x _ ⟨hx⟩ (same_new hx) upd_same
def LiK (Q : VK) : VK := fun x H1 => LiI.rItemsL x H1 Q
theorem rd_listIt {σ : L2.St} {H : Hp} {Q : VK} {te : TE} (h : te σ H (LiK Q)) : LiI.tListItems te σ H Q := h
theorem rd_itemsL {H : Hp} {Q : VK} {d : Addr} {rs : List Rl} (h : H d = some (.dK (kvL rs))) (q : ∀ p ps H', Nn H p → Same H H' → H' p = some (.lst ps) → RowsAt H' ps (rs.map pairV) → Q (.ref p) H') : LiK Q (.ref d) H := by
  refine ⟨d, kvL rs, rfl, h, fun H' p ts s hp h1 h2 e pr => q p _ H' ⟨hp⟩ s e ?_⟩
  clear q h e h1 h2
  generalize hk : kvL rs = kvs at pr
  induction pr generalizing rs with
  | nil =>
    cases rs with
    | nil => exact .nil
    | cons r rs => cases hk
  | cons h1 _ ih =>
    cases rs with
    | nil => cases hk
    | cons r rs =>
      obtain ⟨e1, hk2⟩ := List.cons.inj (show (Sum.inr r.2.1, V.ref r.1) :: kvL rs = _ from hk)
      subst e1
      exact .cons h1 (ih hk2)
local macro_rules | `(tactic| walk_at "rd1") => `(tactic| with_reducible refine My.rd_listIt ?_)
/-- a comprehension over rows, its element a function of the row -/
theorem lc_fn {α : Type} {σ : L2.St} {H : Hp} {Q : VK} {J : It} {G : Hp → Prop} {te : TE} {vs : List Nat} {k : Nat} {ps : List V} {cs : List α} {f : α → List V} (g : α → V) (w : Walk J ps.length G (YAt ps)) (hr : RowsAt H ps (cs.map f)) (hz : ps.length ≤ 100000) (hG : ∀ H', Same H H' → G H')
    (hw : ∀ x, wipe ((wipe σ vs).set k (some x)) vs = wipe σ vs) (he : ∀ t c H' (Q' : VK), c ∈ cs → H' t = some (.tup (f c)) → Q' (g c) H' → te ((wipe σ vs).set k (some (.ref t))) H' Q')
    (q : ∀ D H', Nn H D → Same H H' → H' D = some (.lst (cs.map g)) → Q (.ref D) H') : LcGo J (gName k) tYes (tFrm te) vs σ H Q := by
  refine lcV w hz hG (fun acc us H' => acc = (cs.take us.length).map g) rfl hw (fun i x acc H' Q' hx s pp q' => ?_) (fun acc D H3 s_H3 hD hla pp => ?_)
  · obtain ⟨t, r, rfl, hre, ht⟩ := hr.get hx
    rw [List.getElem?_map] at hre
    obtain ⟨c, hc, rfl⟩ := Option.map_eq_some_iff.mp hre
    refine he t c H' Q' (List.mem_of_getElem? hc) (s _ _ ht) (q' _ _ (Same.refl _) ?_)
    rw [pp]
    have li : (ps.take i).length = i := by
      rw [List.length_take]
      have := (List.getElem?_eq_some_iff.mp hx).1
      omega
    rw [List.length_append, li, List.length_singleton, List.take_add_one, hc, List.map_append]
    rfl
  · have e4 : acc = cs.map g := by rw [pp, hr.len, List.length_map, List.take_length]
    exact q D _ ⟨none_sm0 s_H3 hD⟩ (s_H3.trans (same_new hD)) (by rw [upd_same, e4])
/-- .. its element a new tuple -/
theorem lc_rw {α : Type} {σ : L2.St} {H : Hp} {Q : VK} {J : It} {G : Hp → Prop} {te : TE} {vs : List Nat} {k : Nat} {ps : List V} {cs : List α} {f : α → List V} (g : α → List V) (w : Walk J ps.length G (YAt ps)) (hr : RowsAt H ps (cs.map f)) (hz : ps.length ≤ 100000) (hG : ∀ H', Same H H' → G H')
    (hw : ∀ x, wipe ((wipe σ vs).set k (some x)) vs = wipe σ vs) (he : ∀ t c H' (Q' : VK), c ∈ cs → Same H H' → H' t = some (.tup (f c)) → (∀ x H2, Same H' H2 → H2 x = some (.tup (g c)) → Q' (.ref x) H2) → te ((wipe σ vs).set k (some (.ref t))) H' Q')
    (q : ∀ D ps' H', Nn H D → Same H H' → H' D = some (.lst ps') → RowsAt H' ps' (cs.map g) → Q (.ref D) H') : LcGo J (gName k) tYes (tFrm te) vs σ H Q := by
  refine lcV w hz hG (fun acc us H' => RowsAt H' acc ((cs.take us.length).map g)) .nil hw (fun i x acc H' Q' hx s pp q' => ?_) (fun acc D H3 s_H3 hD hla pp => ?_)
  · obtain ⟨t, r, rfl, hre, ht⟩ := hr.get hx
    rw [List.getElem?_map] at hre
    obtain ⟨c, hc, rfl⟩ := Option.map_eq_some_iff.mp hre
    refine he t c H' Q' (List.mem_of_getElem? hc) s (s _ _ ht) fun x H2 s2 ex => q' _ _ s2 ?_
    have li : (ps.take i).length = i := by
      rw [List.length_take]
      have := (List.getElem?_eq_some_iff.mp hx).1
      omega
    rw [li] at pp
    rw [List.length_append, li, List.length_singleton, List.take_add_one, hc, List.map_append]
    exact (pp.keep s2).snoc ex
  · have e4 : (cs.take ps.length).map g = cs.map g := by rw [hr.len, List.length_map, List.take_length]
    rw [e4] at pp
    have s := same_new (o := .lst acc) hD
    exact q D acc _ ⟨none_sm0 s_H3 hD⟩ (s_H3.trans s) upd_same (pp.keep s)
/-- the names of rows, by a comprehension -/
theorem lc_names {α : Type} {σ : L2.St} {H : Hp} {Q : VK} {J : It} {G : Hp → Prop} {te : TE} {vs : List Nat} {k : Nat} {ps : List V} {cs : List α} {f : α → List V} {nm : α → Str} (w : Walk J ps.length G (YAt ps)) (hf : ∀ x, ∃ r, f x = .str (nm x) :: r) (hr : RowsAt H ps (cs.map f)) (hz : ps.length ≤ 100000) (hG : ∀ H', Same H H' → G H')
    (hw : ∀ x, wipe ((wipe σ vs).set k (some x)) vs = wipe σ vs) (he : ∀ t c r H' (Q' : VK), c ∈ cs → H' t = some (.tup (.str (nm c) :: r)) → Q' (.str (nm c)) H' → te ((wipe σ vs).set k (some (.ref t))) H' Q')
    (q : ∀ D H', Nn H D → Same H H' → H' D = some (.lst (strsV (cs.map nm))) → Q (.ref D) H') : LcGo J (gName k) tYes (tFrm te) vs σ H Q := by
  refine lcV w hz hG (fun acc us H' => acc = strsV ((cs.take us.length).map nm)) rfl hw (fun i x acc H' Q' hx s pp q' => ?_) (fun acc D H3 s_H3 hD hla pp => ?_)
  · obtain ⟨t, r, c, rfl, hc, ht⟩ := rows_0 hf hr hx
    refine he t c r H' Q' (List.mem_of_getElem? hc) (s _ _ ht) (q' _ _ (Same.refl _) ?_)
    rw [pp]
    have li : (ps.take i).length = i := by
      rw [List.length_take]
      have := (List.getElem?_eq_some_iff.mp hx).1
      omega
    rw [List.length_append, li, List.length_singleton, List.take_add_one, hc]
    unfold strsV
    rw [List.map_append, List.map_append]
    rfl
  · have e4 : acc = strsV (cs.map nm) := by rw [pp, hr.len, List.length_map, List.take_length]
    exact q D _ ⟨none_sm0 s_H3 hD⟩ (s_H3.trans (same_new hD)) (by rw [upd_same, e4])
/-! ### a world's rows as lists -/
theorem emod_cases2 {a m : Int} (h0 : 0 ≤ a) (hm : 0 < m) (h : a < 2 * m) : a % m = a ∨ a % m = a - m := by
  by_cases h1 : a < m
  · exact .inl (Int.emod_eq_of_lt h0 h1)
  · refine .inr ?_
    have : a % m = (a - m) % m := by rw [Int.sub_emod, Int.emod_self, Int.sub_zero, Int.emod_emod_of_dvd _ (Int.dvd_refl m)]
    rw [this]
    exact Int.emod_eq_of_lt (by omega) (by omega)
theorem atI_strs2 {ys : List Str} {k : Int} (h0 : 0 ≤ k) (h1 : k < (ys.length : Int)) : ∃ z, z ∈ ys ∧ ys[k.toNat]? = some z ∧ atI (strsV ys) k = some (.str z) := by
  obtain ⟨j, rfl⟩ : ∃ j : Nat, k = (j : Int) := ⟨k.toNat, by omega⟩
  have hj : j < ys.length := by omega
  have e := List.getElem?_eq_getElem hj
  refine ⟨ys[j], List.getElem_mem hj, by rw [Int.toNat_natCast]; exact e, atI_nat ?_⟩
  unfold strsV
  rw [List.getElem?_map, e]
  rfl
theorem nodup_ne2 {ys : List Str} (nd : ys.Nodup) {i j : Nat} {a b : Str} (h1 : ys[i]? = some a) (h2 : ys[j]? = some b) (n : i ≠ j) : a ≠ b := fun e => by
  obtain ⟨l1, e1⟩ := List.getElem?_eq_some_iff.mp h1
  obtain ⟨l2, e2⟩ := List.getElem?_eq_some_iff.mp h2
  exact n ((List.getElem_inj nd).mp (e1.trans (e.trans e2.symm)))
theorem strs_ne_box {H : Hp} {l p : Addr} {n : Nat} {ys : List Str} (e : H l = some (.lst (ys.map V.str))) (b : BoxAt H p n) : l ≠ p := fun h => by
  subst h
  obtain ⟨x, y, z, b, _⟩ := b
  rw [e] at b
  cases ys with
  | nil => cases b
  | cons a r => cases b
/-- a world's rows, as lists -/
def RwL (H : Hp) (p l : Addr) (d : Td) : Prop := ∃ lp lc lk ls pc pk ps, H l = some (.lst [.int d.begin, .ref lp, .ref lc, .ref lk, .ref ls]) ∧ H lp = some (.lst (strsV d.ports)) ∧ H lc = some (.lst pc) ∧ RowsAt H pc (d.chans.map chV) ∧ H lk = some (.lst pk) ∧ RowsAt H pk (d.brks.map veV) ∧ H ls = some (.lst ps) ∧ RowsAt H ps (d.ships.map veV) ∧
  lp ≠ p ∧ lc ≠ p ∧ lk ≠ p ∧ ls ≠ p ∧ l ≠ p
theorem RwL.lt {H H' : Hp} {p l : Addr} {d : Td} (h : RwL H p l d) (kl : ∀ b xs, H b = some (.lst xs) → b ≠ p → H' b = some (.lst xs)) (kt : ∀ b xs, H b = some (.tup xs) → H' b = some (.tup xs)) : RwL H' p l d := by
  obtain ⟨lp, lc, lk, ls, pc, pk, ps, h1, h2, h3, r3, h4, r4, h5, r5, n1, n2, n3, n4, n5⟩ := h
  exact ⟨lp, lc, lk, ls, pc, pk, ps, kl _ _ h1 n5, kl _ _ h2 n1, kl _ _ h3 n2, r3.same kt, kl _ _ h4 n3, r4.same kt, kl _ _ h5 n4, r5.same kt, n1, n2, n3, n4, n5⟩
theorem RwL.kb {H H' : Hp} {p l : Addr} {d : Td} {n : Nat} (h : RwL H p l d) (b : BoxAt H p n) (k : KeepB p H H') : RwL H' p l d := h.lt (fun _ _ e n => k _ _ e n) (kb_tup k b)
theorem RwL.same {H H' : Hp} {p l : Addr} {d : Td} (h : RwL H p l d) (s : Same H H') : RwL H' p l d := h.lt (fun _ _ e _ => s _ _ e) (fun _ _ e => s _ _ e)
/-- .. while they are made: the five lists told by name -/
def RwP (H : Hp) (p l lp lc lk ls : Addr) (d : Td) : Prop := [p, l, lp, lc, lk, ls].Nodup ∧ H l = some (.lst [.int d.begin, .ref lp, .ref lc, .ref lk, .ref ls]) ∧ H lp = some (.lst (strsV d.ports)) ∧
  (∃ pc, H lc = some (.lst pc) ∧ RowsAt H pc (d.chans.map chV)) ∧ (∃ pk, H lk = some (.lst pk) ∧ RowsAt H pk (d.brks.map veV)) ∧ ∃ ps, H ls = some (.lst ps) ∧ RowsAt H ps (d.ships.map veV)
theorem nd6 {p l lp lc lk ls : Addr} (h : [p, l, lp, lc, lk, ls].Nodup) : (l ≠ p ∧ lp ≠ p ∧ lc ≠ p ∧ lk ≠ p ∧ ls ≠ p) ∧ (lc ≠ l ∧ lc ≠ lp ∧ lk ≠ l ∧ lk ≠ lp ∧ lk ≠ lc ∧ ls ≠ l ∧ ls ≠ lp ∧ ls ≠ lc ∧ ls ≠ lk) := by
  simp only [List.nodup_cons, List.mem_cons, List.not_mem_nil, or_false, not_or, List.nodup_nil, and_true, not_false_eq_true] at h
  obtain ⟨⟨a1, a2, a3, a4, a5⟩, ⟨b1, b2, b3, b4⟩, ⟨c1, c2, c3⟩, ⟨d1, d2⟩, e1⟩ := h
  exact ⟨⟨Ne.symm a1, Ne.symm a2, Ne.symm a3, Ne.symm a4, Ne.symm a5⟩, Ne.symm b2, Ne.symm c1, Ne.symm b3, Ne.symm c2, Ne.symm d1, Ne.symm b4, Ne.symm c3, Ne.symm d2, Ne.symm e1⟩
theorem RwP.lt {H H' : Hp} {p l lp lc lk ls : Addr} {d : Td} (h : RwP H p l lp lc lk ls d) (kl : ∀ b xs, H b = some (.lst xs) → b ≠ p → H' b = some (.lst xs)) (kt : ∀ b xs, H b = some (.tup xs) → H' b = some (.tup xs)) : RwP H' p l lp lc lk ls d := by
  obtain ⟨nd, h1, h2, ⟨pc, h3, r3⟩, ⟨pk, h4, r4⟩, ps, h5, r5⟩ := h
  obtain ⟨⟨n1, n2, n3, n4, n5⟩, _⟩ := nd6 nd
  exact ⟨nd, kl _ _ h1 n1, kl _ _ h2 n2, ⟨pc, kl _ _ h3 n3, r3.same kt⟩, ⟨pk, kl _ _ h4 n4, r4.same kt⟩, ps, kl _ _ h5 n5, r5.same kt⟩
theorem RwP.kb {H H' : Hp} {p l lp lc lk ls : Addr} {d : Td} {n : Nat} (h : RwP H p l lp lc lk ls d) (b : BoxAt H p n) (k : KeepB p H H') : RwP H' p l lp lc lk ls d := h.lt (fun _ _ e n => k _ _ e n) (kb_tup k b)
theorem RwP.same {H H' : Hp} {p l lp lc lk ls : Addr} {d : Td} (h : RwP H p l lp lc lk ls d) (s : Same H H') : RwP H' p l lp lc lk ls d := h.lt (fun _ _ e _ => s _ _ e) (fun _ _ e => s _ _ e)
theorem RwP.rwl {H : Hp} {p l lp lc lk ls : Addr} {d : Td} (h : RwP H p l lp lc lk ls d) : RwL H p l d := by
  obtain ⟨nd, h1, h2, ⟨pc, h3, r3⟩, ⟨pk, h4, r4⟩, ps, h5, r5⟩ := h
  obtain ⟨⟨n1, n2, n3, n4, n5⟩, _⟩ := nd6 nd
  exact ⟨lp, lc, lk, ls, pc, pk, ps, h1, h2, h3, r3, h4, r4, h5, r5, n2, n3, n4, n5, n1⟩
theorem RwP.addC {H : Hp} {p l lp lc lk ls t : Addr} {d : Td} {c : Ch} (h : RwP H p l lp lc lk ls d) (ht : H t = some (.tup (chV c))) : ∃ pc, H lc = some (.lst pc) ∧ pc.length = d.chans.length ∧ RwP (upd H lc (.lst (pc ++ [.ref t]))) p l lp lc lk ls { d with chans := d.chans ++ [c] } := by
  obtain ⟨nd, h1, h2, ⟨pc, h3, r3⟩, ⟨pk, h4, r4⟩, ps, h5, r5⟩ := h
  obtain ⟨⟨n1, n2, n3, n4, n5⟩, m1, m2, m3, m4, m5, m6, m7, m8, m9⟩ := nd6 nd
  have kt : ∀ b xs, H b = some (.tup xs) → upd H lc (.lst (pc ++ [.ref t])) b = some (.tup xs) := fun b xs e => by rw [upd_ne (ne_of e h3 nofun)]; exact e
  refine ⟨pc, h3, by have := r3.len; rwa [List.length_map] at this, nd, by rw [upd_ne m1.symm]; exact h1, by rw [upd_ne m2.symm]; exact h2, ⟨_, upd_same, ?_⟩, ⟨pk, by rw [upd_ne m5]; exact h4, r4.same kt⟩, ps, by rw [upd_ne m8]; exact h5, r5.same kt⟩
  rw [List.map_append]
  exact (r3.same kt).snoc (kt _ _ ht)
theorem RwP.addK {H : Hp} {p l lp lc lk ls t : Addr} {d : Td} {c : Ve} (h : RwP H p l lp lc lk ls d) (ht : H t = some (.tup (veV c))) : ∃ pc, H lk = some (.lst pc) ∧ pc.length = d.brks.length ∧ RwP (upd H lk (.lst (pc ++ [.ref t]))) p l lp lc lk ls { d with brks := d.brks ++ [c] } := by
  obtain ⟨nd, h1, h2, ⟨pc, h3, r3⟩, ⟨pk, h4, r4⟩, ps, h5, r5⟩ := h
  obtain ⟨⟨n1, n2, n3, n4, n5⟩, m1, m2, m3, m4, m5, m6, m7, m8, m9⟩ := nd6 nd
  have kt : ∀ b xs, H b = some (.tup xs) → upd H lk (.lst (pk ++ [.ref t])) b = some (.tup xs) := fun b xs e => by rw [upd_ne (ne_of e h4 nofun)]; exact e
  refine ⟨pk, h4, by have := r4.len; rwa [List.length_map] at this, nd, by rw [upd_ne m3.symm]; exact h1, by rw [upd_ne m4.symm]; exact h2, ⟨pc, by rw [upd_ne m5.symm]; exact h3, r3.same kt⟩, ⟨_, upd_same, ?_⟩, ps, by rw [upd_ne m9]; exact h5, r5.same kt⟩
  rw [List.map_append]
  exact (r4.same kt).snoc (kt _ _ ht)
theorem RwP.addS {H : Hp} {p l lp lc lk ls t : Addr} {d : Td} {c : Ve} (h : RwP H p l lp lc lk ls d) (ht : H t = some (.tup (veV c))) : ∃ pc, H ls = some (.lst pc) ∧ pc.length = d.ships.length ∧ RwP (upd H ls (.lst (pc ++ [.ref t]))) p l lp lc lk ls { d with ships := d.ships ++ [c] } := by
  obtain ⟨nd, h1, h2, ⟨pc, h3, r3⟩, ⟨pk, h4, r4⟩, ps, h5, r5⟩ := h
  obtain ⟨⟨n1, n2, n3, n4, n5⟩, m1, m2, m3, m4, m5, m6, m7, m8, m9⟩ := nd6 nd
  have kt : ∀ b xs, H b = some (.tup xs) → upd H ls (.lst (ps ++ [.ref t])) b = some (.tup xs) := fun b xs e => by rw [upd_ne (ne_of e h5 nofun)]; exact e
  refine ⟨ps, h5, by have := r5.len; rwa [List.length_map] at this, nd, by rw [upd_ne m6.symm]; exact h1, by rw [upd_ne m7.symm]; exact h2, ⟨pc, by rw [upd_ne m8.symm]; exact h3, r3.same kt⟩, ⟨pk, by rw [upd_ne m9.symm]; exact h4, r4.same kt⟩, _, upd_same, ?_⟩
  rw [List.map_append]
  exact (r5.same kt).snoc (kt _ _ ht)
theorem cut48 {us : List Str} {r : Nat} : cutV (strsV us) (some 4) (some (4 + (r : Int))) = strsV ((us.drop 4).take r) := by
  have h4 : HT.sIx (strsV us).length 0 (some ((4 : Nat) : Int)) = min 4 (strsV us).length := HT.sIx_nat _ _ _
  have h5 : HT.sIx (strsV us).length (strsV us).length (some (((4 + r : Nat)) : Int)) = min (4 + r) (strsV us).length := HT.sIx_nat _ _ _
  have h4 : HT.sIx (strsV us).length 0 (some 4) = min 4 (strsV us).length := h4
  rw [show (((4 + r : Nat)) : Int) = 4 + (r : Int) by omega] at h5
  unfold cutV
  rw [h4, h5, strs_len]
  unfold strsV
  rw [List.map_take, List.map_drop]
  by_cases h : us.length ≤ 4
  · rw [Nat.min_eq_right h, List.drop_of_length_le (by rw [List.length_map]; exact Nat.le_refl _), List.drop_of_length_le (by rw [List.length_map]; exact h), List.take_nil, List.take_nil]
  · rw [Nat.min_eq_left (by omega : 4 ≤ us.length), List.take_eq_take_iff, List.length_drop, List.length_map]
    omega
theorem cut_strs {us : List Str} {r : Nat} : cutV (strsV us) none (some (r : Int)) = strsV (us.take r) := by
  rw [cutV_to]
  unfold strsV
  rw [List.map_take]
theorem nodup48 {us : List Str} {a b : Nat} (h : us.Nodup) (ha : a ≤ 4) : (us.take a ++ (us.drop 4).take b).Nodup := by
  have sl : List.Sublist (us.take a ++ (us.drop 4).take b) us := by
    have h1 : List.Sublist (us.take a) (us.take 4) := by
      have : us.take a = (us.take 4).take a := by rw [List.take_take]; congr 1; omega
      rw [this]
      exact List.take_sublist _ _
    have h2 := h1.append (List.take_sublist b (us.drop 4))
    rw [List.take_append_drop] at h2
    exact h2
  exact h.sublist sl
/-- an hour about a begin -/
theorem hour_about {bg t e1 e2 : Int} (h0 : 0 ≤ bg) (h1 : bg ≤ 1000000) (t0 : 0 ≤ t) (t1 : t < 4) (h2 : (if decide (1 < bg) = true then 1 else 0) = e1) (h3 : (if decide (bg < 1000000) = true then 1 else 0) = e2) :
    0 ≤ bg - 2 * e1 + t * e2 ∧ bg - 2 * e1 + t * e2 ≤ 1000000 ∧ (e1 = 0 ∨ e1 = 1) ∧ (e2 = 0 ∨ e2 = 1) := by
  by_cases c1 : 1 < bg
  · rw [decide_eq_true c1] at h2
    obtain rfl : e1 = 1 := h2.symm
    by_cases c2 : bg < 1000000
    · rw [decide_eq_true c2] at h3
      obtain rfl : e2 = 1 := h3.symm
      omega
    · rw [decide_eq_false c2] at h3
      obtain rfl : e2 = 0 := h3.symm
      omega
  · rw [decide_eq_false c1] at h2
    obtain rfl : e1 = 0 := h2.symm
    by_cases c2 : bg < 1000000
    · rw [decide_eq_true c2] at h3
      obtain rfl : e2 = 1 := h3.symm
      omega
    · omega
theorem b01 {b : Bool} {e : Int} (h : (if b = true then (1 : Int) else 0) = e) : e = 0 ∨ e = 1 := by
  cases b
  · exact .inl h.symm
  · exact .inr h.symm
theorem atI_lastX (xs : List V) (v : V) : atI (xs ++ [v]) (-1) = some v := by
  unfold atI ixN
  rw [if_neg (by decide), if_pos (by rw [List.length_append, List.length_singleton]; omega)]
  show (xs ++ [v])[_]? = some v
  rw [List.length_append, List.length_singleton, show ((-1 : Int) + ((xs.length + 1 : Nat) : Int)).toNat = xs.length by omega, List.getElem?_append_right (Nat.le_refl _), Nat.sub_self]
  rfl
theorem RlAt.nbox {H : Hp} {a p : Addr} {es : List En} {n : Nat} (h : RlAt H a es) (b : BoxAt H p n) : a ≠ p := fun z => by
  obtain ⟨ps, e, hr⟩ := h
  obtain ⟨x, y, w, e2, _⟩ := b
  rw [z, e2] at e
  cases e
  obtain ⟨t, r, e3, _⟩ := hr.get (i := 0) rfl
  cases e3

theorem rows_refs {α : Type} {H : Hp} {f : α → List V} : ∀ {cs : List α} {ps : List V}, RowsAt H ps (cs.map f) → ∃ ws : List (Addr × α), ps = refsOf ws ∧ ws.map (·.2) = cs ∧ ∀ u ∈ ws, H u.1 = some (.tup (f u.2))
  | [], _, .nil => ⟨[], rfl, rfl, nofun⟩
  | c :: cs, _, .cons (t := t) h k => by
    obtain ⟨ws, rfl, e, h2⟩ := rows_refs k
    refine ⟨(t, c) :: ws, rfl, by rw [List.map_cons, e], fun u hu => ?_⟩
    rcases List.mem_cons.mp hu with rfl | hu
    · exact h
    · exact h2 u hu
/-- the world that tells d -/
structure WdOf (w : Wd) (d : Td) : Prop where
  b : w.begin = d.begin
  p : w.ports = d.ports
  c : w.chans.map (·.2) = d.chans
  k : w.brks.map (·.2) = d.brks
  s : w.ships.map (·.2) = d.ships
theorem WdOf.vs {w : Wd} {d : Td} (h : WdOf w d) : vsN w = (d.brks ++ d.ships).map (·.name) := by
  unfold vsN
  rw [← h.k, ← h.s, List.map_append, List.map_append, List.map_map, List.map_map]
  rfl
theorem WdOf.cs {w : Wd} {d : Td} (h : WdOf w d) : csN w = d.chans.map (·.name) := by
  unfold csN
  rw [← h.c, List.map_map]
  rfl
/-! ### worlds, tables later by some hours -/
def hourD (m : Int) (v : Ve) : Ve := { v with hour := v.hour + m }
def laterD (d : Td) (m : Int) : Td := ⟨d.begin + m, d.ports, d.chans, d.brks.map (hourD m), d.ships.map (hourD m)⟩
def hoursD (d : Td) : List Int := d.begin :: (d.brks.map (·.hour) ++ d.ships.map (·.hour))
theorem hourD_ok {v : Ve} {m : Int} (h : veOk v) (h0 : 0 ≤ m) (h1 : v.hour + m ≤ 1000000) : veOk (hourD m v) := by
  obtain ⟨a, b, c, r⟩ := h
  exact ⟨a, by show 0 ≤ v.hour + m; omega, h1, r⟩
theorem laterOk {d : Td} {m : Int} (ok : TdOk d) (h0 : 0 ≤ m) (h1 : ∀ y ∈ hoursD d, y + m ≤ 1000000) : TdOk (laterD d m) := by
  have hb : d.begin + m ≤ 1000000 := h1 _ List.mem_cons_self
  have hk : ∀ v ∈ d.brks ++ d.ships, v.hour + m ≤ 1000000 := fun v hv => h1 _ (List.mem_cons_of_mem _ (by
    rw [← List.map_append]
    exact List.mem_map_of_mem hv))
  have b0 := ok.b0
  have nm : ((d.brks.map (hourD m) ++ d.ships.map (hourD m)).map (·.name)) = (d.brks ++ d.ships).map (·.name) := by
    rw [← List.map_append, List.map_map]
    rfl
  refine ⟨by show 0 ≤ d.begin + m; omega, hb, ok.p1, ok.p8, ok.c12, by show (d.brks.map _).length ≤ 4; rw [List.length_map]; exact ok.k4, by show (d.ships.map _).length ≤ 6; rw [List.length_map]; exact ok.s6, ok.pn, ok.pd, ok.cd, by rw [show ((laterD d m).brks ++ (laterD d m).ships).map (·.name) = _ from nm]; exact ok.vd, ok.ce, fun u hu => ?_, fun u hu => ?_, fun u hu => ?_, fun u hu => ?_, ok.co, fun u hu => ?_⟩
  · obtain ⟨v, hv, rfl⟩ := List.mem_map.mp hu
    exact ok.ke v hv
  · obtain ⟨v, hv, rfl⟩ := List.mem_map.mp hu
    exact ok.se v hv
  · obtain ⟨v, hv, rfl⟩ := List.mem_map.mp hu
    exact ok.kk v hv
  · obtain ⟨v, hv, rfl⟩ := List.mem_map.mp hu
    exact ok.sk v hv
  · have hu : u ∈ d.brks.map (hourD m) ++ d.ships.map (hourD m) := hu
    rw [← List.map_append] at hu
    obtain ⟨v, hv, rfl⟩ := List.mem_map.mp hu
    obtain ⟨g1, g2⟩ := ok.ko v hv
    exact ⟨hourD_ok g1 h0 (hk v hv), g2⟩
theorem cols_int {cs : List Ve} : (cs.map fun v => V.int v.hour) = (cs.map (·.hour)).map V.int := by rw [List.map_map]; rfl
/-- later rows of a table -/
def shiftR (m : Int) (r : Str × List En) : Str × List En := (r.1, r.2.map fun e => (e.1 + m, e.2))
/-! ### the text -/
def topS (i : Nat) : Stmt := PySem.Challenge.pw_iceopened_k75_later.main.body.getD i (.Pass ⟨0, 0, 0, 0⟩)
abbrev s_wall : Stmt := (topS 0)
abbrev N_wall : List Str := ["k"]
theorem sc_wall : FnScope N_wall ["k"] (defScope s_wall) := ⟨rfl, rfl, rfl, by decide +kernel, rfl, by decide +kernel, by decide +kernel⟩
abbrev s_NoName___init__ : Stmt := (inClass (topS 3) 0)
abbrev N_NoName___init__ : List Str := ["self", "found"]
theorem sc_NoName___init__ : FnScope N_NoName___init__ ["self", "found"] (defScope s_NoName___init__) := ⟨rfl, rfl, rfl, by decide +kernel, rfl, by decide +kernel, by decide +kernel⟩
abbrev s_NoNumber___init__ : Stmt := (inClass (topS 4) 0)
abbrev N_NoNumber___init__ : List Str := ["self", "found"]
theorem sc_NoNumber___init__ : FnScope N_NoNumber___init__ ["self", "found"] (defScope s_NoNumber___init__) := ⟨rfl, rfl, rfl, by decide +kernel, rfl, by decide +kernel, by decide +kernel⟩
abbrev s_NoPort___init__ : Stmt := (inClass (topS 5) 0)
abbrev N_NoPort___init__ : List Str := ["self", "found"]
theorem sc_NoPort___init__ : FnScope N_NoPort___init__ ["self", "found"] (defScope s_NoPort___init__) := ⟨rfl, rfl, rfl, by decide +kernel, rfl, by decide +kernel, by decide +kernel⟩
abbrev s_NoChannel___init__ : Stmt := (inClass (topS 6) 0)
abbrev N_NoChannel___init__ : List Str := ["self", "found"]
theorem sc_NoChannel___init__ : FnScope N_NoChannel___init__ ["self", "found"] (defScope s_NoChannel___init__) := ⟨rfl, rfl, rfl, by decide +kernel, rfl, by decide +kernel, by decide +kernel⟩
abbrev s_NoVessel___init__ : Stmt := (inClass (topS 7) 0)
abbrev N_NoVessel___init__ : List Str := ["self", "found"]
theorem sc_NoVessel___init__ : FnScope N_NoVessel___init__ ["self", "found"] (defScope s_NoVessel___init__) := ⟨rfl, rfl, rfl, by decide +kernel, rfl, by decide +kernel, by decide +kernel⟩
abbrev s_NoWorld___init__ : Stmt := (inClass (topS 8) 0)
abbrev N_NoWorld___init__ : List Str := ["self", "found"]
theorem sc_NoWorld___init__ : FnScope N_NoWorld___init__ ["self", "found"] (defScope s_NoWorld___init__) := ⟨rfl, rfl, rfl, by decide +kernel, rfl, by decide +kernel, by decide +kernel⟩
abbrev s_NoTable___init__ : Stmt := (inClass (topS 9) 0)
abbrev N_NoTable___init__ : List Str := ["self", "found"]
theorem sc_NoTable___init__ : FnScope N_NoTable___init__ ["self", "found"] (defScope s_NoTable___init__) := ⟨rfl, rfl, rfl, by decide +kernel, rfl, by decide +kernel, by decide +kernel⟩
abbrev s_Doubled___init__ : Stmt := (inClass (topS 10) 0)
abbrev N_Doubled___init__ : List Str := ["self", "name"]
theorem sc_Doubled___init__ : FnScope N_Doubled___init__ ["self", "name"] (defScope s_Doubled___init__) := ⟨rfl, rfl, rfl, by decide +kernel, rfl, by decide +kernel, by decide +kernel⟩
abbrev s_is_whole : Stmt := (topS 14)
abbrev N_is_whole : List Str := ["thing"]
theorem sc_is_whole : FnScope N_is_whole ["thing"] (defScope s_is_whole) := ⟨rfl, rfl, rfl, by decide +kernel, rfl, by decide +kernel, by decide +kernel⟩
abbrev s_is_within : Stmt := (topS 15)
abbrev N_is_within : List Str := ["thing", "low", "high"]
theorem sc_is_within : FnScope N_is_within ["thing", "low", "high"] (defScope s_is_within) := ⟨rfl, rfl, rfl, by decide +kernel, rfl, by decide +kernel, by decide +kernel⟩
abbrev s_is_name : Stmt := (topS 16)
abbrev N_is_name : List Str := ["thing", "sign"]
theorem sc_is_name : FnScope N_is_name ["thing"] (defScope s_is_name) := ⟨rfl, rfl, rfl, by decide +kernel, rfl, by decide +kernel, by decide +kernel⟩
abbrev s_is_entry : Stmt := (topS 19)
abbrev N_is_entry : List Str := ["begin", "channels", "thing"]
theorem sc_is_entry : FnScope N_is_entry ["begin", "channels", "thing"] (defScope s_is_entry) := ⟨rfl, rfl, rfl, by decide +kernel, rfl, by decide +kernel, by decide +kernel⟩
abbrev s_are_entries : Stmt := (topS 20)
abbrev N_are_entries : List Str := ["begin", "channels", "thing", "ahead", "entry"]
theorem sc_are_entries : FnScope N_are_entries ["begin", "channels", "thing"] (defScope s_are_entries) := ⟨rfl, rfl, rfl, by decide +kernel, rfl, by decide +kernel, by decide +kernel⟩
abbrev s_is_table : Stmt := (topS 21)
abbrev N_is_table : List Str := ["world", "thing", "names", "channels", "name", "entries", "vessel", "channel"]
theorem sc_is_table : FnScope N_is_table ["world", "thing"] (defScope s_is_table) := ⟨rfl, rfl, rfl, by decide +kernel, rfl, by decide +kernel, by decide +kernel⟩
abbrev s_table_told : Stmt := (topS 22)
abbrev N_table_told : List Str := ["world", "table", "found", "vessel", "entries"]
theorem sc_table_told : FnScope N_table_told ["world", "table"] (defScope s_table_told) := ⟨rfl, rfl, rfl, by decide +kernel, rfl, by decide +kernel, by decide +kernel⟩
abbrev s_need_names : Stmt := (topS 29)
abbrev N_need_names : List Str := ["things", "thing"]
theorem sc_need_names : FnScope N_need_names ["things"] (defScope s_need_names) := ⟨rfl, rfl, rfl, by decide +kernel, rfl, by decide +kernel, by decide +kernel⟩
abbrev s_need_numbers : Stmt := (topS 30)
abbrev N_need_numbers : List Str := ["rows", "thing", "low", "high"]
theorem sc_need_numbers : FnScope N_need_numbers ["rows"] (defScope s_need_numbers) := ⟨rfl, rfl, rfl, by decide +kernel, rfl, by decide +kernel, by decide +kernel⟩
abbrev s_Channel___init__ : Stmt := (inClass (topS 31) 0)
abbrev N_Channel___init__ : List Str := ["self", "name", "one", "other", "hours", "depth", "first", "growth", "most"]
theorem sc_Channel___init__ : FnScope N_Channel___init__ ["self", "name", "one", "other", "hours", "depth", "first", "growth", "most"] (defScope s_Channel___init__) := ⟨rfl, rfl, rfl, by decide +kernel, rfl, by decide +kernel, by decide +kernel⟩
abbrev s_Channel_row : Stmt := (inClass (topS 31) 3)
abbrev N_Channel_row : List Str := ["self"]
theorem sc_Channel_row : FnScope N_Channel_row ["self"] (defScope s_Channel_row) := ⟨rfl, rfl, rfl, by decide +kernel, rfl, by decide +kernel, by decide +kernel⟩
abbrev s_Vessel___init__ : Stmt := (inClass (topS 32) 0)
abbrev N_Vessel___init__ : List Str := ["self", "name", "port", "hour", "strength", "draught"]
theorem sc_Vessel___init__ : FnScope N_Vessel___init__ ["self", "name", "port", "hour", "strength", "draught"] (defScope s_Vessel___init__) := ⟨rfl, rfl, rfl, by decide +kernel, rfl, by decide +kernel, by decide +kernel⟩
abbrev s_Vessel_settle : Stmt := (inClass (topS 32) 1)
abbrev N_Vessel_settle : List Str := ["self", "name", "port", "hour", "strength", "draught"]
theorem sc_Vessel_settle : FnScope N_Vessel_settle ["self", "name", "port", "hour", "strength", "draught"] (defScope s_Vessel_settle) := ⟨rfl, rfl, rfl, by decide +kernel, rfl, by decide +kernel, by decide +kernel⟩
abbrev s_Vessel_thins : Stmt := (inClass (topS 32) 3)
abbrev N_Vessel_thins : List Str := ["self"]
theorem sc_Vessel_thins : FnScope N_Vessel_thins ["self"] (defScope s_Vessel_thins) := ⟨rfl, rfl, rfl, by decide +kernel, rfl, by decide +kernel, by decide +kernel⟩
abbrev s_Vessel_row : Stmt := (inClass (topS 32) 5)
abbrev N_Vessel_row : List Str := ["self"]
theorem sc_Vessel_row : FnScope N_Vessel_row ["self"] (defScope s_Vessel_row) := ⟨rfl, rfl, rfl, by decide +kernel, rfl, by decide +kernel, by decide +kernel⟩
abbrev s_Breaker___init__ : Stmt := (inClass (topS 33) 0)
abbrev N_Breaker___init__ : List Str := ["self", "name", "port", "hour", "strength", "draught", "cut"]
theorem sc_Breaker___init__ : FnScope N_Breaker___init__ ["self", "name", "port", "hour", "strength", "draught", "cut"] (defScope s_Breaker___init__) := ⟨rfl, rfl, rfl, by decide +kernel, rfl, by decide +kernel, by decide +kernel⟩
abbrev s_Breaker_thins : Stmt := (inClass (topS 33) 2)
abbrev N_Breaker_thins : List Str := ["self"]
theorem sc_Breaker_thins : FnScope N_Breaker_thins ["self"] (defScope s_Breaker_thins) := ⟨rfl, rfl, rfl, by decide +kernel, rfl, by decide +kernel, by decide +kernel⟩
abbrev s_Breaker_row : Stmt := (inClass (topS 33) 3)
abbrev N_Breaker_row : List Str := ["self"]
theorem sc_Breaker_row : FnScope N_Breaker_row ["self"] (defScope s_Breaker_row) := ⟨rfl, rfl, rfl, by decide +kernel, rfl, by decide +kernel, by decide +kernel⟩
abbrev s_Ship___init__ : Stmt := (inClass (topS 34) 0)
abbrev N_Ship___init__ : List Str := ["self", "name", "port", "goal", "hour", "strength", "draught"]
theorem sc_Ship___init__ : FnScope N_Ship___init__ ["self", "name", "port", "goal", "hour", "strength", "draught"] (defScope s_Ship___init__) := ⟨rfl, rfl, rfl, by decide +kernel, rfl, by decide +kernel, by decide +kernel⟩
abbrev s_Ship_row : Stmt := (inClass (topS 34) 2)
abbrev N_Ship_row : List Str := ["self"]
theorem sc_Ship_row : FnScope N_Ship_row ["self"] (defScope s_Ship_row) := ⟨rfl, rfl, rfl, by decide +kernel, rfl, by decide +kernel, by decide +kernel⟩
abbrev s_is_list : Stmt := (topS 41)
abbrev N_is_list : List Str := ["thing", "low", "high"]
theorem sc_is_list : FnScope N_is_list ["thing", "low", "high"] (defScope s_is_list) := ⟨rfl, rfl, rfl, by decide +kernel, rfl, by decide +kernel, by decide +kernel⟩
abbrev s_need_kinds : Stmt := (topS 42)
abbrev N_need_kinds : List Str := ["ports", "channels", "breakers", "ships", "port", "one"]
theorem sc_need_kinds : FnScope N_need_kinds ["ports", "channels", "breakers", "ships"] (defScope s_need_kinds) := ⟨rfl, rfl, rfl, by decide +kernel, rfl, by decide +kernel, by decide +kernel⟩
abbrev s_need_unlike : Stmt := (topS 43)
abbrev N_need_unlike : List Str := ["names", "known", "name"]
theorem sc_need_unlike : FnScope N_need_unlike ["names"] (defScope s_need_unlike) := ⟨rfl, rfl, rfl, by decide +kernel, rfl, by decide +kernel, by decide +kernel⟩
abbrev s_need_ports : Stmt := (topS 44)
abbrev N_need_ports : List Str := ["names", "ports", "name"]
theorem sc_need_ports : FnScope N_need_ports ["names", "ports"] (defScope s_need_ports) := ⟨rfl, rfl, rfl, by decide +kernel, rfl, by decide +kernel, by decide +kernel⟩
abbrev s_World___init__ : Stmt := (inClass (topS 45) 0)
abbrev N_World___init__ : List Str := ["self", "begin", "ports", "channels", "breakers", "ships", "channel", "ship", "vessel", "breaker"]
theorem sc_World___init__ : FnScope N_World___init__ ["self", "begin", "ports", "channels", "breakers", "ships"] (defScope s_World___init__) := ⟨rfl, rfl, rfl, by decide +kernel, rfl, by decide +kernel, by decide +kernel⟩
abbrev s_World_begin_hour : Stmt := (inClass (topS 45) 1)
abbrev N_World_begin_hour : List Str := ["self"]
theorem sc_World_begin_hour : FnScope N_World_begin_hour ["self"] (defScope s_World_begin_hour) := ⟨rfl, rfl, rfl, by decide +kernel, rfl, by decide +kernel, by decide +kernel⟩
abbrev s_World_ports : Stmt := (inClass (topS 45) 2)
abbrev N_World_ports : List Str := ["self"]
theorem sc_World_ports : FnScope N_World_ports ["self"] (defScope s_World_ports) := ⟨rfl, rfl, rfl, by decide +kernel, rfl, by decide +kernel, by decide +kernel⟩
abbrev s_World_channels : Stmt := (inClass (topS 45) 3)
abbrev N_World_channels : List Str := ["self"]
theorem sc_World_channels : FnScope N_World_channels ["self"] (defScope s_World_channels) := ⟨rfl, rfl, rfl, by decide +kernel, rfl, by decide +kernel, by decide +kernel⟩
abbrev s_World_breakers : Stmt := (inClass (topS 45) 4)
abbrev N_World_breakers : List Str := ["self"]
theorem sc_World_breakers : FnScope N_World_breakers ["self"] (defScope s_World_breakers) := ⟨rfl, rfl, rfl, by decide +kernel, rfl, by decide +kernel, by decide +kernel⟩
abbrev s_World_ships : Stmt := (inClass (topS 45) 5)
abbrev N_World_ships : List Str := ["self"]
theorem sc_World_ships : FnScope N_World_ships ["self"] (defScope s_World_ships) := ⟨rfl, rfl, rfl, by decide +kernel, rfl, by decide +kernel, by decide +kernel⟩
abbrev s_World_vessels : Stmt := (inClass (topS 45) 6)
abbrev N_World_vessels : List Str := ["self"]
theorem sc_World_vessels : FnScope N_World_vessels ["self"] (defScope s_World_vessels) := ⟨rfl, rfl, rfl, by decide +kernel, rfl, by decide +kernel, by decide +kernel⟩
abbrev s_World_channel : Stmt := (inClass (topS 45) 7)
abbrev N_World_channel : List Str := ["self", "name", "channel"]
theorem sc_World_channel : FnScope N_World_channel ["self", "name"] (defScope s_World_channel) := ⟨rfl, rfl, rfl, by decide +kernel, rfl, by decide +kernel, by decide +kernel⟩
abbrev s_World_vessel : Stmt := (inClass (topS 45) 8)
abbrev N_World_vessel : List Str := ["self", "name", "vessel"]
theorem sc_World_vessel : FnScope N_World_vessel ["self", "name"] (defScope s_World_vessel) := ⟨rfl, rfl, rfl, by decide +kernel, rfl, by decide +kernel, by decide +kernel⟩
abbrev s_World_told : Stmt := (inClass (topS 45) 12)
abbrev N_World_told : List Str := ["self", "channels", "breakers", "ships", "channel", "breaker", "ship"]
theorem sc_World_told : FnScope N_World_told ["self"] (defScope s_World_told) := ⟨rfl, rfl, rfl, by decide +kernel, rfl, by decide +kernel, by decide +kernel⟩
abbrev s_channel_anew : Stmt := (topS 47)
abbrev N_channel_anew : List Str := ["row"]
theorem sc_channel_anew : FnScope N_channel_anew ["row"] (defScope s_channel_anew) := ⟨rfl, rfl, rfl, by decide +kernel, rfl, by decide +kernel, by decide +kernel⟩
abbrev s_breaker_anew : Stmt := (topS 48)
abbrev N_breaker_anew : List Str := ["row"]
theorem sc_breaker_anew : FnScope N_breaker_anew ["row"] (defScope s_breaker_anew) := ⟨rfl, rfl, rfl, by decide +kernel, rfl, by decide +kernel, by decide +kernel⟩
abbrev s_ship_anew : Stmt := (topS 49)
abbrev N_ship_anew : List Str := ["row"]
theorem sc_ship_anew : FnScope N_ship_anew ["row"] (defScope s_ship_anew) := ⟨rfl, rfl, rfl, by decide +kernel, rfl, by decide +kernel, by decide +kernel⟩
abbrev s_world_anew : Stmt := (topS 50)
abbrev N_world_anew : List Str := ["told", "begin", "ports", "channels", "breakers", "ships", "made", "row"]
theorem sc_world_anew : FnScope N_world_anew ["told"] (defScope s_world_anew) := ⟨rfl, rfl, rfl, by decide +kernel, rfl, by decide +kernel, by decide +kernel⟩
abbrev s_later_world : Stmt := (topS 51)
abbrev N_later_world : List Str := ["world", "many", "begin", "ports", "channels", "breakers", "ships", "hours", "row"]
theorem sc_later_world : FnScope N_later_world ["world", "many"] (defScope s_later_world) := ⟨rfl, rfl, rfl, by decide +kernel, rfl, by decide +kernel, by decide +kernel⟩
abbrev s_later_table : Stmt := (topS 52)
abbrev N_later_table : List Str := ["world", "table", "many", "own", "found", "name", "entries", "hour", "channel"]
theorem sc_later_table : FnScope N_later_table ["world", "table", "many"] (defScope s_later_table) := ⟨rfl, rfl, rfl, by decide +kernel, rfl, by decide +kernel, by decide +kernel⟩
abbrev s_law_cell : Stmt := (topS 54)
abbrev N_law_cell : List Str := ["_law_script", "_law_k"]
theorem sc_law_cell : FnScope N_law_cell ["_law_script", "_law_k"] (defScope s_law_cell) := ⟨rfl, rfl, rfl, by decide +kernel, rfl, by decide +kernel, by decide +kernel⟩
abbrev s_law_box : Stmt := (topS 55)
abbrev N_law_box : List Str := ["_law_cell_here"]
theorem sc_law_box : FnScope N_law_box ["_law_cell_here"] (defScope s_law_box) := ⟨rfl, rfl, rfl, by decide +kernel, rfl, by decide +kernel, by decide +kernel⟩
abbrev s_law_take : Stmt := (topS 56)
abbrev N_law_take : List Str := ["_law_box_here", "_law_many", "_law_digit", "_law_one", "_law_other"]
theorem sc_law_take : FnScope N_law_take ["_law_box_here", "_law_many"] (defScope s_law_take) := ⟨rfl, rfl, rfl, by decide +kernel, rfl, by decide +kernel, by decide +kernel⟩
abbrev s_law_names : Stmt := (topS 57)
abbrev N_law_names : List Str := ["_law_box_here", "_law_many", "_law_letters", "_law_way", "_law_first", "_law_step", "_law_words", "_law_stem", "_law_found", "_law_at", "_law_long", "_law_k"]
theorem sc_law_names : FnScope N_law_names ["_law_box_here", "_law_many"] (defScope s_law_names) := ⟨rfl, rfl, rfl, by decide +kernel, rfl, by decide +kernel, by decide +kernel⟩
abbrev s_law_number : Stmt := (topS 58)
abbrev N_law_number : List Str := ["_law_box_here", "_law_low", "_law_high", "_law_way", "_law_number_here"]
theorem sc_law_number : FnScope N_law_number ["_law_box_here", "_law_low", "_law_high"] (defScope s_law_number) := ⟨rfl, rfl, rfl, by decide +kernel, rfl, by decide +kernel, by decide +kernel⟩
abbrev s_law_channel : Stmt := (topS 59)
abbrev N_law_channel : List Str := ["_law_box_here", "_law_name", "_law_ports", "_law_at", "_law_other", "_law_first", "_law_row"]
theorem sc_law_channel : FnScope N_law_channel ["_law_box_here", "_law_name", "_law_ports"] (defScope s_law_channel) := ⟨rfl, rfl, rfl, by decide +kernel, rfl, by decide +kernel, by decide +kernel⟩
abbrev s_law_breaker : Stmt := (topS 60)
abbrev N_law_breaker : List Str := ["_law_box_here", "_law_name", "_law_ports", "_law_row"]
theorem sc_law_breaker : FnScope N_law_breaker ["_law_box_here", "_law_name", "_law_ports"] (defScope s_law_breaker) := ⟨rfl, rfl, rfl, by decide +kernel, rfl, by decide +kernel, by decide +kernel⟩
abbrev s_law_ship : Stmt := (topS 61)
abbrev N_law_ship : List Str := ["_law_box_here", "_law_name", "_law_ports", "_law_row"]
theorem sc_law_ship : FnScope N_law_ship ["_law_box_here", "_law_name", "_law_ports"] (defScope s_law_ship) := ⟨rfl, rfl, rfl, by decide +kernel, rfl, by decide +kernel, by decide +kernel⟩
abbrev s_law_world : Stmt := (topS 62)
abbrev N_law_world : List Str := ["_law_box_here", "_law_sizes", "_law_ports", "_law_channels", "_law_vessels", "_law_rows", "_law_breakers", "_law_ships", "_law_name"]
theorem sc_law_world : FnScope N_law_world ["_law_box_here", "_law_sizes"] (defScope s_law_world) := ⟨rfl, rfl, rfl, by decide +kernel, rfl, by decide +kernel, by decide +kernel⟩
abbrev s_law_few : Stmt := (topS 63)
abbrev N_law_few : List Str := ["_law_box_here", "_law_way", "_law_found"]
theorem sc_law_few : FnScope N_law_few ["_law_box_here"] (defScope s_law_few) := ⟨rfl, rfl, rfl, by decide +kernel, rfl, by decide +kernel, by decide +kernel⟩
abbrev s_law_made : Stmt := (topS 64)
abbrev N_law_made : List Str := ["_law_world_here", "_law_channels", "_law_breakers", "_law_ships", "_law_a", "_law_b", "_law_c", "_law_d", "_law_e", "_law_f", "_law_g", "_law_h"]
theorem sc_law_made : FnScope N_law_made ["_law_world_here"] (defScope s_law_made) := ⟨rfl, rfl, rfl, by decide +kernel, rfl, by decide +kernel, by decide +kernel⟩
abbrev s_law_table : Stmt := (topS 65)
abbrev N_law_table : List Str := ["_law_box_here", "_law_world_here", "_law_names_here", "_law_ways", "_law_found", "_law_name", "_law_hour", "_law_entries", "_law_turn", "_law_rows", "_law_at", "_law_row"]
theorem sc_law_table : FnScope N_law_table ["_law_box_here", "_law_world_here"] (defScope s_law_table) := ⟨rfl, rfl, rfl, by decide +kernel, rfl, by decide +kernel, by decide +kernel⟩
abbrev s_law_anew : Stmt := (topS 66)
abbrev N_law_anew : List Str := ["_law_world_here", "_law_table_here", "_law_found", "_law_row"]
theorem sc_law_anew : FnScope N_law_anew ["_law_world_here", "_law_table_here"] (defScope s_law_anew) := ⟨rfl, rfl, rfl, by decide +kernel, rfl, by decide +kernel, by decide +kernel⟩
abbrev s_law_due : Stmt := (topS 68)
abbrev N_law_due : List Str := ["_law_world_here", "_law_many", "_law_begin", "_law_ports", "_law_channels", "_law_breakers", "_law_ships", "_law_first", "_law_last", "_law_row"]
theorem sc_law_due : FnScope N_law_due ["_law_world_here", "_law_many"] (defScope s_law_due) := ⟨rfl, rfl, rfl, by decide +kernel, rfl, by decide +kernel, by decide +kernel⟩
abbrev s_law_due_table : Stmt := (topS 69)
abbrev N_law_due_table : List Str := ["_law_world_here", "_law_table_here", "_law_many", "_law_found", "_law_name", "_law_entries", "_law_hour", "_law_channel_here"]
theorem sc_law_due_table : FnScope N_law_due_table ["_law_world_here", "_law_table_here", "_law_many"] (defScope s_law_due_table) := ⟨rfl, rfl, rfl, by decide +kernel, rfl, by decide +kernel, by decide +kernel⟩
abbrev s_law_refused : Stmt := (topS 70)
abbrev N_law_refused : List Str := ["_law_made_here", "_law_table_here", "_law_many", "_law_found", "_law_e"]
theorem sc_law_refused : FnScope N_law_refused ["_law_made_here", "_law_table_here", "_law_many"] (defScope s_law_refused) := ⟨rfl, rfl, rfl, by decide +kernel, rfl, by decide +kernel, by decide +kernel⟩
abbrev s_law_right : Stmt := (topS 71)
abbrev N_law_right : List Str := ["_law_box_here", "_law_scene", "_law_made_here", "_law_world_here", "_law_table_here", "_law_most", "_law_kept", "_law_turn", "_law_many", "_law_found", "_law_told", "_law_more", "_law_again", "_law_entries", "_law_far", "_law_row"]
theorem sc_law_right : FnScope N_law_right ["_law_box_here", "_law_scene"] (defScope s_law_right) := ⟨rfl, rfl, rfl, by decide +kernel, rfl, by decide +kernel, by decide +kernel⟩
abbrev s_law : Stmt := (topS 72)
abbrev N_law : List Str := ["_law_script", "_law_ahead", "_law_k", "_law_box_here", "_law_early", "_law_world_here", "_law_first", "_law_last", "_law_scene", "_law_row"]
theorem sc_law : FnScope N_law ["_law_script"] (defScope s_law) := ⟨rfl, rfl, rfl, by decide +kernel, rfl, by decide +kernel, by decide +kernel⟩
set_option genInjectivity false in
set_option genSizeOf false in
/-- what the top has written -/
structure Tx (K : PySem.W.Frag) (mg : Str → Option Value) where
  a_IceError : Addr
  g_IceError : mg "IceError" = some (.ref a_IceError)
  a_NoName : Addr
  g_NoName : mg "NoName" = some (.ref a_NoName)
  a_NoNumber : Addr
  g_NoNumber : mg "NoNumber" = some (.ref a_NoNumber)
  a_NoPort : Addr
  g_NoPort : mg "NoPort" = some (.ref a_NoPort)
  a_NoChannel : Addr
  g_NoChannel : mg "NoChannel" = some (.ref a_NoChannel)
  a_NoVessel : Addr
  g_NoVessel : mg "NoVessel" = some (.ref a_NoVessel)
  a_NoWorld : Addr
  g_NoWorld : mg "NoWorld" = some (.ref a_NoWorld)
  a_NoTable : Addr
  g_NoTable : mg "NoTable" = some (.ref a_NoTable)
  a_Doubled : Addr
  g_Doubled : mg "Doubled" = some (.ref a_Doubled)
  a_Channel : Addr
  g_Channel : mg "Channel" = some (.ref a_Channel)
  a_Vessel : Addr
  g_Vessel : mg "Vessel" = some (.ref a_Vessel)
  a_Breaker : Addr
  g_Breaker : mg "Breaker" = some (.ref a_Breaker)
  a_Ship : Addr
  g_Ship : mg "Ship" = some (.ref a_Ship)
  a_World : Addr
  g_World : mg "World" = some (.ref a_World)
  a_wall : Addr
  d_wall : FuncData
  F_wall : Fun K "_wall" "_wall" s_wall a_wall d_wall
  g_wall : mg "_wall" = some (.ref a_wall)
  b_wall : Binds K d_wall ["k"] []
  a_NoName___init__ : Addr
  d_NoName___init__ : FuncData
  F_NoName___init__ : Fun K "__init__" "NoName.__init__" s_NoName___init__ a_NoName___init__ d_NoName___init__
  b_NoName___init__ : Binds K d_NoName___init__ ["self", "found"] []
  a_NoNumber___init__ : Addr
  d_NoNumber___init__ : FuncData
  F_NoNumber___init__ : Fun K "__init__" "NoNumber.__init__" s_NoNumber___init__ a_NoNumber___init__ d_NoNumber___init__
  b_NoNumber___init__ : Binds K d_NoNumber___init__ ["self", "found"] []
  a_NoPort___init__ : Addr
  d_NoPort___init__ : FuncData
  F_NoPort___init__ : Fun K "__init__" "NoPort.__init__" s_NoPort___init__ a_NoPort___init__ d_NoPort___init__
  b_NoPort___init__ : Binds K d_NoPort___init__ ["self", "found"] []
  a_NoChannel___init__ : Addr
  d_NoChannel___init__ : FuncData
  F_NoChannel___init__ : Fun K "__init__" "NoChannel.__init__" s_NoChannel___init__ a_NoChannel___init__ d_NoChannel___init__
  b_NoChannel___init__ : Binds K d_NoChannel___init__ ["self", "found"] []
  a_NoVessel___init__ : Addr
  d_NoVessel___init__ : FuncData
  F_NoVessel___init__ : Fun K "__init__" "NoVessel.__init__" s_NoVessel___init__ a_NoVessel___init__ d_NoVessel___init__
  b_NoVessel___init__ : Binds K d_NoVessel___init__ ["self", "found"] []
  a_NoWorld___init__ : Addr
  d_NoWorld___init__ : FuncData
  F_NoWorld___init__ : Fun K "__init__" "NoWorld.__init__" s_NoWorld___init__ a_NoWorld___init__ d_NoWorld___init__
  b_NoWorld___init__ : Binds K d_NoWorld___init__ ["self", "found"] []
  a_NoTable___init__ : Addr
  d_NoTable___init__ : FuncData
  F_NoTable___init__ : Fun K "__init__" "NoTable.__init__" s_NoTable___init__ a_NoTable___init__ d_NoTable___init__
  b_NoTable___init__ : Binds K d_NoTable___init__ ["self", "found"] []
  a_Doubled___init__ : Addr
  d_Doubled___init__ : FuncData
  F_Doubled___init__ : Fun K "__init__" "Doubled.__init__" s_Doubled___init__ a_Doubled___init__ d_Doubled___init__
  b_Doubled___init__ : Binds K d_Doubled___init__ ["self", "name"] []
  a_is_whole : Addr
  d_is_whole : FuncData
  F_is_whole : Fun K "is_whole" "is_whole" s_is_whole a_is_whole d_is_whole
  g_is_whole : mg "is_whole" = some (.ref a_is_whole)
  b_is_whole : Binds K d_is_whole ["thing"] []
  a_is_within : Addr
  d_is_within : FuncData
  F_is_within : Fun K "is_within" "is_within" s_is_within a_is_within d_is_within
  g_is_within : mg "is_within" = some (.ref a_is_within)
  b_is_within : Binds K d_is_within ["thing", "low", "high"] []
  a_is_name : Addr
  d_is_name : FuncData
  F_is_name : Fun K "is_name" "is_name" s_is_name a_is_name d_is_name
  g_is_name : mg "is_name" = some (.ref a_is_name)
  b_is_name : Binds K d_is_name ["thing"] []
  a_is_entry : Addr
  d_is_entry : FuncData
  F_is_entry : Fun K "is_entry" "is_entry" s_is_entry a_is_entry d_is_entry
  g_is_entry : mg "is_entry" = some (.ref a_is_entry)
  b_is_entry : Binds K d_is_entry ["begin", "channels", "thing"] []
  a_are_entries : Addr
  d_are_entries : FuncData
  F_are_entries : Fun K "are_entries" "are_entries" s_are_entries a_are_entries d_are_entries
  g_are_entries : mg "are_entries" = some (.ref a_are_entries)
  b_are_entries : Binds K d_are_entries ["begin", "channels", "thing"] []
  a_is_table : Addr
  d_is_table : FuncData
  F_is_table : Fun K "is_table" "is_table" s_is_table a_is_table d_is_table
  g_is_table : mg "is_table" = some (.ref a_is_table)
  b_is_table : Binds K d_is_table ["world", "thing"] []
  a_table_told : Addr
  d_table_told : FuncData
  F_table_told : Fun K "table_told" "table_told" s_table_told a_table_told d_table_told
  g_table_told : mg "table_told" = some (.ref a_table_told)
  b_table_told : Binds K d_table_told ["world", "table"] []
  a_need_names : Addr
  d_need_names : FuncData
  F_need_names : Fun K "need_names" "need_names" s_need_names a_need_names d_need_names
  g_need_names : mg "need_names" = some (.ref a_need_names)
  b_need_names : Binds K d_need_names ["things"] []
  a_need_numbers : Addr
  d_need_numbers : FuncData
  F_need_numbers : Fun K "need_numbers" "need_numbers" s_need_numbers a_need_numbers d_need_numbers
  g_need_numbers : mg "need_numbers" = some (.ref a_need_numbers)
  b_need_numbers : Binds K d_need_numbers ["rows"] []
  a_Channel___init__ : Addr
  d_Channel___init__ : FuncData
  F_Channel___init__ : Fun K "__init__" "Channel.__init__" s_Channel___init__ a_Channel___init__ d_Channel___init__
  b_Channel___init__ : Binds K d_Channel___init__ ["self", "name", "one", "other", "hours", "depth", "first", "growth", "most"] []
  a_Channel_row : Addr
  d_Channel_row : FuncData
  F_Channel_row : Fun K "row" "Channel.row" s_Channel_row a_Channel_row d_Channel_row
  b_Channel_row : Binds K d_Channel_row ["self"] []
  a_Vessel___init__ : Addr
  d_Vessel___init__ : FuncData
  F_Vessel___init__ : Fun K "__init__" "Vessel.__init__" s_Vessel___init__ a_Vessel___init__ d_Vessel___init__
  b_Vessel___init__ : Binds K d_Vessel___init__ ["self", "name", "port", "hour", "strength", "draught"] []
  a_Vessel_settle : Addr
  d_Vessel_settle : FuncData
  F_Vessel_settle : Fun K "settle" "Vessel.settle" s_Vessel_settle a_Vessel_settle d_Vessel_settle
  b_Vessel_settle : Binds K d_Vessel_settle ["self", "name", "port", "hour", "strength", "draught"] []
  a_Vessel_thins : Addr
  d_Vessel_thins : FuncData
  F_Vessel_thins : Fun K "thins" "Vessel.thins" s_Vessel_thins a_Vessel_thins d_Vessel_thins
  b_Vessel_thins : Binds K d_Vessel_thins ["self"] []
  a_Vessel_row : Addr
  d_Vessel_row : FuncData
  F_Vessel_row : Fun K "row" "Vessel.row" s_Vessel_row a_Vessel_row d_Vessel_row
  b_Vessel_row : Binds K d_Vessel_row ["self"] []
  a_Breaker___init__ : Addr
  d_Breaker___init__ : FuncData
  F_Breaker___init__ : Fun K "__init__" "Breaker.__init__" s_Breaker___init__ a_Breaker___init__ d_Breaker___init__
  b_Breaker___init__ : Binds K d_Breaker___init__ ["self", "name", "port", "hour", "strength", "draught", "cut"] []
  a_Breaker_thins : Addr
  d_Breaker_thins : FuncData
  F_Breaker_thins : Fun K "thins" "Breaker.thins" s_Breaker_thins a_Breaker_thins d_Breaker_thins
  b_Breaker_thins : Binds K d_Breaker_thins ["self"] []
  a_Breaker_row : Addr
  d_Breaker_row : FuncData
  F_Breaker_row : Fun K "row" "Breaker.row" s_Breaker_row a_Breaker_row d_Breaker_row
  b_Breaker_row : Binds K d_Breaker_row ["self"] []
  a_Ship___init__ : Addr
  d_Ship___init__ : FuncData
  F_Ship___init__ : Fun K "__init__" "Ship.__init__" s_Ship___init__ a_Ship___init__ d_Ship___init__
  b_Ship___init__ : Binds K d_Ship___init__ ["self", "name", "port", "goal", "hour", "strength", "draught"] []
  a_Ship_row : Addr
  d_Ship_row : FuncData
  F_Ship_row : Fun K "row" "Ship.row" s_Ship_row a_Ship_row d_Ship_row
  b_Ship_row : Binds K d_Ship_row ["self"] []
  a_is_list : Addr
  d_is_list : FuncData
  F_is_list : Fun K "is_list" "is_list" s_is_list a_is_list d_is_list
  g_is_list : mg "is_list" = some (.ref a_is_list)
  b_is_list : Binds K d_is_list ["thing", "low", "high"] []
  a_need_kinds : Addr
  d_need_kinds : FuncData
  F_need_kinds : Fun K "need_kinds" "need_kinds" s_need_kinds a_need_kinds d_need_kinds
  g_need_kinds : mg "need_kinds" = some (.ref a_need_kinds)
  b_need_kinds : Binds K d_need_kinds ["ports", "channels", "breakers", "ships"] []
  a_need_unlike : Addr
  d_need_unlike : FuncData
  F_need_unlike : Fun K "need_unlike" "need_unlike" s_need_unlike a_need_unlike d_need_unlike
  g_need_unlike : mg "need_unlike" = some (.ref a_need_unlike)
  b_need_unlike : Binds K d_need_unlike ["names"] []
  a_need_ports : Addr
  d_need_ports : FuncData
  F_need_ports : Fun K "need_ports" "need_ports" s_need_ports a_need_ports d_need_ports
  g_need_ports : mg "need_ports" = some (.ref a_need_ports)
  b_need_ports : Binds K d_need_ports ["names", "ports"] []
  a_World___init__ : Addr
  d_World___init__ : FuncData
  F_World___init__ : Fun K "__init__" "World.__init__" s_World___init__ a_World___init__ d_World___init__
  b_World___init__ : Binds K d_World___init__ ["self", "begin", "ports", "channels", "breakers", "ships"] []
  a_World_begin_hour : Addr
  d_World_begin_hour : FuncData
  F_World_begin_hour : Fun K "begin_hour" "World.begin_hour" s_World_begin_hour a_World_begin_hour d_World_begin_hour
  b_World_begin_hour : Binds K d_World_begin_hour ["self"] []
  a_World_ports : Addr
  d_World_ports : FuncData
  F_World_ports : Fun K "ports" "World.ports" s_World_ports a_World_ports d_World_ports
  b_World_ports : Binds K d_World_ports ["self"] []
  a_World_channels : Addr
  d_World_channels : FuncData
  F_World_channels : Fun K "channels" "World.channels" s_World_channels a_World_channels d_World_channels
  b_World_channels : Binds K d_World_channels ["self"] []
  a_World_breakers : Addr
  d_World_breakers : FuncData
  F_World_breakers : Fun K "breakers" "World.breakers" s_World_breakers a_World_breakers d_World_breakers
  b_World_breakers : Binds K d_World_breakers ["self"] []
  a_World_ships : Addr
  d_World_ships : FuncData
  F_World_ships : Fun K "ships" "World.ships" s_World_ships a_World_ships d_World_ships
  b_World_ships : Binds K d_World_ships ["self"] []
  a_World_vessels : Addr
  d_World_vessels : FuncData
  F_World_vessels : Fun K "vessels" "World.vessels" s_World_vessels a_World_vessels d_World_vessels
  b_World_vessels : Binds K d_World_vessels ["self"] []
  a_World_channel : Addr
  d_World_channel : FuncData
  F_World_channel : Fun K "channel" "World.channel" s_World_channel a_World_channel d_World_channel
  b_World_channel : Binds K d_World_channel ["self", "name"] []
  a_World_vessel : Addr
  d_World_vessel : FuncData
  F_World_vessel : Fun K "vessel" "World.vessel" s_World_vessel a_World_vessel d_World_vessel
  b_World_vessel : Binds K d_World_vessel ["self", "name"] []
  a_World_told : Addr
  d_World_told : FuncData
  F_World_told : Fun K "told" "World.told" s_World_told a_World_told d_World_told
  b_World_told : Binds K d_World_told ["self"] []
  a_channel_anew : Addr
  d_channel_anew : FuncData
  F_channel_anew : Fun K "channel_anew" "channel_anew" s_channel_anew a_channel_anew d_channel_anew
  g_channel_anew : mg "channel_anew" = some (.ref a_channel_anew)
  b_channel_anew : Binds K d_channel_anew ["row"] []
  a_breaker_anew : Addr
  d_breaker_anew : FuncData
  F_breaker_anew : Fun K "breaker_anew" "breaker_anew" s_breaker_anew a_breaker_anew d_breaker_anew
  g_breaker_anew : mg "breaker_anew" = some (.ref a_breaker_anew)
  b_breaker_anew : Binds K d_breaker_anew ["row"] []
  a_ship_anew : Addr
  d_ship_anew : FuncData
  F_ship_anew : Fun K "ship_anew" "ship_anew" s_ship_anew a_ship_anew d_ship_anew
  g_ship_anew : mg "ship_anew" = some (.ref a_ship_anew)
  b_ship_anew : Binds K d_ship_anew ["row"] []
  a_world_anew : Addr
  d_world_anew : FuncData
  F_world_anew : Fun K "world_anew" "world_anew" s_world_anew a_world_anew d_world_anew
  g_world_anew : mg "world_anew" = some (.ref a_world_anew)
  b_world_anew : Binds K d_world_anew ["told"] []
  a_later_world : Addr
  d_later_world : FuncData
  F_later_world : Fun K "later_world" "later_world" s_later_world a_later_world d_later_world
  g_later_world : mg "later_world" = some (.ref a_later_world)
  b_later_world : Binds K d_later_world ["world", "many"] []
  a_later_table : Addr
  d_later_table : FuncData
  F_later_table : Fun K "later_table" "later_table" s_later_table a_later_table d_later_table
  g_later_table : mg "later_table" = some (.ref a_later_table)
  b_later_table : Binds K d_later_table ["world", "table", "many"] []
  a_law_cell : Addr
  d_law_cell : FuncData
  F_law_cell : Fun K "_law_cell" "_law_cell" s_law_cell a_law_cell d_law_cell
  g_law_cell : mg "_law_cell" = some (.ref a_law_cell)
  b_law_cell : Binds K d_law_cell ["_law_script", "_law_k"] []
  a_law_box : Addr
  d_law_box : FuncData
  F_law_box : Fun K "_law_box" "_law_box" s_law_box a_law_box d_law_box
  g_law_box : mg "_law_box" = some (.ref a_law_box)
  b_law_box : Binds K d_law_box ["_law_cell_here"] []
  a_law_take : Addr
  d_law_take : FuncData
  F_law_take : Fun K "_law_take" "_law_take" s_law_take a_law_take d_law_take
  g_law_take : mg "_law_take" = some (.ref a_law_take)
  b_law_take : Binds K d_law_take ["_law_box_here", "_law_many"] []
  a_law_names : Addr
  d_law_names : FuncData
  F_law_names : Fun K "_law_names" "_law_names" s_law_names a_law_names d_law_names
  g_law_names : mg "_law_names" = some (.ref a_law_names)
  b_law_names : Binds K d_law_names ["_law_box_here", "_law_many"] []
  a_law_number : Addr
  d_law_number : FuncData
  F_law_number : Fun K "_law_number" "_law_number" s_law_number a_law_number d_law_number
  g_law_number : mg "_law_number" = some (.ref a_law_number)
  b_law_number : Binds K d_law_number ["_law_box_here", "_law_low", "_law_high"] []
  a_law_channel : Addr
  d_law_channel : FuncData
  F_law_channel : Fun K "_law_channel" "_law_channel" s_law_channel a_law_channel d_law_channel
  g_law_channel : mg "_law_channel" = some (.ref a_law_channel)
  b_law_channel : Binds K d_law_channel ["_law_box_here", "_law_name", "_law_ports"] []
  a_law_breaker : Addr
  d_law_breaker : FuncData
  F_law_breaker : Fun K "_law_breaker" "_law_breaker" s_law_breaker a_law_breaker d_law_breaker
  g_law_breaker : mg "_law_breaker" = some (.ref a_law_breaker)
  b_law_breaker : Binds K d_law_breaker ["_law_box_here", "_law_name", "_law_ports"] []
  a_law_ship : Addr
  d_law_ship : FuncData
  F_law_ship : Fun K "_law_ship" "_law_ship" s_law_ship a_law_ship d_law_ship
  g_law_ship : mg "_law_ship" = some (.ref a_law_ship)
  b_law_ship : Binds K d_law_ship ["_law_box_here", "_law_name", "_law_ports"] []
  a_law_world : Addr
  d_law_world : FuncData
  F_law_world : Fun K "_law_world" "_law_world" s_law_world a_law_world d_law_world
  g_law_world : mg "_law_world" = some (.ref a_law_world)
  b_law_world : Binds K d_law_world ["_law_box_here", "_law_sizes"] []
  a_law_few : Addr
  d_law_few : FuncData
  F_law_few : Fun K "_law_few" "_law_few" s_law_few a_law_few d_law_few
  g_law_few : mg "_law_few" = some (.ref a_law_few)
  b_law_few : Binds K d_law_few ["_law_box_here"] []
  a_law_made : Addr
  d_law_made : FuncData
  F_law_made : Fun K "_law_made" "_law_made" s_law_made a_law_made d_law_made
  g_law_made : mg "_law_made" = some (.ref a_law_made)
  b_law_made : Binds K d_law_made ["_law_world_here"] []
  a_law_table : Addr
  d_law_table : FuncData
  F_law_table : Fun K "_law_table" "_law_table" s_law_table a_law_table d_law_table
  g_law_table : mg "_law_table" = some (.ref a_law_table)
  b_law_table : Binds K d_law_table ["_law_box_here", "_law_world_here"] []
  a_law_anew : Addr
  d_law_anew : FuncData
  F_law_anew : Fun K "_law_anew" "_law_anew" s_law_anew a_law_anew d_law_anew
  g_law_anew : mg "_law_anew" = some (.ref a_law_anew)
  b_law_anew : Binds K d_law_anew ["_law_world_here", "_law_table_here"] []
  a_law_due : Addr
  d_law_due : FuncData
  F_law_due : Fun K "_law_due" "_law_due" s_law_due a_law_due d_law_due
  g_law_due : mg "_law_due" = some (.ref a_law_due)
  b_law_due : Binds K d_law_due ["_law_world_here", "_law_many"] []
  a_law_due_table : Addr
  d_law_due_table : FuncData
  F_law_due_table : Fun K "_law_due_table" "_law_due_table" s_law_due_table a_law_due_table d_law_due_table
  g_law_due_table : mg "_law_due_table" = some (.ref a_law_due_table)
  b_law_due_table : Binds K d_law_due_table ["_law_world_here", "_law_table_here", "_law_many"] []
  a_law_refused : Addr
  d_law_refused : FuncData
  F_law_refused : Fun K "_law_refused" "_law_refused" s_law_refused a_law_refused d_law_refused
  g_law_refused : mg "_law_refused" = some (.ref a_law_refused)
  b_law_refused : Binds K d_law_refused ["_law_made_here", "_law_table_here", "_law_many"] []
  a_law_right : Addr
  d_law_right : FuncData
  F_law_right : Fun K "_law_right" "_law_right" s_law_right a_law_right d_law_right
  g_law_right : mg "_law_right" = some (.ref a_law_right)
  b_law_right : Binds K d_law_right ["_law_box_here", "_law_scene"] []
  a_law : Addr
  d_law : FuncData
  F_law : Fun K "law" "law" s_law a_law d_law
  g_law : mg "law" = some (.ref a_law)
  b_law : Binds K d_law ["_law_script"] []
  cl_Channel : Cls K a_Channel
  n_Channel_name : NoAttr K a_Channel "name"
  n_Channel_one : NoAttr K a_Channel "one"
  n_Channel_other : NoAttr K a_Channel "other"
  n_Channel_hours : NoAttr K a_Channel "hours"
  n_Channel_depth : NoAttr K a_Channel "depth"
  n_Channel_first : NoAttr K a_Channel "first"
  n_Channel_growth : NoAttr K a_Channel "growth"
  n_Channel_most : NoAttr K a_Channel "most"
  cl_Vessel : Cls K a_Vessel
  n_Vessel_name : NoAttr K a_Vessel "name"
  n_Vessel_port : NoAttr K a_Vessel "port"
  n_Vessel_hour : NoAttr K a_Vessel "hour"
  n_Vessel_strength : NoAttr K a_Vessel "strength"
  n_Vessel_draught : NoAttr K a_Vessel "draught"
  cl_Breaker : Cls K a_Breaker
  n_Breaker_name : NoAttr K a_Breaker "name"
  n_Breaker_port : NoAttr K a_Breaker "port"
  n_Breaker_hour : NoAttr K a_Breaker "hour"
  n_Breaker_strength : NoAttr K a_Breaker "strength"
  n_Breaker_draught : NoAttr K a_Breaker "draught"
  n_Breaker_cut : NoAttr K a_Breaker "cut"
  cl_Ship : Cls K a_Ship
  n_Ship_name : NoAttr K a_Ship "name"
  n_Ship_port : NoAttr K a_Ship "port"
  n_Ship_hour : NoAttr K a_Ship "hour"
  n_Ship_strength : NoAttr K a_Ship "strength"
  n_Ship_draught : NoAttr K a_Ship "draught"
  n_Ship_goal : NoAttr K a_Ship "goal"
  cl_World : Cls K a_World
  n_World_beginning : NoAttr K a_World "beginning"
  n_World_all_ports : NoAttr K a_World "all_ports"
  n_World_all_channels : NoAttr K a_World "all_channels"
  n_World_all_breakers : NoAttr K a_World "all_breakers"
  n_World_all_ships : NoAttr K a_World "all_ships"
  hn_class : PySem.W.specialIn K (.builtin "object.__class__") "__get__" = some (some (.builtin "getset_descriptor.__get__"))
  ht_class : PySem.W.takesIn K (.builtin "object.__class__") = some true
  ic_Channel : PySem.W.findIn K (.ref a_Channel) "__class__" = some (some (.builtin "object.__class__"))
  im_Channel : PySem.W.mroIn K a_Channel (.type "object") = some true
  eq_Channel : EqC K a_Channel
  ob_Channel : OwnTy K a_Channel
  ki_Channel_Breaker : PySem.W.kitOne K (.ref a_Channel) (.ref a_Breaker) = some false
  ki_Channel_Channel : PySem.W.kitOne K (.ref a_Channel) (.ref a_Channel) = some true
  ki_Channel_Ship : PySem.W.kitOne K (.ref a_Channel) (.ref a_Ship) = some false
  ic_Vessel : PySem.W.findIn K (.ref a_Vessel) "__class__" = some (some (.builtin "object.__class__"))
  im_Vessel : PySem.W.mroIn K a_Vessel (.type "object") = some true
  eq_Vessel : EqC K a_Vessel
  ob_Vessel : OwnTy K a_Vessel
  ki_Vessel_Breaker : PySem.W.kitOne K (.ref a_Vessel) (.ref a_Breaker) = some false
  ki_Vessel_Channel : PySem.W.kitOne K (.ref a_Vessel) (.ref a_Channel) = some false
  ki_Vessel_Ship : PySem.W.kitOne K (.ref a_Vessel) (.ref a_Ship) = some false
  ic_Breaker : PySem.W.findIn K (.ref a_Breaker) "__class__" = some (some (.builtin "object.__class__"))
  im_Breaker : PySem.W.mroIn K a_Breaker (.type "object") = some true
  eq_Breaker : EqC K a_Breaker
  ob_Breaker : OwnTy K a_Breaker
  ki_Breaker_Breaker : PySem.W.kitOne K (.ref a_Breaker) (.ref a_Breaker) = some true
  ki_Breaker_Channel : PySem.W.kitOne K (.ref a_Breaker) (.ref a_Channel) = some false
  ki_Breaker_Ship : PySem.W.kitOne K (.ref a_Breaker) (.ref a_Ship) = some false
  ic_Ship : PySem.W.findIn K (.ref a_Ship) "__class__" = some (some (.builtin "object.__class__"))
  im_Ship : PySem.W.mroIn K a_Ship (.type "object") = some true
  eq_Ship : EqC K a_Ship
  ob_Ship : OwnTy K a_Ship
  ki_Ship_Breaker : PySem.W.kitOne K (.ref a_Ship) (.ref a_Breaker) = some false
  ki_Ship_Channel : PySem.W.kitOne K (.ref a_Ship) (.ref a_Channel) = some false
  ki_Ship_Ship : PySem.W.kitOne K (.ref a_Ship) (.ref a_Ship) = some true
  ic_World : PySem.W.findIn K (.ref a_World) "__class__" = some (some (.builtin "object.__class__"))
  im_World : PySem.W.mroIn K a_World (.type "object") = some true
  eq_World : EqC K a_World
  ob_World : OwnTy K a_World
  ki_World_Breaker : PySem.W.kitOne K (.ref a_World) (.ref a_Breaker) = some false
  ki_World_Channel : PySem.W.kitOne K (.ref a_World) (.ref a_Channel) = some false
  ki_World_Ship : PySem.W.kitOne K (.ref a_World) (.ref a_Ship) = some false
  mk_Breaker : Mk K a_Breaker a_Breaker___init__
  mk_Channel : Mk K a_Channel a_Channel___init__
  mk_Ship : Mk K a_Ship a_Ship___init__
  mk_World : Mk K a_World a_World___init__
  me_Breaker_row : Meth K a_Breaker "row" a_Breaker_row
  me_Breaker_settle : Meth K a_Breaker "settle" a_Vessel_settle
  me_Channel_row : Meth K a_Channel "row" a_Channel_row
  me_Ship_row : Meth K a_Ship "row" a_Ship_row
  me_Ship_settle : Meth K a_Ship "settle" a_Vessel_settle
  me_Vessel_settle : Meth K a_Vessel "settle" a_Vessel_settle
  me_World_begin_hour : Meth K a_World "begin_hour" a_World_begin_hour
  me_World_channels : Meth K a_World "channels" a_World_channels
  me_World_told : Meth K a_World "told" a_World_told
  me_World_vessels : Meth K a_World "vessels" a_World_vessels
  rd_Vessel : PySem.W.readsIn K a_Vessel (.type "type") = true
  ga_Vessel : PySem.W.specialIn K (.ref a_Vessel) "__getattribute__" = some (some (.builtin "type.__getattribute__"))
  rd_IceError : PySem.W.readsIn K a_IceError (.type "type") = true
  ga_IceError : PySem.W.specialIn K (.ref a_IceError) "__getattribute__" = some (some (.builtin "type.__getattribute__"))
  vi_IceError : PySem.W.findCls K (.ref a_IceError) (.type "type") "__init__" = some (.val (.builtin "ValueError.__init__"))
  cm_Vessel___init__ : PySem.W.findCls K (.ref a_Vessel) (.type "type") "__init__" = some (.val (.ref a_Vessel___init__))
  cm_Vessel_row : PySem.W.findCls K (.ref a_Vessel) (.type "type") "row" = some (.val (.ref a_Vessel_row))
  ox_NoName : OexC K a_NoName
  ix_NoName : PySem.W.findIn K (.ref a_NoName) "__init__" = some (some (.ref a_NoName___init__))
  tx_NoName : PySem.W.typeIn K (.ref a_NoName___init__) = some (.type "function")
  xf_NoName : XfC K a_NoName
  n_NoName_found : PySem.W.findIn K (.ref a_NoName) "found" = some none
  ox_NoNumber : OexC K a_NoNumber
  ix_NoNumber : PySem.W.findIn K (.ref a_NoNumber) "__init__" = some (some (.ref a_NoNumber___init__))
  tx_NoNumber : PySem.W.typeIn K (.ref a_NoNumber___init__) = some (.type "function")
  xf_NoNumber : XfC K a_NoNumber
  n_NoNumber_found : PySem.W.findIn K (.ref a_NoNumber) "found" = some none
  ox_NoPort : OexC K a_NoPort
  ix_NoPort : PySem.W.findIn K (.ref a_NoPort) "__init__" = some (some (.ref a_NoPort___init__))
  tx_NoPort : PySem.W.typeIn K (.ref a_NoPort___init__) = some (.type "function")
  xf_NoPort : XfC K a_NoPort
  n_NoPort_found : PySem.W.findIn K (.ref a_NoPort) "found" = some none
  ox_NoChannel : OexC K a_NoChannel
  ix_NoChannel : PySem.W.findIn K (.ref a_NoChannel) "__init__" = some (some (.ref a_NoChannel___init__))
  tx_NoChannel : PySem.W.typeIn K (.ref a_NoChannel___init__) = some (.type "function")
  xf_NoChannel : XfC K a_NoChannel
  n_NoChannel_found : PySem.W.findIn K (.ref a_NoChannel) "found" = some none
  ox_NoVessel : OexC K a_NoVessel
  ix_NoVessel : PySem.W.findIn K (.ref a_NoVessel) "__init__" = some (some (.ref a_NoVessel___init__))
  tx_NoVessel : PySem.W.typeIn K (.ref a_NoVessel___init__) = some (.type "function")
  xf_NoVessel : XfC K a_NoVessel
  n_NoVessel_found : PySem.W.findIn K (.ref a_NoVessel) "found" = some none
  ox_NoWorld : OexC K a_NoWorld
  ix_NoWorld : PySem.W.findIn K (.ref a_NoWorld) "__init__" = some (some (.ref a_NoWorld___init__))
  tx_NoWorld : PySem.W.typeIn K (.ref a_NoWorld___init__) = some (.type "function")
  xf_NoWorld : XfC K a_NoWorld
  n_NoWorld_found : PySem.W.findIn K (.ref a_NoWorld) "found" = some none
  ox_NoTable : OexC K a_NoTable
  ix_NoTable : PySem.W.findIn K (.ref a_NoTable) "__init__" = some (some (.ref a_NoTable___init__))
  tx_NoTable : PySem.W.typeIn K (.ref a_NoTable___init__) = some (.type "function")
  xf_NoTable : XfC K a_NoTable
  n_NoTable_found : PySem.W.findIn K (.ref a_NoTable) "found" = some none
  ox_Doubled : OexC K a_Doubled
  ix_Doubled : PySem.W.findIn K (.ref a_Doubled) "__init__" = some (some (.ref a_Doubled___init__))
  tx_Doubled : PySem.W.typeIn K (.ref a_Doubled___init__) = some (.type "function")
  xf_Doubled : XfC K a_Doubled
  n_Doubled_name : PySem.W.findIn K (.ref a_Doubled) "name" = some none
  te_NoName_IceError : PySem.W.exmOne K (.ref a_NoName) (.ref a_IceError) = some true
  te_NoNumber_IceError : PySem.W.exmOne K (.ref a_NoNumber) (.ref a_IceError) = some true
  te_NoPort_IceError : PySem.W.exmOne K (.ref a_NoPort) (.ref a_IceError) = some true
  te_NoChannel_IceError : PySem.W.exmOne K (.ref a_NoChannel) (.ref a_IceError) = some true
  te_NoVessel_IceError : PySem.W.exmOne K (.ref a_NoVessel) (.ref a_IceError) = some true
  te_NoWorld_IceError : PySem.W.exmOne K (.ref a_NoWorld) (.ref a_IceError) = some true
  te_NoTable_IceError : PySem.W.exmOne K (.ref a_NoTable) (.ref a_IceError) = some true
  te_Doubled_IceError : PySem.W.exmOne K (.ref a_Doubled) (.ref a_IceError) = some true
  te_NoName_NoNumber : PySem.W.exmOne K (.ref a_NoName) (.ref a_NoNumber) = some false
  te_NoNumber_NoNumber : PySem.W.exmOne K (.ref a_NoNumber) (.ref a_NoNumber) = some true
  te_NoPort_NoNumber : PySem.W.exmOne K (.ref a_NoPort) (.ref a_NoNumber) = some false
  te_NoChannel_NoNumber : PySem.W.exmOne K (.ref a_NoChannel) (.ref a_NoNumber) = some false
  te_NoVessel_NoNumber : PySem.W.exmOne K (.ref a_NoVessel) (.ref a_NoNumber) = some false
  te_NoWorld_NoNumber : PySem.W.exmOne K (.ref a_NoWorld) (.ref a_NoNumber) = some false
  te_NoTable_NoNumber : PySem.W.exmOne K (.ref a_NoTable) (.ref a_NoNumber) = some false
  te_Doubled_NoNumber : PySem.W.exmOne K (.ref a_Doubled) (.ref a_NoNumber) = some false
  m_all : mg "all" = none
  m_bool : mg "bool" = none
  m_dict : mg "dict" = none
  m_int : mg "int" = none
  m_isinstance : mg "isinstance" = none
  m_len : mg "len" = none
  m_list : mg "list" = none
  m_max : mg "max" = none
  m_min : mg "min" = none
  m_range : mg "range" = none
  m_repr : mg "repr" = none
  m_str : mg "str" = none
  m_tuple : mg "tuple" = none
  c_LETTERS : ∃ u, mg "LETTERS" = some u ∧ RelV (.str "abcdefghijklmnopqrstuvwxyz") u
  c_LONGEST_NAME : ∃ u, mg "LONGEST_NAME" = some u ∧ RelV (.int 8) u
  c_LAST_HOUR : ∃ u, mg "LAST_HOUR" = some u ∧ RelV (.int 100000000) u
  c_MOST_HOUR : ∃ u, mg "MOST_HOUR" = some u ∧ RelV (.int 1000000) u
  c_MOST_ICE : ∃ u, mg "MOST_ICE" = some u ∧ RelV (.int 1000000) u
  c_MOST_DEPTH : ∃ u, mg "MOST_DEPTH" = some u ∧ RelV (.int 1000) u
  c_MOST_LENGTH : ∃ u, mg "MOST_LENGTH" = some u ∧ RelV (.int 1000) u
  c_MOST_GROWTH : ∃ u, mg "MOST_GROWTH" = some u ∧ RelV (.int 1000) u
  c_MOST_BEGIN : ∃ u, mg "MOST_BEGIN" = some u ∧ RelV (.int 1000000) u
  c_MOST_PORTS : ∃ u, mg "MOST_PORTS" = some u ∧ RelV (.int 8) u
  c_MOST_CHANNELS : ∃ u, mg "MOST_CHANNELS" = some u ∧ RelV (.int 12) u
  c_MOST_BREAKERS : ∃ u, mg "MOST_BREAKERS" = some u ∧ RelV (.int 4) u
  c_MOST_SHIPS : ∃ u, mg "MOST_SHIPS" = some u ∧ RelV (.int 6) u
local macro_rules | `(tactic| walk_at "cls") => `(tactic| first | exact My.Tx.cl_Channel (by assumption) | exact My.Tx.cl_Vessel (by assumption) | exact My.Tx.cl_Breaker (by assumption) | exact My.Tx.cl_Ship (by assumption) | exact My.Tx.cl_World (by assumption))
local macro_rules | `(tactic| walk_at "noattr") => `(tactic| first | exact My.Tx.n_Channel_name (by assumption) | exact My.Tx.n_Channel_one (by assumption) | exact My.Tx.n_Channel_other (by assumption) | exact My.Tx.n_Channel_hours (by assumption) | exact My.Tx.n_Channel_depth (by assumption) | exact My.Tx.n_Channel_first (by assumption) | exact My.Tx.n_Channel_growth (by assumption) | exact My.Tx.n_Channel_most (by assumption) | exact My.Tx.n_Vessel_name (by assumption) | exact My.Tx.n_Vessel_port (by assumption) | exact My.Tx.n_Vessel_hour (by assumption) | exact My.Tx.n_Vessel_strength (by assumption) | exact My.Tx.n_Vessel_draught (by assumption) | exact My.Tx.n_Breaker_name (by assumption) | exact My.Tx.n_Breaker_port (by assumption) | exact My.Tx.n_Breaker_hour (by assumption) | exact My.Tx.n_Breaker_strength (by assumption) | exact My.Tx.n_Breaker_draught (by assumption) | exact My.Tx.n_Breaker_cut (by assumption) | exact My.Tx.n_Ship_name (by assumption) | exact My.Tx.n_Ship_port (by assumption) | exact My.Tx.n_Ship_hour (by assumption) | exact My.Tx.n_Ship_strength (by assumption) | exact My.Tx.n_Ship_draught (by assumption) | exact My.Tx.n_Ship_goal (by assumption) | exact My.Tx.n_World_beginning (by assumption) | exact My.Tx.n_World_all_ports (by assumption) | exact My.Tx.n_World_all_channels (by assumption) | exact My.Tx.n_World_all_breakers (by assumption) | exact My.Tx.n_World_all_ships (by assumption))
section
variable {P : Program} {w : World} {K : PySem.W.Frag} {mg : Str → Option Value} {base : Heap}
def ChanAt (T : Tx K mg) (H : Hp) (a : Addr) (c : Ch) : Prop := ∃ dx, H a = some (.ins T.a_Channel dx (chF c))

def veC (T : Tx K mg) : Nat → Addr
  | 0 => T.a_Vessel
  | 1 => T.a_Breaker
  | _ => T.a_Ship
def VeAt (T : Tx K mg) (H : Hp) (a : Addr) (v : Ve) : Prop := v.kind < 3 ∧ ∃ dx, H a = some (.ins (veC T v.kind) dx (veF v))
theorem VeAt.keep {T : Tx K mg} {H H' : Hp} {a : Addr} {v : Ve} (s : Same H H') (h : VeAt T H a v) : VeAt T H' a v := ⟨h.1, h.2.elim fun dx e => ⟨dx, s _ _ e⟩⟩
theorem VeAt.put {T : Tx K mg} {H : Hp} {a l : Addr} {v : Ve} {xs : List V} {o : HO} (hl : H l = some (.lst xs)) (h : VeAt T H a v) : VeAt T (upd H l o) a v := by
  obtain ⟨hk, dx, h⟩ := h
  exact ⟨hk, dx, by rw [upd_ne (ne_of h hl nofun)]; exact h⟩
theorem ve_cl (T : Tx K mg) : ∀ k, Cls K (veC T k)
  | 0 => T.cl_Vessel
  | 1 => T.cl_Breaker
  | _ + 2 => T.cl_Ship
theorem ve_n_name (T : Tx K mg) : ∀ k, NoAttr K (veC T k) "name"
  | 0 => T.n_Vessel_name
  | 1 => T.n_Breaker_name
  | _ + 2 => T.n_Ship_name
theorem ve_n_port (T : Tx K mg) : ∀ k, NoAttr K (veC T k) "port"
  | 0 => T.n_Vessel_port
  | 1 => T.n_Breaker_port
  | _ + 2 => T.n_Ship_port
theorem ve_n_hour (T : Tx K mg) : ∀ k, NoAttr K (veC T k) "hour"
  | 0 => T.n_Vessel_hour
  | 1 => T.n_Breaker_hour
  | _ + 2 => T.n_Ship_hour
theorem ve_n_strength (T : Tx K mg) : ∀ k, NoAttr K (veC T k) "strength"
  | 0 => T.n_Vessel_strength
  | 1 => T.n_Breaker_strength
  | _ + 2 => T.n_Ship_strength
theorem ve_n_draught (T : Tx K mg) : ∀ k, NoAttr K (veC T k) "draught"
  | 0 => T.n_Vessel_draught
  | 1 => T.n_Breaker_draught
  | _ + 2 => T.n_Ship_draught
theorem ve_put (v : Ve) : putF "draught" (.int v.draught) (putF "strength" (.int v.strength) (putF "hour" (.int v.hour) (putF "port" (.str v.port) (putF "name" (.str v.name) [])))) = veB v := by kernel_rfl
theorem none_same {H H' : Hp} {p : Addr} (e : Same H H') (h : H' p = none) : H p = none := by
  cases h1 : H p with
  | none => rfl
  | some o => exact absurd ((e _ _ h1).symm.trans h) nofun
theorem vel_name (v : Ve) : (veF v).lookup ("name" : Str) = some (.str v.name) := by
  unfold veF
  split <;> kernel_rfl
theorem vel_port (v : Ve) : (veF v).lookup ("port" : Str) = some (.str v.port) := by
  unfold veF
  split <;> kernel_rfl
theorem vel_hour (v : Ve) : (veF v).lookup ("hour" : Str) = some (.int v.hour) := by
  unfold veF
  split <;> kernel_rfl
theorem vel_strength (v : Ve) : (veF v).lookup ("strength" : Str) = some (.int v.strength) := by
  unfold veF
  split <;> kernel_rfl
theorem vel_draught (v : Ve) : (veF v).lookup ("draught" : Str) = some (.int v.draught) := by
  unfold veF
  split <;> kernel_rfl
theorem vel_cut {v : Ve} (h : v.kind = 1) : (veF v).lookup ("cut" : Str) = some (.int v.cut) := by
  unfold veF
  rw [h]
  kernel_rfl
theorem vel_goal {v : Ve} (h : v.kind = 2) : (veF v).lookup ("goal" : Str) = some (.str v.goal) := by
  unfold veF
  rw [h]
  kernel_rfl
theorem ven_kind (v : Ve) : (veF v).lookup ("kind" : Str) = none := by
  unfold veF
  split <;> kernel_rfl
theorem ven_thins (v : Ve) : (veF v).lookup ("thins" : Str) = none := by
  unfold veF
  split <;> kernel_rfl
theorem ven_lets (v : Ve) : (veF v).lookup ("lets" : Str) = none := by
  unfold veF
  split <;> kernel_rfl
theorem ven_row (v : Ve) : (veF v).lookup ("row" : Str) = none := by
  unfold veF
  split <;> kernel_rfl
local macro_rules | `(tactic| walk_at "nolk") => `(tactic| with_reducible first | exact My.ven_kind _ | exact My.ven_row _ | exact My.ven_thins _ | exact My.ven_lets _)
local macro_rules | `(tactic| walk_at "lk") => `(tactic| with_reducible first | exact My.vel_name _ | exact My.vel_port _ | exact My.vel_hour _ | exact My.vel_strength _ | exact My.vel_draught _ | exact My.vel_cut (by assumption) | exact My.vel_goal (by assumption))
local macro_rules | `(tactic| walk_at "cls") => `(tactic| exact My.ve_cl (by assumption) _)
local macro_rules | `(tactic| walk_at "noattr") => `(tactic| first | exact My.ve_n_name (by assumption) _ | exact My.ve_n_port (by assumption) _ | exact My.ve_n_hour (by assumption) _ | exact My.ve_n_strength (by assumption) _ | exact My.ve_n_draught (by assumption) _)
/-- vessels, each with what it is made of -/
def VesAt (T : Tx K mg) (H : Hp) (ws : List (Addr × Ve)) : Prop := ∀ w ∈ ws, VeAt T H w.1 w.2
theorem VesAt.keep {T : Tx K mg} {H H' : Hp} {ws : List (Addr × Ve)} (h : VesAt T H ws) (s : Same H H') : VesAt T H' ws := fun w hw => by
  obtain ⟨hk, dx, e⟩ := h w hw
  exact ⟨hk, dx, s _ _ e⟩
theorem veF_ne {v : Ve} : veF v ≠ [] := by
  unfold veF
  split <;> exact nofun
theorem VeAt.ne {T : Tx K mg} {H : Hp} {a b C dx : Addr} {v : Ve} (h : VeAt T H b v) (e : H a = some (.ins C dx [])) : b ≠ a := fun z => by
  obtain ⟨_, dy, e2⟩ := h
  rw [z, e] at e2
  injection e2 with e2
  injection e2 with _ _ e3
  exact veF_ne e3.symm
theorem VesAt.kb {T : Tx K mg} {H H' : Hp} {ws : List (Addr × Ve)} {p : Addr} (h : VesAt T H ws) (k : KeepB p H H') (n : ∀ C dx fs, H p ≠ some (.ins C dx fs)) : VesAt T H' ws := fun w hw => by
  obtain ⟨hk, dx, e⟩ := h w hw
  exact ⟨hk, dx, k _ _ e fun z => n _ _ _ (z ▸ e)⟩
theorem VesAt.put' {T : Tx K mg} {H : Hp} {l : Addr} {xs : List V} {o : HO} {ws : List (Addr × Ve)} (hl : H l = some (.lst xs)) (h : VesAt T H ws) : VesAt T (upd H l o) ws := fun w hw => by
  obtain ⟨hk, dx, e⟩ := h w hw
  exact ⟨hk, dx, by rw [upd_ne (ne_of e hl nofun)]; exact e⟩
theorem VesAt.app {T : Tx K mg} {H : Hp} {ws : List (Addr × Ve)} {u : Addr × Ve} (h : VesAt T H ws) (hu : VeAt T H u.1 u.2) : VesAt T H (ws ++ [u]) := fun w hw => by
  rcases List.mem_append.mp hw with h1 | h1
  · exact h w h1
  · rw [List.mem_singleton.mp h1]
    exact hu
theorem ve_ty (T : Tx K mg) {H : Hp} {a : Addr} {v : Ve} (h : VeAt T H a v) : TyOf K H (.ref a) (.ref (veC T v.kind)) := by
  obtain ⟨_, dx, e⟩ := h
  have z : ∀ k, PySem.W.findIn K (.ref (veC T k)) "__class__" = some (some (.builtin "object.__class__")) ∧ PySem.W.mroIn K (veC T k) (.type "object") = some true := fun k => match k with
    | 0 => ⟨T.ic_Vessel, T.im_Vessel⟩
    | 1 => ⟨T.ic_Breaker, T.im_Breaker⟩
    | _ + 2 => ⟨T.ic_Ship, T.im_Ship⟩
  exact .ins e (ve_cl T _) (z _).1 T.hn_class T.ht_class (z _).2
theorem ve_own (T : Tx K mg) : ∀ k, OwnTy K (veC T k)
  | 0 => T.ob_Vessel
  | 1 => T.ob_Breaker
  | _ + 2 => T.ob_Ship
theorem VeAt.thing {T : Tx K mg} {H : Hp} {a : Addr} {v : Ve} (h : VeAt T H a v) : ThingAt K H (.ref a) := .inr ⟨_, ve_ty T h, ve_own T _⟩
theorem rd_isiO {H : Hp} {Q : VK} {v : V} {t : Value} {D : Addr} {b : Bool} (ty : TyOf K H v t) (k : PySem.W.kitOne K t (.ref D) = some b) (q : Q (.bl b) H) : rIsi K [v, .ref D] H Q := ⟨v, .ref D, _, _, b, rfl, ClsV.own D, .base ty, k, q⟩
theorem rd_thins {T : Tx K mg} {a : Addr} {v : Ve} {H : Hp} {Q : VK} {t1 t2 t3 : TE} {σ : L2.St} (h : VeAt T H a v) (q1 : v.kind = 0 → t1 σ H Q) (q2 : v.kind = 1 → t2 σ H Q) (q3 : v.kind = 2 → t3 σ H Q) : tAlt t1 (tAlt t2 t3) σ H Q := by
  match e : v.kind, h.1 with
  | 0, _ => exact .inl (q1 e)
  | 1, _ => exact .inr (.inl (q2 e))
  | 2, _ => exact .inr (.inr (q3 e))
theorem VeAt.c0 {T : Tx K mg} {H : Hp} {a : Addr} {v : Ve} (h : VeAt T H a v) (k : v.kind = 0) : ∃ dx, H a = some (.ins T.a_Vessel dx (veF v)) := by
  obtain ⟨_, dx, e⟩ := h
  rw [k] at e
  exact ⟨dx, e⟩
theorem VeAt.c1 {T : Tx K mg} {H : Hp} {a : Addr} {v : Ve} (h : VeAt T H a v) (k : v.kind = 1) : ∃ dx, H a = some (.ins T.a_Breaker dx (veF v)) := by
  obtain ⟨_, dx, e⟩ := h
  rw [k] at e
  exact ⟨dx, e⟩
theorem VeAt.c2 {T : Tx K mg} {H : Hp} {a : Addr} {v : Ve} (h : VeAt T H a v) (k : v.kind = 2) : ∃ dx, H a = some (.ins T.a_Ship dx (veF v)) := by
  obtain ⟨_, dx, e⟩ := h
  rw [k] at e
  exact ⟨dx, e⟩
theorem ve_th0 {v : Ve} (k : v.kind ≠ 1) : veThins v = 0 := if_neg k
theorem ve_th1 {v : Ve} (k : v.kind = 1) : veThins v = v.cut := if_pos k

def ChsAt (T : Tx K mg) (H : Hp) (cs : List (Addr × Ch)) : Prop := ∀ c ∈ cs, ChanAt T H c.1 c.2
theorem ChsAt.keep {T : Tx K mg} {H H' : Hp} {cs : List (Addr × Ch)} (h : ChsAt T H cs) (s : Same H H') : ChsAt T H' cs := fun c hc => (h c hc).imp fun _ e => s _ _ e
/-- an own world; L: its four lists -/
def WoAt (T : Tx K mg) (H : Hp) (a : Addr) (w : Wd) (L : List Addr) : Prop := WoOk w ∧ ∃ dx lp lc lb ls, L = [lp, lc, lb, ls] ∧ H a = some (.ins T.a_World dx (woF w lp lc lb ls)) ∧ H lp = some (.lst (strsV w.ports)) ∧ H lc = some (.lst (refsOf w.chans)) ∧ H lb = some (.lst (refsOf w.brks)) ∧ H ls = some (.lst (refsOf w.ships)) ∧
  ChsAt T H w.chans ∧ VesAt T H w.brks ∧ VesAt T H w.ships
theorem WoAt.keep {T : Tx K mg} {H H' : Hp} {a : Addr} {w : Wd} {L : List Addr} (h : WoAt T H a w L) (s : Same H H') : WoAt T H' a w L := by
  obtain ⟨ok, dx, lp, lc, lb, ls, e, h1, h2, h3, h4, h5, h6, h7, h8⟩ := h
  exact ⟨ok, dx, lp, lc, lb, ls, e, s _ _ h1, s _ _ h2, s _ _ h3, s _ _ h4, s _ _ h5, h6.keep s, h7.keep s, h8.keep s⟩
theorem ch_ty (T : Tx K mg) {H : Hp} {a : Addr} {c : Ch} (h : ChanAt T H a c) : TyOf K H (.ref a) (.ref T.a_Channel) := by
  obtain ⟨dx, e⟩ := h
  exact .ins e T.cl_Channel T.ic_Channel T.hn_class T.ht_class T.im_Channel

/-- what stands in a list of a world -/
def ItAt (T : Tx K mg) (H : Hp) (v : V) : Itm → Prop
  | .ch c => ∃ a, v = .ref a ∧ ChanAt T H a c ∧ chOk c ∧ nameS c.name = true ∧ nameS c.one = true ∧ nameS c.other = true ∧ c.one ≠ c.other
  | .ve u => ∃ a, v = .ref a ∧ VeAt T H a u ∧ veOk u ∧ veNames u
  | .oth => ∃ t, TyOf K H v t ∧ PySem.W.kitOne K t (.ref T.a_Channel) = some false ∧ PySem.W.kitOne K t (.ref T.a_Breaker) = some false ∧ PySem.W.kitOne K t (.ref T.a_Ship) = some false
theorem ItAt.keep {T : Tx K mg} {H H' : Hp} {v : V} {it : Itm} (h : ItAt T H v it) (s : Same H H') : ItAt T H' v it := by
  cases it with
  | ch c =>
    obtain ⟨a, e, ⟨dx, h1⟩, h2⟩ := h
    exact ⟨a, e, ⟨dx, s _ _ h1⟩, h2⟩
  | ve u =>
    obtain ⟨a, e, h1, h2⟩ := h
    exact ⟨a, e, h1.keep s, h2⟩
  | oth =>
    obtain ⟨t, h1, h2⟩ := h
    exact ⟨t, tyof_keep h1 s, h2⟩
theorem ItAt.isCh {T : Tx K mg} {H : Hp} {v : V} {it : Itm} (h : ItAt T H v it) : ∃ t, TyOf K H v t ∧ PySem.W.kitOne K t (.ref T.a_Channel) = some (itCh it).isSome := by
  cases it with
  | ch c =>
    obtain ⟨a, rfl, h1, h2⟩ := h
    exact ⟨_, ch_ty T h1, T.ki_Channel_Channel⟩
  | ve u =>
    obtain ⟨a, rfl, h1, h2⟩ := h
    refine ⟨_, ve_ty T h1, ?_⟩
    match u.kind with
    | 0 => exact T.ki_Vessel_Channel
    | 1 => exact T.ki_Breaker_Channel
    | _ + 2 => exact T.ki_Ship_Channel
  | oth =>
    obtain ⟨t, h1, h2, h3, h4⟩ := h
    exact ⟨t, h1, h2⟩
theorem ItAt.isBr {T : Tx K mg} {H : Hp} {v : V} {it : Itm} (h : ItAt T H v it) : ∃ t, TyOf K H v t ∧ PySem.W.kitOne K t (.ref T.a_Breaker) = some (itVe 1 it).isSome := by
  cases it with
  | ch c =>
    obtain ⟨a, rfl, h1, h2⟩ := h
    exact ⟨_, ch_ty T h1, T.ki_Channel_Breaker⟩
  | ve u =>
    obtain ⟨a, rfl, h1, h2⟩ := h
    refine ⟨_, ve_ty T h1, ?_⟩
    match hk : u.kind, h1.1 with
    | 0, _ => rw [show itVe 1 (.ve u) = none from if_neg (by omega)]; exact T.ki_Vessel_Breaker
    | 1, _ => rw [show itVe 1 (.ve u) = some u from if_pos hk]; exact T.ki_Breaker_Breaker
    | 2, _ => rw [show itVe 1 (.ve u) = none from if_neg (by omega)]; exact T.ki_Ship_Breaker
  | oth =>
    obtain ⟨t, h1, h2, h3, h4⟩ := h
    exact ⟨t, h1, h3⟩
theorem ItAt.isSh {T : Tx K mg} {H : Hp} {v : V} {it : Itm} (h : ItAt T H v it) : ∃ t, TyOf K H v t ∧ PySem.W.kitOne K t (.ref T.a_Ship) = some (itVe 2 it).isSome := by
  cases it with
  | ch c =>
    obtain ⟨a, rfl, h1, h2⟩ := h
    exact ⟨_, ch_ty T h1, T.ki_Channel_Ship⟩
  | ve u =>
    obtain ⟨a, rfl, h1, h2⟩ := h
    refine ⟨_, ve_ty T h1, ?_⟩
    match hk : u.kind, h1.1 with
    | 0, _ => rw [show itVe 2 (.ve u) = none from if_neg (by omega)]; exact T.ki_Vessel_Ship
    | 1, _ => rw [show itVe 2 (.ve u) = none from if_neg (by omega)]; exact T.ki_Breaker_Ship
    | 2, _ => rw [show itVe 2 (.ve u) = some u from if_pos hk]; exact T.ki_Ship_Ship
  | oth =>
    obtain ⟨t, h1, h2, h3, h4⟩ := h
    exact ⟨t, h1, h4⟩
/-- the ports, the other lists that a world is made of -/
def PortsIn (K : PySem.W.Frag) (H : Hp) (v : V) : Option (List V) → Prop
  | none => isSeq K H v false
  | some xs => ∃ a, v = .ref a ∧ SeqOf H a xs ∧ (∀ x ∈ xs, ThingAt K H x) ∧ xs.length ≤ 100000
def ItsIn (T : Tx K mg) (H : Hp) (v : V) : Option (List (V × Itm)) → Prop
  | none => isSeq K H v false
  | some its => ∃ a, v = .ref a ∧ SeqOf H a (its.map (·.1)) ∧ (∀ u ∈ its, ItAt T H u.1 u.2) ∧ its.length ≤ 100000
def oi (o : Option (List (V × Itm))) : Option (List Itm) := o.map fun its => its.map (·.2)
theorem PortsIn.keep {H H' : Hp} {v : V} {o : Option (List V)} (h : PortsIn K H v o) (s : Same H H') : PortsIn K H' v o := by
  cases o with
  | none => exact isSeq.keep h s
  | some xs =>
    obtain ⟨a, e, h1, h2, h3⟩ := h
    exact ⟨a, e, h1.keep s, fun x hx => (h2 x hx).keep s, h3⟩
theorem ItsIn.keep {T : Tx K mg} {H H' : Hp} {v : V} {o : Option (List (V × Itm))} (h : ItsIn T H v o) (s : Same H H') : ItsIn T H' v o := by
  cases o with
  | none => exact isSeq.keep h s
  | some xs =>
    obtain ⟨a, e, h1, h2, h3⟩ := h
    exact ⟨a, e, h1.keep s, fun x hx => (h2 x hx).keep s, h3⟩
theorem PortsIn.n {H : Hp} {v : V} {o : Option (List V)} (h : PortsIn K H v o) : SeqN K H v (o.map List.length) := by
  cases o with
  | none => exact h
  | some xs =>
    obtain ⟨a, e, h1, h2, h3⟩ := h
    exact ⟨a, xs, e, h1, rfl⟩
theorem ItsIn.n {T : Tx K mg} {H : Hp} {v : V} {o : Option (List (V × Itm))} (h : ItsIn T H v o) : SeqN K H v (o.map List.length) := by
  cases o with
  | none => exact h
  | some xs =>
    obtain ⟨a, e, h1, h2, h3⟩ := h
    exact ⟨a, _, e, h1, by rw [List.length_map]⟩
/-- all of a kind: the things themselves -/
theorem its_ch {T : Tx K mg} {H : Hp} : ∀ {its : List (V × Itm)}, (∀ u ∈ its, ItAt T H u.1 u.2) → its.all (fun u => (itCh u.2).isSome) = true → ∃ cs : List (Addr × Ch), its = cs.map (fun c => (V.ref c.1, Itm.ch c.2)) ∧ ChsAt T H cs ∧ (∀ c ∈ cs, chOk c.2 ∧ nameS c.2.name = true ∧ nameS c.2.one = true ∧ nameS c.2.other = true ∧ c.2.one ≠ c.2.other)
  | [], _, _ => ⟨[], rfl, nofun, nofun⟩
  | (v, it) :: r, hi, h => by
    rw [List.all_cons, Bool.and_eq_true] at h
    obtain ⟨cs, e, h1, h2⟩ := its_ch (fun u hu => hi u (List.mem_cons_of_mem _ hu)) h.2
    have hv : ItAt T H v it := hi (v, it) List.mem_cons_self
    cases it with
    | ch c =>
      obtain ⟨a, rfl, h3, h4⟩ := hv
      refine ⟨(a, c) :: cs, by rw [e]; rfl, fun c hc => ?_, fun c hc => ?_⟩
      · rcases List.mem_cons.mp hc with rfl | hc
        · exact h3
        · exact h1 c hc
      · rcases List.mem_cons.mp hc with rfl | hc
        · exact h4
        · exact h2 c hc
    | ve u => cases h.1
    | oth => cases h.1
theorem its_ve {T : Tx K mg} {H : Hp} {k : Nat} : ∀ {its : List (V × Itm)}, (∀ u ∈ its, ItAt T H u.1 u.2) → its.all (fun u => (itVe k u.2).isSome) = true → ∃ vs : List (Addr × Ve), its = vs.map (fun c => (V.ref c.1, Itm.ve c.2)) ∧ VesAt T H vs ∧ (∀ c ∈ vs, (veOk c.2 ∧ veNames c.2) ∧ c.2.kind = k)
  | [], _, _ => ⟨[], rfl, nofun, nofun⟩
  | (v, it) :: r, hi, h => by
    rw [List.all_cons, Bool.and_eq_true] at h
    obtain ⟨cs, e, h1, h2⟩ := its_ve (fun u hu => hi u (List.mem_cons_of_mem _ hu)) h.2
    have hv : ItAt T H v it := hi (v, it) List.mem_cons_self
    cases it with
    | ch c => cases h.1
    | oth => cases h.1
    | ve u =>
      obtain ⟨a, rfl, h3, h4⟩ := hv
      have hk : u.kind = k := by
        by_cases e : u.kind = k
        · exact e
        · have z := h.1
          rw [show itVe k (.ve u) = none from if_neg e] at z
          cases z
      refine ⟨(a, u) :: cs, by rw [e]; rfl, fun c hc => ?_, fun c hc => ?_⟩
      · rcases List.mem_cons.mp hc with rfl | hc
        · exact h3
        · exact h1 c hc
      · rcases List.mem_cons.mp hc with rfl | hc
        · exact ⟨h4, hk⟩
        · exact h2 c hc
theorem csOf_ch {cs : List (Addr × Ch)} : csOf (oi (some (cs.map fun c => (V.ref c.1, Itm.ch c.2)))) = cs.map (·.2) := by
  unfold csOf oi
  simp only [Option.map_some, Option.getD_some, List.map_map, List.filterMap_map]
  induction cs with
  | nil => rfl
  | cons c r ih => rw [List.filterMap_cons, List.map_cons, ← ih]; rfl
theorem vsOf_ve {k : Nat} {vs : List (Addr × Ve)} (h : ∀ v ∈ vs, v.2.kind = k) : vsOf k (oi (some (vs.map fun c => (V.ref c.1, Itm.ve c.2)))) = vs.map (·.2) := by
  unfold vsOf oi
  simp only [Option.map_some, Option.getD_some, List.map_map, List.filterMap_map]
  induction vs with
  | nil => rfl
  | cons c r ih =>
    have e : itVe k (Itm.ve c.2) = some c.2 := if_pos (h c List.mem_cons_self)
    rw [List.filterMap_cons, List.map_cons, ← ih fun v hv => h v (List.mem_cons_of_mem _ hv)]
    simp only [Function.comp, e]
theorem refs_of {α : Type} {cs : List (Addr × α)} {f : α → Itm} : (cs.map fun c => (V.ref c.1, f c.2)).map (·.1) = refsOf cs := by
  rw [List.map_map]
  rfl
theorem WoAt.kd {T : Tx K mg} {H H' : Hp} {a p : Addr} {w : Wd} {L : List Addr} {kvs : List (Key × V)} (h : WoAt T H a w L) (hp : H p = some (.dK kvs)) (k : ∀ b o, H b = some o → b ≠ p → H' b = some o) : WoAt T H' a w L := by
  obtain ⟨ok, dx, lp, lc, lb, ls, rfl, h1, h2, h3, h4, h5, h6, h7, h8⟩ := h
  refine ⟨ok, dx, lp, lc, lb, ls, rfl, k _ _ h1 (ne_of h1 hp nofun), k _ _ h2 (ne_of h2 hp nofun), k _ _ h3 (ne_of h3 hp nofun), k _ _ h4 (ne_of h4 hp nofun), k _ _ h5 (ne_of h5 hp nofun), fun u hu => ?_, fun u hu => ?_, fun u hu => ?_⟩
  · obtain ⟨dy, e⟩ := h6 u hu
    exact ⟨dy, k _ _ e (ne_of e hp nofun)⟩
  · obtain ⟨hk, dy, e⟩ := h7 u hu
    exact ⟨hk, dy, k _ _ e (ne_of e hp nofun)⟩
  · obtain ⟨hk, dy, e⟩ := h8 u hu
    exact ⟨hk, dy, k _ _ e (ne_of e hp nofun)⟩
def NewCh (T : Tx K mg) (acc : List V) (us : List (Addr × Ch)) (H : Hp) : Prop := ∃ cs : List (Addr × Ch), acc = refsOf cs ∧ cs.map (·.2) = us.map (·.2) ∧ ChsAt T H cs
def NewVe (T : Tx K mg) (acc : List V) (us : List (Addr × Ve)) (H : Hp) : Prop := ∃ cs : List (Addr × Ve), acc = refsOf cs ∧ cs.map (·.2) = us.map (·.2) ∧ VesAt T H cs
theorem NewCh.step {T : Tx K mg} {acc : List V} {ws : List (Addr × Ch)} {i : Nat} {u : Addr × Ch} {H H2 : Hp} {a : Addr} (h : NewCh T acc (ws.take i) H) (hu : ws[i]? = some u) (s2 : Same H H2) (ha : ChanAt T H2 a u.2) : NewCh T (acc ++ [.ref a]) (ws.take (i + 1)) H2 := by
  obtain ⟨cs, rfl, e1, h1⟩ := h
  refine ⟨cs ++ [(a, u.2)], ?_, ?_, fun c hc => ?_⟩
  · unfold refsOf
    rw [List.map_append]
    rfl
  · rw [List.map_append, e1, List.take_add_one, hu, List.map_append]
    rfl
  · rcases List.mem_append.mp hc with hc | hc
    · exact (h1.keep s2) c hc
    · rw [List.mem_singleton.mp hc]
      exact ha
theorem NewVe.step {T : Tx K mg} {acc : List V} {ws : List (Addr × Ve)} {i : Nat} {u : Addr × Ve} {H H2 : Hp} {a : Addr} (h : NewVe T acc (ws.take i) H) (hu : ws[i]? = some u) (s2 : Same H H2) (ha : VeAt T H2 a u.2) : NewVe T (acc ++ [.ref a]) (ws.take (i + 1)) H2 := by
  obtain ⟨cs, rfl, e1, h1⟩ := h
  refine ⟨cs ++ [(a, u.2)], ?_, ?_, fun c hc => ?_⟩
  · unfold refsOf
    rw [List.map_append]
    rfl
  · rw [List.map_append, e1, List.take_add_one, hu, List.map_append]
    rfl
  · rcases List.mem_append.mp hc with hc | hc
    · exact (h1.keep s2) c hc
    · rw [List.mem_singleton.mp hc]
      exact ha
-- no reading of _wall yet
theorem ok_NoName___init__ (T : Tx K mg) : FnOk P w K mg base CX0 1 T.a_NoName___init__ T.d_NoName___init__ ["self", "found"] (spXInit T.a_NoName "found") := by
  refine T.F_NoName___init__.ok sc_NoName___init__ (fun vs H Q E h => ?_) (fun cdv A outer s H vs Q E hr h => ?_)
  · obtain ⟨a, v, rfl, _⟩ := h
    rfl
  · refine ⟨_, (pss_cons (ps_expr (pe_upinit rfl T.g_IceError T.rd_IceError T.ga_IceError T.vi_IceError (pa_cons (pv 0) (pa_cons pe_str pa_nil))))
        (pss_one (ps_ost (pv 0) (pv 1)))), ?_⟩
    exact xinit_rd T.ox_NoName T.n_NoName_found h
theorem ok_NoNumber___init__ (T : Tx K mg) : FnOk P w K mg base CX0 1 T.a_NoNumber___init__ T.d_NoNumber___init__ ["self", "found"] (spXInit T.a_NoNumber "found") := by
  refine T.F_NoNumber___init__.ok sc_NoNumber___init__ (fun vs H Q E h => ?_) (fun cdv A outer s H vs Q E hr h => ?_)
  · obtain ⟨a, v, rfl, _⟩ := h
    rfl
  · refine ⟨_, (pss_cons (ps_expr (pe_upinit rfl T.g_IceError T.rd_IceError T.ga_IceError T.vi_IceError (pa_cons (pv 0) (pa_cons pe_str pa_nil))))
        (pss_one (ps_ost (pv 0) (pv 1)))), ?_⟩
    exact xinit_rd T.ox_NoNumber T.n_NoNumber_found h
theorem ok_NoPort___init__ (T : Tx K mg) : FnOk P w K mg base CX0 1 T.a_NoPort___init__ T.d_NoPort___init__ ["self", "found"] (spXInit T.a_NoPort "found") := by
  refine T.F_NoPort___init__.ok sc_NoPort___init__ (fun vs H Q E h => ?_) (fun cdv A outer s H vs Q E hr h => ?_)
  · obtain ⟨a, v, rfl, _⟩ := h
    rfl
  · refine ⟨_, (pss_cons (ps_expr (pe_upinit rfl T.g_IceError T.rd_IceError T.ga_IceError T.vi_IceError (pa_cons (pv 0) (pa_cons pe_str pa_nil))))
        (pss_one (ps_ost (pv 0) (pv 1)))), ?_⟩
    exact xinit_rd T.ox_NoPort T.n_NoPort_found h
theorem ok_NoChannel___init__ (T : Tx K mg) : FnOk P w K mg base CX0 1 T.a_NoChannel___init__ T.d_NoChannel___init__ ["self", "found"] (spXInit T.a_NoChannel "found") := by
  refine T.F_NoChannel___init__.ok sc_NoChannel___init__ (fun vs H Q E h => ?_) (fun cdv A outer s H vs Q E hr h => ?_)
  · obtain ⟨a, v, rfl, _⟩ := h
    rfl
  · refine ⟨_, (pss_cons (ps_expr (pe_upinit rfl T.g_IceError T.rd_IceError T.ga_IceError T.vi_IceError (pa_cons (pv 0) (pa_cons pe_str pa_nil))))
        (pss_one (ps_ost (pv 0) (pv 1)))), ?_⟩
    exact xinit_rd T.ox_NoChannel T.n_NoChannel_found h
theorem ok_NoVessel___init__ (T : Tx K mg) : FnOk P w K mg base CX0 1 T.a_NoVessel___init__ T.d_NoVessel___init__ ["self", "found"] (spXInit T.a_NoVessel "found") := by
  refine T.F_NoVessel___init__.ok sc_NoVessel___init__ (fun vs H Q E h => ?_) (fun cdv A outer s H vs Q E hr h => ?_)
  · obtain ⟨a, v, rfl, _⟩ := h
    rfl
  · refine ⟨_, (pss_cons (ps_expr (pe_upinit rfl T.g_IceError T.rd_IceError T.ga_IceError T.vi_IceError (pa_cons (pv 0) (pa_cons pe_str pa_nil))))
        (pss_one (ps_ost (pv 0) (pv 1)))), ?_⟩
    exact xinit_rd T.ox_NoVessel T.n_NoVessel_found h
theorem ok_NoWorld___init__ (T : Tx K mg) : FnOk P w K mg base CX0 1 T.a_NoWorld___init__ T.d_NoWorld___init__ ["self", "found"] (spXInit T.a_NoWorld "found") := by
  refine T.F_NoWorld___init__.ok sc_NoWorld___init__ (fun vs H Q E h => ?_) (fun cdv A outer s H vs Q E hr h => ?_)
  · obtain ⟨a, v, rfl, _⟩ := h
    rfl
  · refine ⟨_, (pss_cons (ps_expr (pe_upinit rfl T.g_IceError T.rd_IceError T.ga_IceError T.vi_IceError (pa_cons (pv 0) (pa_cons pe_str pa_nil))))
        (pss_one (ps_ost (pv 0) (pv 1)))), ?_⟩
    exact xinit_rd T.ox_NoWorld T.n_NoWorld_found h
theorem ok_NoTable___init__ (T : Tx K mg) : FnOk P w K mg base CX0 1 T.a_NoTable___init__ T.d_NoTable___init__ ["self", "found"] (spXInit T.a_NoTable "found") := by
  refine T.F_NoTable___init__.ok sc_NoTable___init__ (fun vs H Q E h => ?_) (fun cdv A outer s H vs Q E hr h => ?_)
  · obtain ⟨a, v, rfl, _⟩ := h
    rfl
  · refine ⟨_, (pss_cons (ps_expr (pe_upinit rfl T.g_IceError T.rd_IceError T.ga_IceError T.vi_IceError (pa_cons (pv 0) (pa_cons pe_str pa_nil))))
        (pss_one (ps_ost (pv 0) (pv 1)))), ?_⟩
    exact xinit_rd T.ox_NoTable T.n_NoTable_found h
theorem ok_Doubled___init__ (T : Tx K mg) : FnOk P w K mg base CX0 1 T.a_Doubled___init__ T.d_Doubled___init__ ["self", "name"] (spXInit T.a_Doubled "name") := by
  refine T.F_Doubled___init__.ok sc_Doubled___init__ (fun vs H Q E h => ?_) (fun cdv A outer s H vs Q E hr h => ?_)
  · obtain ⟨a, v, rfl, _⟩ := h
    rfl
  · refine ⟨_, (pss_cons (ps_expr (pe_upinit rfl T.g_IceError T.rd_IceError T.ga_IceError T.vi_IceError (pa_cons (pv 0) (pa_cons pe_str pa_nil))))
        (pss_one (ps_ost (pv 0) (pv 1)))), ?_⟩
    exact xinit_rd T.ox_Doubled T.n_Doubled_name h
def sp_is_whole (K : PySem.W.Frag) : Sp := fun vs H Q _ => ∃ v, vs = [v] ∧ ThingAt K H v ∧ Q (.bl (wholeV v)) H
theorem ok_is_whole (T : Tx K mg) : FnOk P w K mg base CX0 1 T.a_is_whole T.d_is_whole ["thing"] (sp_is_whole K) := by
  refine T.F_is_whole.ok sc_is_whole (fun vs H Q E h => ?_) (fun cdv A outer s H vs Q E hr h => ?_)
  · obtain ⟨v, rfl, _⟩ := h
    rfl
  · refine ⟨_, (pss_one (ps_ret (pe_and (pe_callB (isiK (K := K) rfl) (by rfl) T.m_isinstance (by decide +kernel) (pa_cons (pv 0) (pa_cons (pe_bltn (v := .ty "int") rfl T.m_int (by decide +kernel) rfl) pa_nil))) (pe_one (pe_not (pe_callB (isiK (K := K) rfl) (by rfl) T.m_isinstance (by decide +kernel) (pa_cons (pv 0) (pa_cons (pe_bltn (v := .ty "bool") rfl T.m_bool (by decide +kernel) rfl) pa_nil)))))))), ?_⟩
    obtain ⟨v, rfl, hT, q⟩ := h
    obtain ⟨t, ht, h1, h2, h3⟩ := thing_ty hT
    walk_at "rd"
    refine rd_isiV ht h1 ?_
    walk_at "rd"
    cases v with
    | int i =>
      refine iteT ?_
      walk_at "rd"
      refine rd_isiV ht h2 ?_
      walk_at "rd"
      exact q
    | bl b =>
      refine iteT ?_
      walk_at "rd"
      refine rd_isiV ht h2 ?_
      walk_at "rd"
      exact q
    | _ => first | exact iteF q | exact hT.elim
def sp_is_within (K : PySem.W.Frag) : Sp := fun vs H Q _ => ∃ v lo hi, vs = [v, .int lo, .int hi] ∧ ThingAt K H v ∧ Q (.bl (withinV v lo hi)) H
theorem ok_is_within (T : Tx K mg) : FnOk P w K mg base CX0 2 T.a_is_within T.d_is_within ["thing", "low", "high"] (sp_is_within K) := by
  refine T.F_is_within.ok sc_is_within (fun vs H Q E h => ?_) (fun cdv A outer s H vs Q E hr h => ?_)
  · obtain ⟨v, lo, hi, rfl, _⟩ := h
    rfl
  · refine ⟨_, (pss_one (ps_ret (pe_and (pe_call (ok_is_whole T) (hr.mono (by decide)) (by rfl) T.g_is_whole T.F_is_whole.kp T.b_is_whole .nil pass0 (pa_cons (pv 0) pa_nil)) (pe_one (pe_chain op_le op_le (pv 1) (pv 0) (pv 2)))))), ?_⟩
    obtain ⟨v, lo, hi, rfl, hT, q⟩ := h
    walk_at "rd"
    refine ⟨v, rfl, hT, ?_⟩
    walk_at "rd"
    cases v with
    | int i =>
      refine iteT ?_
      walk_at "rd"
      refine rd_iteD (fun h1 => ?_) (fun h1 => ?_)
      · walk_at "rd"
        rw [withinV, decide_eq_true h1, Bool.true_and] at q
        exact q
      · walk_at "rd"
        rw [withinV, decide_eq_false h1, Bool.false_and] at q
        exact q
    | _ => first | exact iteF q | exact hT.elim
def sp_is_name (K : PySem.W.Frag) : Sp := fun vs H Q _ => ∃ v, vs = [v] ∧ ThingAt K H v ∧ ∀ H', Same H H' → Q (.bl (nameV v)) H'
theorem ok_is_name (T : Tx K mg) : FnOk P w K mg base CX0 1 T.a_is_name T.d_is_name ["thing"] (sp_is_name K) := by
  refine T.F_is_name.ok sc_is_name (fun vs H Q E h => ?_) (fun cdv A outer s H vs Q E hr h => ?_)
  · obtain ⟨v, rfl, _⟩ := h
    rfl
  · refine ⟨_, (pss_cons (ps_if (PW.pt (pw_or (pt_not (pt_val (pe_callB (isiK (K := K) rfl) (by rfl) T.m_isinstance (by decide +kernel) (pa_cons (pv 0) (pa_cons (pe_bltn (v := .ty "str") rfl T.m_str (by decide +kernel) rfl) pa_nil))))) (pw_or1 (pt_not (pt_chain op_le op_le pe_int (pe_callB (lenK (K := K) rfl) (by rfl) T.m_len (by decide +kernel) (pa_cons (pv 0) pa_nil)) (C8.pe_gc rfl T.c_LONGEST_NAME))))))
        (pss_one (ps_ret pe_bl))
        pss_nil)
        (pss_one (ps_ret (pe_callB (allK (K := K) rfl rfl) (by rfl) T.m_all (by decide +kernel) (pa_cons (pe_lc (own := [("sign", 1)]) (g := gName 1) (tt := tYes) rfl sc_is_name.nd (pi_str (pv 0)) (blkOk_by (own := [("sign", 1)]) (N := N_is_name) (sc := defScope s_is_name) (by decide +kernel)) (fun _ _ _ _ _ => (pg_name (i := 1) sc_is_name.nd rfl (Or.inl rfl))) (fun _ _ _ _ _ => pts_nil) (fun _ _ _ _ _ => (pe_frm (pe_cmpR inSg (pv 1) (C8.pe_gc rfl T.c_LETTERS) rfl)))) pa_nil))))), ?_⟩
    obtain ⟨v, rfl, hT, q⟩ := h
    obtain ⟨t, ht, h1, h2, h3⟩ := thing_ty hT
    walk_at "rd"
    refine rd_isiV ht h3 ?_
    walk_at "rd"
    cases v with
    | str z =>
      have hz : z.length ≤ 100000 := hT
      refine iteT ?_
      walk_at "rd"
      refine rd_iteD (fun h4 => ?_) (fun h4 => ?_)
      · walk_at "rd"
        refine rd_iteD (fun h5 => ?_) (fun h5 => ?_)
        · walk_at "rd"
          refine lcgo_str (f := fun c => .bl (isLet c)) (by omega) (fun _ => rfl) (fun c H' Q' hc q' => ?_) (fun D hD => ?_)
          · walk_at "rd"
            rw [isLet_in]
            exact q'
          · walk_at "rd"
            refine rd_all (bs := z.cps.toList.map isLet) (sqL_of (by rw [upd_same, List.map_map]; rfl)) ?_
            have eall : (z.cps.toList.map isLet).all id = z.cps.toList.all isLet := by rw [List.all_map]; rfl
            rw [eall]
            walk_at "rd"
            have e : nameV (.str z) = z.cps.toList.all isLet := by rw [nameV, nameS, decide_eq_true (show 1 ≤ z.length ∧ z.length ≤ 8 by omega), Bool.true_and]
            rw [← e]
            exact q _ (same_new hD)
        · walk_at "rd"
          have := q _ (Same.refl H)
          rw [nameV, nameS, decide_eq_false (show ¬ (1 ≤ z.length ∧ z.length ≤ 8) by omega), Bool.false_and] at this
          exact this
      · walk_at "rd"
        have := q _ (Same.refl H)
        rw [nameV, nameS, decide_eq_false (show ¬ (1 ≤ z.length ∧ z.length ≤ 8) by omega), Bool.false_and] at this
        exact this
    | _ =>
      first
      | (refine iteF ?_
         walk_at "rd"
         exact q _ (Same.refl H))
      | exact hT.elim

def sp_is_entry (K : PySem.W.Frag) : Sp := fun vs H Q _ => ∃ (b : Int) (cl : Addr) (cs : List Str) (v : V) (d : PyData), vs = [.int b, .ref cl, v] ∧ H cl = some (.lst (strsV cs)) ∧ Px K H v d ∧ Q (.bl (isEnt b cs d)) H
theorem ent_cases (d : PyData) : (∃ e : En, d = enD e ∧ entD d = some e) ∨ entD d = none := by
  cases h : entD d with
  | none => exact .inr rfl
  | some e =>
    refine .inl ⟨e, ?_, rfl⟩
    unfold entD at h
    split at h
    · cases h
      rfl
    · cases h
theorem ok_is_entry (T : Tx K mg) : FnOk P w K mg base CX0 3 T.a_is_entry T.d_is_entry ["begin", "channels", "thing"] (sp_is_entry K) := by
  refine T.F_is_entry.ok sc_is_entry (fun vs H Q E h => ?_) (fun cdv A outer s H vs Q E hr h => ?_)
  · obtain ⟨b, cl, cs, v, d, rfl, _⟩ := h
    rfl
  · refine ⟨_, (pss_cons (ps_if (PW.pt (pw_or (pt_not (pt_val (pe_callB (isiK (K := K) rfl) (by rfl) T.m_isinstance (by decide +kernel) (pa_cons (pv 2) (pa_cons (pe_bltn (v := .ty "tuple") rfl T.m_tuple (by decide +kernel) rfl) pa_nil))))) (pw_or1 (pt_cmpR op_ne (pe_callB (lenK (K := K) rfl) (by rfl) T.m_len (by decide +kernel) (pa_cons (pv 2) pa_nil)) pe_int (nomark _)))))
        (pss_one (ps_ret pe_bl))
        pss_nil)
        (pss_one (ps_ret (pe_and (pe_call (ok_is_within T) (hr.mono (by decide)) (by rfl) T.g_is_within T.F_is_within.kp T.b_is_within .nil pass0 (pa_cons (pe_ix (ixTK (K := K) rfl) (pv 2) pe_int (fun _ _ => rfl)) (pa_cons (pv 0) (pa_cons (C8.pe_gc rfl T.c_LAST_HOUR) pa_nil)))) (pe_and (pe_callB (isiK (K := K) rfl) (by rfl) T.m_isinstance (by decide +kernel) (pa_cons (pe_ix (ixTK (K := K) rfl) (pv 2) pe_int (fun _ _ => rfl)) (pa_cons (pe_bltn (v := .ty "str") rfl T.m_str (by decide +kernel) rfl) pa_nil))) (pe_one (pe_cmpR (inSeqK (K := K) rfl) (pe_ix (ixTK (K := K) rfl) (pv 2) pe_int (fun _ _ => rfl)) (pv 1) rfl))))))), ?_⟩
    obtain ⟨b, cl, cs, v, d, rfl, hc, hP, q⟩ := h
    obtain ⟨t, ht, i1, i2, i3⟩ := px_isi hP
    walk_at "rd"
    refine rd_isiV ht i1 ?_ <;> walk_at "rd"
    cases hP with
    | @tup a xs ds e hA =>
      refine iteT ?_
      walk_at "rd"
      have hl := pxa_len hA
      refine rd_iteD (fun c1 => ?_) (fun c1 => ?_) <;> walk_at "rd"
      · have c1 : ds.length = 2 := by
          have := V.int.inj c1
          omega
        obtain ⟨d1, d2, rfl⟩ : ∃ d1 d2, ds = [d1, d2] := by
          match ds, c1 with
          | [d1, d2], _ => exact ⟨d1, d2, rfl⟩
        cases hA with
        | @cons v1 _ _ _ h1 r =>
          cases r with
          | @cons v2 _ _ _ h2 r =>
            cases r
            walk_at "rd"
            refine ⟨_, _, _, rfl, px_thing h1, ?_⟩
            cases h1 with
            | int i =>
              cases hw : withinV (.int i) b 100000000 with
              | false =>
                have : isEnt b cs (.tuple [.int i, d2]) = false := by
                  have hw : (decide (b ≤ i) && decide (i ≤ 100000000)) = false := hw
                  unfold isEnt
                  split
                  · rename_i e he
                    unfold entD at he
                    split at he
                    · rename_i h' c' e2
                      cases he
                      cases e2
                      unfold okEn
                      rw [hw]
                      rfl
                    · cases he
                  · rfl
                rw [this] at q
                walk_at "rd"
                exact q
              | true =>
                walk_at "rd"
                obtain ⟨t2, ht2, z1, z2, z3⟩ := thing_ty (px_thing h2)
                refine rd_isiV ht2 z3 ?_ <;> walk_at "rd"
                cases h2 with
                | str z lz =>
                  refine iteT ?_
                  walk_at "rd"
                  refine rd_inZ (.inl hc) ?_
                  have : isEnt b cs (.tuple [.int i, .str z]) = decide (z ∈ cs) := by
                    show ((decide (b ≤ i) && decide (i ≤ 100000000)) && decide (z ∈ cs)) = _
                    have hw : (decide (b ≤ i) && decide (i ≤ 100000000)) = true := hw
                    rw [hw, Bool.true_and]
                  rw [this] at q
                  exact q
                | _ => exact iteF q
            | _ =>
              walk_at "rd"
              exact q
      · have : isEnt b cs (.tuple ds) = false := by
          unfold isEnt
          split
          · rename_i e he
            unfold entD at he
            split at he
            · rename_i e2
              cases e2
              exact absurd (show xs.length = 2 from hl) (fun z => c1 (congrArg (fun n : Nat => V.int n) z))
            · cases he
          · rfl
        rw [this] at q
        walk_at "rd"
        exact q
    | _ =>
      refine iteF ?_
      walk_at "rd"
      exact q
def sp_are_entries (K : PySem.W.Frag) : Sp := fun vs H Q _ => ∃ (b : Int) (cl : Addr) (cs : List Str) (v : V) (d : PyData), vs = [.int b, .ref cl, v] ∧ H cl = some (.lst (strsV cs)) ∧ Px K H v d ∧ ∀ H', Same H H' → Q (.bl (areEnts b cs d)) H'
/-- the hour behind some entries -/
def lastH (a : Int) : List PyData → Int
  | [] => a
  | d :: ds => match entD d with
    | some e => lastH e.1 ds
    | none => lastH a ds
theorem rises_app {b : Int} {cs : List Str} : ∀ {ds es : List PyData} {a : Int}, rises b cs a (ds ++ es) = (rises b cs a ds && rises b cs (lastH a ds) es)
  | [], _, a => by rw [List.nil_append, rises, lastH, Bool.true_and]
  | d :: ds, es, a => by
    rw [List.cons_append, rises, rises, lastH]
    cases entD d with
    | none => simp only [Bool.false_and]
    | some e =>
      simp only []
      rw [rises_app (ds := ds)]
      simp only [Bool.and_assoc]
theorem ok_are_entries (T : Tx K mg) : FnOk P w K mg base CX0 4 T.a_are_entries T.d_are_entries ["begin", "channels", "thing"] (sp_are_entries K) := by
  refine T.F_are_entries.ok sc_are_entries (fun vs H Q E h => ?_) (fun cdv A outer s H vs Q E hr h => ?_)
  · obtain ⟨b, cl, cs, v, d, rfl, _⟩ := h
    rfl
  · refine ⟨_, (pss_cons (ps_if (pt_not (pt_val (pe_callB (isiTK (K := K) rfl) (by rfl) T.m_isinstance (by decide +kernel) (pa_cons (pv 2) (pa_cons (pe_tup (pa_cons (pe_bltn (v := .ty "list") rfl T.m_list (by decide +kernel) rfl) (pa_cons (pe_bltn (v := .ty "tuple") rfl T.m_tuple (by decide +kernel) rfl) pa_nil))) pa_nil)))))
        (pss_one (ps_ret pe_bl))
        pss_nil)
        (pss_cons (ps_set (i := 3) sc_are_entries.nd rfl (Or.inl rfl) (pe_op op_sub (pv 0) pe_int))
        (pss_cons (ps_for PassesOwn.never rfl (pi_seqK (K := K) rfl (pv 2)) (pg_name (i := 4) sc_are_entries.nd rfl (Or.inl rfl))
        (pss_cons (ps_if (PW.pt (pw_or (pt_not (pt_val (pe_call (ok_is_entry T) (hr.mono (by decide)) (by rfl) T.g_is_entry T.F_is_entry.kp T.b_is_entry .nil pass0 (pa_cons (pv 0) (pa_cons (pv 1) (pa_cons (pv 4) pa_nil)))))) (pw_or1 (pt_cmpR op_le (pe_ix (ixTK (K := K) rfl) (pv 4) pe_int (fun _ _ => rfl)) (pv 3) (nomark _)))))
        (pss_one (ps_ret pe_bl))
        pss_nil)
        (pss_one (ps_set (i := 3) sc_are_entries.nd rfl (Or.inl rfl) (pe_ix (ixTK (K := K) rfl) (pv 4) pe_int (fun _ _ => rfl))))))
        (pss_one (ps_ret pe_bl))))), ?_⟩
    obtain ⟨b, cl, cs, v, d, rfl, hc, hP, q⟩ := h
    walk_at "rd"
    refine rd_tupB fun tp H1 n_tp s_H1 e_tp => ?_ <;> walk_at "rd"
    refine rd_isiLT ((px_seq hP).keep s_H1) e_tp ?_ <;> walk_at "rd"
    cases hd : seqD d with
    | none =>
      walk_at "rd"
      have : areEnts b cs d = false := by unfold areEnts; rw [hd]
      rw [this] at q
      exact q _ s_H1
    | some ds =>
      have hA : areEnts b cs d = rises b cs (b - 1) ds := by unfold areEnts; rw [hd]
      rw [hA] at q
      obtain ⟨a, xs, rfl, hq, hX⟩ : ∃ a xs, v = .ref a ∧ SeqOf H a xs ∧ PxAll K H xs ds := by
        cases hP with
        | lst e r =>
          cases hd
          exact ⟨_, _, rfl, .inl e, r⟩
        | tup e r =>
          cases hd
          exact ⟨_, _, rfl, .inr e, r⟩
        | _ => cases hd
      refine iteT ?_
      walk_at "rd"
      have hl := pxa_len hX
      refine rd_iq (hq.keep s_H1).a fun J G wk hG => ?_
      refine forgo wk (fun i σ' H' => H' = H1 ∧ rises b cs (b - 1) (ds.take i) = true ∧ ∃ x4, σ' = [some (.int b), some (.ref cl), some (.ref a), some (.int (lastH (b - 1) (ds.take i))), x4]) ⟨rfl, rfl, _, rfl⟩ (fun i σ' H' _ z => by rw [z.1]; exact hG _ fun o e => e) ?_ ?_
      · rintro i x σ' Ha Hb hi ⟨e1, hr, x4, rfl⟩ ⟨e0, hx⟩
        subst e0
        subst e1
        obtain ⟨d1, hd1, hP1⟩ := pxa_get hX hx
        have hP2 := hP1.keep s_H1
        have step := rises_app (b := b) (cs := cs) (ds := ds.take i) (es := [d1]) (a := b - 1)
        have tk : ds.take (i + 1) = ds.take i ++ [d1] := by rw [List.take_add_one, hd1]; rfl
        have bad : rises b cs (lastH (b - 1) (ds.take i)) [d1] = false → rises b cs (b - 1) ds = false := fun z => by
          have e : ds = ds.take (i + 1) ++ ds.drop (i + 1) := (List.take_append_drop _ _).symm
          rw [e, rises_app, tk, step, z, Bool.and_false, Bool.false_and]
        walk_at "rd"
        refine ⟨_, _, _, _, d1, rfl, s_H1 _ _ hc, hP2, ?_⟩
        rcases ent_cases d1 with ⟨e, rfl, he⟩ | hn
        · have hi1 : isEnt b cs (enD e) = okEn b cs e := by unfold isEnt; rw [he]
          rw [hi1]
          have hr1 : rises b cs (lastH (b - 1) (ds.take i)) [enD e] = (okEn b cs e && decide (lastH (b - 1) (ds.take i) < e.1)) := by
            rw [rises, he]
            simp only [rises, Bool.and_true]
          cases ho : okEn b cs e with
          | false =>
            rw [ho, Bool.false_and] at hr1
            rw [bad hr1] at q
            walk_at "rd"
            exact q _ s_H1
          | true =>
            rw [ho, Bool.true_and] at hr1
            walk_at "rd"
            cases hP2 with
            | @tup p1 ys _ e1 r1 =>
              cases r1 with
              | cons z1 r1 =>
                cases z1
                cases r1 with
                | cons z2 r1 =>
                  cases z2
                  cases r1
                  walk_at "rd"
                  refine rd_iteD (fun c => ?_) (fun c => ?_) <;> walk_at "rd"
                  · rw [decide_eq_false (by omega)] at hr1
                    rw [bad hr1] at q
                    walk_at "rd"
                    exact q _ s_H1
                  · rw [decide_eq_true (by omega)] at hr1
                    walk_at "rd"
                    refine ⟨rfl, by rw [tk, step, hr, hr1]; rfl, some (.ref p1), ?_⟩
                    · rw [tk]
                      have : lastH (b - 1) (ds.take i ++ [enD e]) = e.1 := by
                        have : ∀ (ys : List PyData) (a : Int), lastH a (ys ++ [enD e]) = e.1 := fun ys => by
                          induction ys with
                          | nil =>
                            intro a
                            rw [List.nil_append, lastH, he]
                            rfl
                          | cons y ys ih =>
                            intro a
                            rw [List.cons_append, lastH]
                            cases entD y <;> exact ih _
                        exact this _ _
                      rw [this]
                      rfl
        · have hi1 : isEnt b cs d1 = false := by unfold isEnt; rw [hn]
          rw [hi1]
          have hr1 : rises b cs (lastH (b - 1) (ds.take i)) [d1] = false := by rw [rises, hn]
          rw [bad hr1] at q
          walk_at "rd"
          exact q _ s_H1
      · rintro σ' Ha ⟨e1, hr, x4, rfl⟩
        subst e1
        rw [hl, List.take_length] at hr
        rw [hr] at q
        walk_at "rd"
        exact q _ s_H1
def sp_World_begin_hour (T : Tx K mg) : Sp := fun vs H Q _ => ∃ a w L, vs = [.ref a] ∧ WoAt T H a w L ∧ Q (.int w.begin) H
theorem ok_World_begin_hour (T : Tx K mg) : FnOk P w K mg base CX0 1 T.a_World_begin_hour T.d_World_begin_hour ["self"] (sp_World_begin_hour T) := by
  refine T.F_World_begin_hour.ok sc_World_begin_hour (fun vs H Q E h => ?_) (fun cdv A outer s H vs Q E hr h => ?_)
  · obtain ⟨a, w, L, rfl, _⟩ := h
    rfl
  · refine ⟨_, (pss_one (ps_ret (pe_fldK (K := K) rfl (pv 0)))), ?_⟩
    obtain ⟨a, w, L, rfl, ⟨ok, dx, lp, lc, lb, ls, rfl, hA, h1, h2, h3, h4, hC, hB, hS⟩, q⟩ := h
    walk_at "rd"
    exact q
def sp_World_channels (T : Tx K mg) : Sp := fun vs H Q _ => ∃ a w L, vs = [.ref a] ∧ WoAt T H a w L ∧ ∀ l H', Nn H l → Same H H' → H' l = some (.lst (refsOf w.chans)) → Q (.ref l) H'
theorem ok_World_channels (T : Tx K mg) : FnOk P w K mg base CX0 1 T.a_World_channels T.d_World_channels ["self"] (sp_World_channels T) := by
  refine T.F_World_channels.ok sc_World_channels (fun vs H Q E h => ?_) (fun cdv A outer s H vs Q E hr h => ?_)
  · obtain ⟨a, w, L, rfl, _⟩ := h
    rfl
  · refine ⟨_, (pss_one (ps_ret (pe_callTy (listOfK (K := K) rfl) (by rfl) T.m_list (by decide +kernel) (pa_cons (pe_fldK (K := K) rfl (pv 0)) pa_nil)))), ?_⟩
    obtain ⟨a, w, L, rfl, ⟨ok, dx, lp, lc, lb, ls, rfl, hA, h1, h2, h3, h4, hC, hB, hS⟩, q⟩ := h
    walk_at "rd"
    exact rd_listB (sqA_l h2) q
def sp_World_vessels (T : Tx K mg) : Sp := fun vs H Q _ => ∃ a w L, vs = [.ref a] ∧ WoAt T H a w L ∧ ∀ l H', Nn H l → Same H H' → H' l = some (.lst (refsOf (w.brks ++ w.ships))) → Q (.ref l) H'
theorem ok_World_vessels (T : Tx K mg) : FnOk P w K mg base CX0 1 T.a_World_vessels T.d_World_vessels ["self"] (sp_World_vessels T) := by
  refine T.F_World_vessels.ok sc_World_vessels (fun vs H Q E h => ?_) (fun cdv A outer s H vs Q E hr h => ?_)
  · obtain ⟨a, w, L, rfl, _⟩ := h
    rfl
  · refine ⟨_, (pss_one (ps_ret (pe_op op_cat (pe_fldK (K := K) rfl (pv 0)) (pe_fldK (K := K) rfl (pv 0))))), ?_⟩
    obtain ⟨a, w, L, rfl, ⟨ok, dx, lp, lc, lb, ls, rfl, hA, h1, h2, h3, h4, hC, hB, hS⟩, q⟩ := h
    have z4 := ok.k4
    have z5 := ok.s6
    walk_at "rd"
    refine rd_catB (fun l H' n s e => q l H' n s (by rw [refs_app]; exact e)) h3 h4 (by rw [refs_len, refs_len]; omega)
def sp_is_table (T : Tx K mg) : Sp := fun vs H Q _ => ∃ a w L v d, vs = [.ref a, v] ∧ WoAt T H a w L ∧ Px K H v d ∧ ∀ H', Same H H' → Q (.bl (isTabD w.begin (vsN w) (csN w) d)) H'
theorem ok_is_table (T : Tx K mg) : FnOk P w K mg base CX0 5 T.a_is_table T.d_is_table ["world", "thing"] (sp_is_table T) := by
  refine T.F_is_table.ok sc_is_table (fun vs H Q E h => ?_) (fun cdv A outer s H vs Q E hr h => ?_)
  · obtain ⟨a, w, L, v, d, rfl, _⟩ := h
    rfl
  · refine ⟨_, (pss_cons (ps_if (pt_not (pt_val (pe_callB (isiK (K := K) rfl) (by rfl) T.m_isinstance (by decide +kernel) (pa_cons (pv 1) (pa_cons (pe_bltn (v := .ty "dict") rfl T.m_dict (by decide +kernel) rfl) pa_nil)))))
        (pss_one (ps_ret pe_bl))
        pss_nil)
        (pss_cons (ps_setLc (i := 2) (own := [("vessel", 6)]) (g := gName 6) (tt := tYes) rfl sc_is_table.nd rfl rfl (sw_true rfl rfl rfl (by decide +kernel)) (pi_listK (K := K) rfl (pe_meth0 (pv 0) T.cl_World T.me_World_vessels (ok_World_vessels T) (hr.mono (by decide)) T.b_World_vessels .nil pass0)) (blkOk_by (own := [("vessel", 6)]) (N := N_is_table) (sc := defScope s_is_table) (by decide +kernel)) (fun _ _ _ _ _ => (pg_name (i := 6) sc_is_table.nd rfl (Or.inl rfl))) (fun _ _ _ _ _ => pts_nil) (fun _ _ _ _ _ => (pe_frm (pe_fldK (K := K) rfl (pv 6)))))
        (pss_cons (ps_setLc (i := 3) (own := [("channel", 7)]) (g := gName 7) (tt := tYes) rfl sc_is_table.nd rfl rfl (sw_true rfl rfl rfl (by decide +kernel)) (pi_listK (K := K) rfl (pe_meth0 (pv 0) T.cl_World T.me_World_channels (ok_World_channels T) (hr.mono (by decide)) T.b_World_channels .nil pass0)) (blkOk_by (own := [("channel", 7)]) (N := N_is_table) (sc := defScope s_is_table) (by decide +kernel)) (fun _ _ _ _ _ => (pg_name (i := 7) sc_is_table.nd rfl (Or.inl rfl))) (fun _ _ _ _ _ => pts_nil) (fun _ _ _ _ _ => (pe_frm (pe_fldK (K := K) rfl (pv 7)))))
        (pss_cons (ps_lock (ps_for PassesOwn.never rfl (pi_items (pv 1)) (pg_tup rfl (pgs_cons (pg_name (i := 4) sc_is_table.nd rfl (Or.inl rfl)) (pgs_cons (pg_name (i := 5) sc_is_table.nd rfl (Or.inl rfl)) pgs_nil)))
        (pss_cons (ps_if (PW.pt (pw_or (pt_not (pt_val (pe_callB (isiK (K := K) rfl) (by rfl) T.m_isinstance (by decide +kernel) (pa_cons (pv 4) (pa_cons (pe_bltn (v := .ty "str") rfl T.m_str (by decide +kernel) rfl) pa_nil))))) (pw_or1 (pt_cmpR (notInSeqK (K := K) rfl) (pv 4) (pv 2) rfl))))
        (pss_one (ps_ret pe_bl))
        pss_nil)
        (pss_one (ps_if (pt_not (pt_val (pe_call (ok_are_entries T) (hr.mono (by decide)) (by rfl) T.g_are_entries T.F_are_entries.kp T.b_are_entries .nil pass0 (pa_cons (pe_meth0 (pv 0) T.cl_World T.me_World_begin_hour (ok_World_begin_hour T) (hr.mono (by decide)) T.b_World_begin_hour .nil pass0) (pa_cons (pv 3) (pa_cons (pv 5) pa_nil))))))
        (pss_one (ps_ret pe_bl))
        pss_nil)))))
        (pss_one (ps_ret pe_bl)))))), ?_⟩
    obtain ⟨a, w, L, v, d, rfl, hW, hP, q⟩ := h
    obtain ⟨t, ht, i1, i2, i3⟩ := px_isi hP
    walk_at "rd"
    refine rd_isiV ht i2 ?_ <;> walk_at "rd"
    cases hd : isDctD d with
    | false =>
      walk_at "rd"
      have : isTabD w.begin (vsN w) (csN w) d = false := by
        cases d with
        | dict _ => cases hd
        | _ => rfl
      rw [this] at q
      exact q _ (Same.refl _)
    | true =>
      obtain ⟨p, kvs, ds, rfl, rfl, e, r⟩ : ∃ p kvs ds, v = .ref p ∧ d = .dict ds ∧ H p = some (.dK kvs) ∧ PxKv K H kvs ds := by
        cases hP with
        | dct e r => exact ⟨_, _, _, rfl, rfl, e, r⟩
        | _ => cases hd
      refine iteT ?_
      walk_at "rd"
      obtain ⟨ok, dx, lp, lc, lb, ls, rfl, hA, h1, h2, h3, h4, hC, hB, hS⟩ := id hW
      have zk := ok.k4
      have zs := ok.s6
      have zc := ok.c12
      walk_at "rd"
      refine ⟨a, w, _, rfl, hW, fun lv H1 n_lv s_H1 e_lv => ?_⟩
      refine rd_ilB ?_ <;> walk_at "rd"
      refine lcQB (ws := w.brks ++ w.ships) walk_list (by rw [List.length_append]; omega) (fun H' s => s.seq (sqL_of e_lv)) (fun u => .str u.2.name) (fun _ => rfl) (fun u hu Q' q' => ?_) fun D1 H2 n_D1 s_H2 e_D1 => ?_
      · obtain ⟨_, _, ev⟩ : VeAt T H1 u.1 u.2 := (List.mem_append.mp hu).elim (fun m => (hB.keep s_H1) u m) (fun m => (hS.keep s_H1) u m)
        walk_at "rd"
        exact q'
      rw [strs_map] at e_D1
      have s02 := s_H1.trans s_H2
      have hA2 := s02 _ _ hA
      walk_at "rd"
      refine ⟨a, w, _, rfl, hW.keep s02, fun lv2 H3 n_lv2 s_H3 e_lv2 => ?_⟩
      refine rd_ilB ?_ <;> walk_at "rd"
      refine lcQB (ws := w.chans) walk_list (by omega) (fun H' s => s.seq (sqL_of e_lv2)) (fun u => .str u.2.name) (fun _ => rfl) (fun u hu Q' q' => ?_) fun D2 H4 n_D2 s_H4 e_D2 => ?_
      · obtain ⟨_, ev⟩ := (hC.keep (s02.trans s_H3)) u hu
        walk_at "rd"
        exact q'
      rw [strs_map] at e_D2
      have s04 := (s02.trans s_H3).trans s_H4
      have e4 := s04 _ _ e
      have hD1 : H4 D1 = some (.lst (strsV (vsN w))) := (s_H3.trans s_H4) _ _ e_D1
      have hD2 : H4 D2 = some (.lst (strsV (csN w))) := e_D2
      have hW4 := hW.keep s04
      have hP4 := hP.keep s04
      have r4 := PxKv.keep s04 r
      walk_at "rd"
      refine rd_lock e4 trivial fun od H5 e5 hf => ?_
      have k5 : ∀ b o, H4 b = some o → b ≠ p → H5 b = some o := fun b o h n => by
        rw [e5, upd_ne n]
        exact h
      have hW5 := hW4.kd e4 k5
      have hD1 := k5 _ _ hD1 (ne_of hD1 e4 nofun)
      have hD2 := k5 _ _ hD2 (ne_of hD2 e4 nofun)
      have r5 : PxKv K H5 kvs ds := px_offK hP4 k5 r4 (by simp only [PyData.depth]; omega)
      have hl := pxk_len r5
      walk_at "rd"
      refine rd_itm hf ?_
      refine forgo walk_items (fun i σ' H' => Same H5 H' ∧ ((ds.take i).all fun kv => keyIn (vsN w) kv.1 && areEnts w.begin (csN w) kv.2) = true ∧ ∃ x4 x5, σ' = [some (.ref a), some (.ref p), some (.ref D1), some (.ref D2), x4, x5, none, none]) ⟨Same.refl _, rfl, none, none, rfl⟩ (fun i σ' H' _ z => z.1 _ _ hf) ?_ ?_
      · rintro i x σ' Ha Hb hi ⟨sa, hr, x4, x5, rfl⟩ ⟨tt, u, v, rfl, hT, rfl, hu, hv⟩
        obtain ⟨⟨k, v'⟩, hkv, ek⟩ := Option.map_eq_some_iff.mp hu
        obtain rfl : kV k = u := ek
        have hv : kvs[i]?.map Prod.snd = some v := hv
        rw [hkv] at hv
        obtain rfl : v' = v := Option.some.inj hv
        obtain ⟨d1, hd1, hP1⟩ := pxk_get r5 hkv
        have sT : Same Ha (upd Ha tt (.tup [kV k, v'])) := same_new hT
        have eT : (upd Ha tt (.tup [kV k, v'])) tt = some (.tup [kV k, v']) := upd_same
        generalize upd Ha tt (.tup [kV k, v']) = Hb at sT eT
        have sb := sa.trans sT
        have tk : ds.take (i + 1) = ds.take i ++ [(keyD k, d1)] := by rw [List.take_add_one, hd1]; rfl
        have bad : (keyIn (vsN w) (keyD k) && areEnts w.begin (csN w) d1) = false → isTabD w.begin (vsN w) (csN w) (.dict ds) = false := fun z => by
          have m : (keyD k, d1) ∈ ds := List.mem_of_getElem? hd1
          show ds.all _ = false
          rw [List.all_eq_false]
          exact ⟨_, m, by rw [z]; exact Bool.false_ne_true⟩
        have fin : ∀ H', Same Hb H' → Same H (upd H' p (.dK kvs)) := fun H' s => s04.trans (lk_same e4 e5 (sb.trans s))
        refine rd_gtup (sqT_of eT) rfl ?_
        walk_at "rd"
        cases k with
        | inl n =>
          rw [bad rfl] at q
          refine rd_isiV (.base (.int n)) (b := false) (kit_ty (by show kitB "int" "str" = some false; decide +kernel)) ?_ <;> walk_at "rd"
          refine LkE.rt ((sb _ _ hf)) ?_
          have := fin _ (Same.refl _)
          generalize upd Hb p (.dK kvs) = Hz at this
          walk_at "rd"
          exact q _ this
        | inr z =>
          refine rd_isiV (.base (.str z)) (b := true) (kit_ty (by show kitB "str" "str" = some true; decide +kernel)) ?_ <;> walk_at "rd"
          refine rd_ninS (.inl (sb _ _ hD1)) ?_
          by_cases hm : z ∈ vsN w
          · rw [decide_eq_true hm]
            walk_at "rd"
            have hA5 := sb _ _ (k5 _ _ (s04 _ _ hA) (ne_of (s04 _ _ hA) e4 nofun))
            walk_at "rd"
            refine ⟨a, w, _, rfl, hW5.keep sb, ?_⟩
            walk_at "rd"
            refine ⟨_, _, _, _, d1, rfl, sb _ _ hD2, hP1.keep sb, fun H6 s_H6 => ?_⟩
            have hk1 : keyIn (vsN w) (keyD (.inr z)) = true := decide_eq_true hm
            cases ha : areEnts w.begin (csN w) d1 with
            | false =>
              rw [bad (by rw [hk1, ha]; rfl)] at q
              walk_at "rd"
              refine LkE.rt ((sb.trans s_H6) _ _ hf) ?_
              have := fin _ s_H6
              generalize upd H6 p (.dK kvs) = Hz at this
              walk_at "rd"
              exact q _ this
            | true =>
              walk_at "rd"
              refine ⟨sb.trans s_H6, ?_, _, _, rfl⟩
              rw [tk, List.all_append, hr]
              show (keyIn (vsN w) (keyD (.inr z)) && areEnts w.begin (csN w) d1 && true) = true
              rw [hk1, ha]
              rfl
          · rw [decide_eq_false hm]
            have hk1 : keyIn (vsN w) (keyD (.inr z)) = false := decide_eq_false hm
            rw [bad (by rw [hk1]; rfl)] at q
            walk_at "rd"
            refine LkE.rt (sb _ _ hf) ?_
            have := fin _ (Same.refl _)
            generalize upd Hb p (.dK kvs) = Hz at this
            walk_at "rd"
            exact q _ this
      · rintro σ' Ha ⟨sa, hr, x4, x5, rfl⟩
        rw [hl, List.take_length] at hr
        have hr : isTabD w.begin (vsN w) (csN w) (.dict ds) = true := hr
        rw [hr] at q
        refine LkE.nx (sa _ _ hf) ?_
        have := s04.trans (lk_same e4 e5 sa)
        generalize upd Ha p (.dK kvs) = Hz at this
        walk_at "rd"
        exact q _ this
theorem ent_px {K : PySem.W.Frag} {H : Hp} {v : V} {e : En} (h : Px K H v (enD e)) : ∃ t, v = .ref t ∧ H t = some (.tup (enV e)) := by
  cases h with
  | @tup a xs _ e1 r =>
    cases r with
    | cons z1 r =>
      cases z1
      cases r with
      | cons z2 r =>
        cases z2
        cases r
        exact ⟨a, rfl, e1⟩
theorem rises_rows {K : PySem.W.Frag} {H : Hp} {b : Int} {cs : List Str} : ∀ {ds : List PyData} {a : Int} {xs : List V}, rises b cs a ds = true → PxAll K H xs ds → RowsAt H xs ((ds.filterMap entD).map enV)
  | [], _, _, _, h => by
    cases h
    exact .nil
  | d :: ds, a, _, hr, h => by
    cases h with
    | cons h1 h2 =>
      rcases ent_cases d with ⟨e, rfl, he⟩ | hn
      · rw [rises, he] at hr
        simp only [Bool.and_eq_true] at hr
        obtain ⟨t, rfl, e1⟩ := ent_px h1
        rw [List.filterMap_cons, he, List.map_cons]
        exact .cons e1 (rises_rows hr.2 h2)
      · rw [rises, hn] at hr
        cases hr
theorem row_val {K : PySem.W.Frag} {H : Hp} {b : Int} {cs : List Str} {v : V} {d : PyData} (ha : areEnts b cs d = true) (hP : Px K H v d) : ∃ a ps ds, v = .ref a ∧ seqD d = some ds ∧ SeqOf H a ps ∧ RowsAt H ps ((ds.filterMap entD).map enV) := by
  unfold areEnts at ha
  cases hP with
  | lst e r => exact ⟨_, _, _, rfl, rfl, .inl e, rises_rows ha r⟩
  | tup e r => exact ⟨_, _, _, rfl, rfl, .inr e, rises_rows ha r⟩
  | _ => cases ha
theorem tab_val {K : PySem.W.Frag} {H : Hp} {b : Int} {vs cs : List Str} {z : Str} : ∀ {kvs : List (Key × V)} {ds : List (PyData × PyData)}, PxKv K H kvs ds → isTabD b vs cs (.dict ds) = true →
    (valV kvs (Sum.inr z) = none ∧ (tabOf (.dict ds)).lookup z = none) ∨ ∃ v a ps es, valV kvs (Sum.inr z) = some v ∧ v = .ref a ∧ SeqOf H a ps ∧ RowsAt H ps (es.map enV) ∧ (tabOf (.dict ds)).lookup z = some es
  | _, _, .nil, _ => .inl ⟨rfl, rfl⟩
  | _, _, .cons (k := k) (v := v) (kvs := kvs) (d := d) (ds := ds) h1 r, h => by
    have h : ((keyIn vs (keyD k) && areEnts b cs d) && ds.all fun kv => keyIn vs kv.1 && areEnts b cs kv.2) = true := by
      have h : (((keyD k, d) :: ds).all fun kv => keyIn vs kv.1 && areEnts b cs kv.2) = true := h
      rw [List.all_cons] at h
      exact h
    simp only [Bool.and_eq_true] at h
    obtain ⟨⟨hk, ha⟩, hr⟩ := h
    have ih := tab_val (z := z) (b := b) (vs := vs) (cs := cs) r (show isTabD b vs cs (.dict ds) = true from hr)
    cases k with
    | inl n => cases hk
    | inr y =>
      obtain ⟨a, ps, es, rfl, hs, hq, hR⟩ := row_val ha h1
      have hrow : rowOf (keyD (.inr y), d) = some (y, es.filterMap entD) := by
        unfold rowOf
        simp only [keyD, hs]
      have ht : tabOf (.dict ((keyD (.inr y), d) :: ds)) = (y, es.filterMap entD) :: tabOf (.dict ds) := by
        show List.filterMap rowOf _ = _
        rw [List.filterMap_cons, hrow]
        rfl
      rw [ht, List.lookup_cons]
      by_cases e : y = z
      · subst e
        rw [beq_self_eq_true]
        refine .inr ⟨_, a, ps, _, ?_, rfl, hq, hR, rfl⟩
        unfold valV
        rw [List.find?_cons, decide_eq_true rfl]
        rfl
      · have : (z == y) = false := beq_eq_false_iff_ne.mpr (Ne.symm e)
        rw [this]
        have ev : valV ((Sum.inr y, V.ref a) :: kvs) (Sum.inr z) = valV kvs (Sum.inr z) := by
          unfold valV
          rw [List.find?_cons, decide_eq_false fun q => e (Sum.inr.inj q)]
        rw [ev]
        exact ih
theorem tld_app {t : Tb} {ns ms : List Str} : told (ns ++ ms) t = told ns t ++ told ms t := by unfold told; rw [List.filterMap_append]
theorem tld_sub {t : Tb} {ns : List Str} {r : Str × List En} (h : r ∈ told ns t) : r.1 ∈ ns := by
  unfold told at h
  obtain ⟨n, hn, e⟩ := List.mem_filterMap.mp h
  split at e
  · cases e
    exact hn
  · cases e
theorem tld_ok {t : Tb} {ns : List Str} {r : Str × List En} (h : r ∈ told ns t) : t.lookup r.1 = some r.2 ∧ r.2 ≠ [] := by
  unfold told at h
  obtain ⟨n, hn, e⟩ := List.mem_filterMap.mp h
  split at e
  · rename_i e2
    cases e
    exact ⟨e2, nofun⟩
  · cases e
theorem kvL_put {rs : List Rl} {l : Addr} {n : Str} {es : List En} (h : n ∉ rs.map (·.2.1)) : putK (kvL rs) (Sum.inr n) (.ref l) = kvL (rs ++ [(l, n, es)]) := by
  unfold putK
  rw [if_neg]
  · unfold kvL
    rw [List.map_append]
    rfl
  · intro e
    obtain ⟨kv, hkv, e⟩ := List.any_eq_true.mp e
    unfold kvL at hkv
    obtain ⟨r, hr, rfl⟩ := List.mem_map.mp hkv
    exact h (Sum.inr.inj (of_decide_eq_true e) ▸ List.mem_map_of_mem hr)
theorem kvL_len {rs : List Rl} : (kvL rs).length = rs.length := by unfold kvL; rw [List.length_map]
def sp_table_told (T : Tx K mg) : Sp := fun vs H Q E => ∃ a w L v d, vs = [.ref a, v] ∧ WoAt T H a w L ∧ Px K H v d ∧
  (isTabD w.begin (vsN w) (csN w) d = true → ∀ p rs H', Nn H p → (∀ r ∈ rs, Nn H r.1) → (rs.map (·.1)).Nodup → Same H H' → TbL H' p rs → rs.map (·.2) = told (vsN w) (tabOf d) → Q (.ref p) H') ∧
  (isTabD w.begin (vsN w) (csN w) d = false → ∀ x H', Same H H' → H' x = some (.xd [("found", v)]) → E (.ref T.a_NoTable) (some x) H')
theorem ok_table_told (T : Tx K mg) : FnOk P w K mg base (L2.CX P w) 6 T.a_table_told T.d_table_told ["world", "table"] (sp_table_told T) := by
  refine T.F_table_told.okX sc_table_told (fun vs H Q E h => ?_) (fun cdv A outer s H vs Q E hr h => ?_)
  · obtain ⟨a, w, L, v, d, rfl, _⟩ := h
    rfl
  · refine ⟨_, (pss_cons (ps_if (pt_not (pt_val (pe_call (ok_is_table T) (hr.mono (by decide)) (by rfl) T.g_is_table T.F_is_table.kp T.b_is_table .nil pass0 (pa_cons (pv 0) (pa_cons (pv 1) pa_nil)))))
        (pss_one (ps_raiseX rfl (takes_of rfl rfl rfl rfl) T.ox_NoTable T.ix_NoTable T.tx_NoTable (ok_NoTable___init__ T) (hr.mono (by decide)) T.b_NoTable___init__ rfl T.g_NoTable (pa_cons (pv 1) pa_nil)))
        pss_nil)
        (pss_cons (ps_set (i := 2) sc_table_told.nd rfl (Or.inl rfl) pe_dnewK)
        (pss_cons (ps_for (passes_of rfl) rfl (pi_listK (K := K) rfl (pe_meth0 (pv 0) T.cl_World T.me_World_vessels (ok_World_vessels T) (hr.mono (by decide)) T.b_World_vessels .nil pass0)) (pg_name (i := 3) sc_table_told.nd rfl (Or.inl rfl))
        (pss_cons (ps_set (i := 4) sc_table_told.nd rfl (Or.inl rfl) (pe_callTy (listOfK (K := K) rfl) (by rfl) T.m_list (by decide +kernel) (pa_cons (pe_dget2 (hu_of hr) (pv 1) (pe_fldK (K := K) rfl (pv 3)) (pe_tup pa_nil) ⟨by rfl, by rfl, by rfl, by rfl⟩) pa_nil)))
        (pss_one (ps_if (pt_cmpR (neW (K := K) rfl hr.units) (pv 4) (pe_lst pa_nil) (nomark _))
        (pss_one (ps_dput (hu_of hr) (pv 2) (pe_fldK (K := K) rfl (pv 3)) (pv 4) rfl))
        pss_nil))))
        (pss_one (ps_ret (pv 2)))))), ?_⟩
    obtain ⟨a, w, L, v, d, rfl, hW, hP, q, qe⟩ := h
    walk_at "rd"
    refine ⟨a, w, L, v, d, rfl, hW, hP, fun H1 s_H1 => ?_⟩
    cases hT : isTabD w.begin (vsN w) (csN w) d with
    | false =>
      walk_at "rd"
      refine rd_raise1 fun x hx => ?_
      exact qe hT x _ (s_H1.trans (same_new hx)) upd_same
    | true =>
      have q := q hT
      obtain ⟨p, kvs, ds, rfl, rfl, e, r⟩ : ∃ p kvs ds, v = .ref p ∧ d = .dict ds ∧ H p = some (.dK kvs) ∧ PxKv K H kvs ds := by
        cases hP with
        | dct e r => exact ⟨_, _, _, rfl, rfl, e, r⟩
        | _ => cases hT
      have hW1 := hW.keep s_H1
      obtain ⟨ok, dx, lp, lc, lb, ls, rfl, hA, h1, h2, h3, h4, hC, hB, hS⟩ := id hW1
      have zk := ok.k4
      have zs := ok.s6
      have nd : (vsN w).Nodup := ok.vd
      walk_at "rd"
      refine rd_dnewB fun p0 H2 n_p0 s_H2 e_p0 => ?_ <;> walk_at "rd"
      refine ⟨a, w, _, rfl, hW1.keep s_H2, fun lv H3 n_lv s_H3 e_lv => ?_⟩
      refine rd_ilB ?_ <;> walk_at "rd"
      have s03 := (s_H1.trans s_H2).trans s_H3
      have hB3 := hB.keep (s_H2.trans s_H3)
      have hS3 := hS.keep (s_H2.trans s_H3)
      have e3 := s03 _ _ e
      have r3 := PxKv.keep s03 r
      have ep0 := s_H3 _ _ e_p0
      have pp0 : p ≠ p0 := ne_of_none (s_H1 _ _ e) n_p0.e
      have lp0 : lv ≠ p0 := fun z => by
        rw [z] at n_lv
        exact absurd (e_p0.symm.trans n_lv.e) nofun
      have fr : ∀ {H' : Hp} {x : Addr}, KeepB p0 H3 H' → H' x = none → Nn H x := fun k hx => ⟨by
        cases z : H _ with
        | none => rfl
        | some o => exact absurd ((k _ _ (s03 _ _ z) (fun z2 => by
            subst z2
            have := n_p0.e
            rw [s_H1 _ _ z] at this
            cases this)).symm.trans hx) nofun⟩
      refine forgo walk_list (fun i σ' H' => ∃ rs : List Rl, TbL H' p0 rs ∧ rs.map (·.2) = told ((vsN w).take i) (tabOf (.dict ds)) ∧ (rs.map (·.1)).Nodup ∧ (∀ r ∈ rs, Nn H r.1) ∧ rs.length ≤ i ∧ KeepB p0 H3 H' ∧ ∃ x3 x4, σ' = [some (.ref a), some (.ref p), some (.ref p0), x3, x4])
        ⟨[], ⟨ep0, fun _ h => nomatch h⟩, rfl, List.nodup_nil, (fun _ h => nomatch h), Nat.le_refl _, KeepB.refl _ _, none, none, rfl⟩ (fun i σ' H' _ z => by
          obtain ⟨_, _, _, _, _, _, k, _⟩ := z
          exact sqL_of (k _ _ e_lv lp0)) ?_ ?_
      · rintro i x σ' Ha Hb hi ⟨rs, ⟨hp0, hrs⟩, ers, ndr, nrs, lrs, k, x3, x4, rfl⟩ ⟨e0, hx⟩
        subst e0
        obtain ⟨u, hu, rfl⟩ := refs_get hx
        have hv : VeAt T H3 u.1 u.2 := (List.mem_append.mp (List.mem_of_getElem? hu)).elim (fun m => hB3 u m) (fun m => hS3 u m)
        obtain ⟨_, dv, ev⟩ := hv
        have ev := k _ _ ev (ne_of ev ep0 nofun)
        have hun : (vsN w)[i]? = some u.2.name := by
          unfold vsN
          rw [List.getElem?_map, hu]
          rfl
        have tk : (vsN w).take (i + 1) = (vsN w).take i ++ [u.2.name] := by rw [List.take_add_one, hun]; rfl
        have nin : u.2.name ∉ (vsN w).take i := fun m => by
          rw [← List.take_append_drop (i + 1) (vsN w), tk] at nd
          rw [List.nodup_append] at nd
          have := (List.nodup_append.mp nd.1).2.2 _ m _ (List.mem_singleton_self _)
          exact this rfl
        have nin2 : u.2.name ∉ rs.map (·.2.1) := fun m => by
          obtain ⟨r', hr', e'⟩ := List.mem_map.mp m
          have : r'.2 ∈ told ((vsN w).take i) (tabOf (.dict ds)) := by
            rw [← ers]
            exact List.mem_map_of_mem hr'
          exact nin (e' ▸ tld_sub this)
        have ea := k _ _ e3 pp0
        walk_at "rd"
        refine rd_tupB fun t0 H4 n_t0 s_H4 e_t0 => ?_ <;> walk_at "rd"
        obtain ⟨b, ps, es, hval, hseq, hR, htold⟩ : ∃ b ps es, (valV kvs (Sum.inr u.2.name)).getD (.ref t0) = .ref b ∧ SeqOf H4 b ps ∧ RowsAt H4 ps (es.map enV) ∧ told [u.2.name] (tabOf (.dict ds)) = (if es = [] then [] else [(u.2.name, es)]) := by
          rcases tab_val (z := u.2.name) r3 hT with ⟨v1, v2⟩ | ⟨v, b, ps, es, v1, rfl, v3, v4, v5⟩
          · refine ⟨t0, [], [], by rw [v1]; rfl, .inr e_t0, .nil, ?_⟩
            unfold told
            rw [List.filterMap_cons, v2, if_pos rfl]
            rfl
          · have kt : ∀ c xs, H3 c = some (.tup xs) → H4 c = some (.tup xs) := fun c xs h => s_H4 _ _ (k _ _ h (ne_of h ep0 nofun))
            refine ⟨b, ps, es, by rw [v1]; rfl, ?_, v4.same kt, ?_⟩
            · exact v3.imp (fun h => s_H4 _ _ (k _ _ h (ne_of h ep0 nofun))) (fun h => kt _ _ h)
            · unfold told
              rw [List.filterMap_cons, v5]
              cases es with
              | nil => rfl
              | cons x y => rfl
        rw [hval]
        walk_at "rd"
        refine rd_listB hseq.a fun l H5 n_l s_H5 e_l => ?_
        walk_at "rd"
        refine rd_lstB fun l2 H6 n_l2 s_H6 e_l2 => ?_ <;> walk_at "rd"
        refine rd_neEmp (sqL_of (s_H6 _ _ e_l)) (sqL_of e_l2) (ne_of_none e_l n_l2.e) ?_
        have s36 : Same Hb H6 := (s_H4.trans s_H5).trans s_H6
        have k6 : KeepB p0 H3 H6 := k.trans (Same.keepB s36)
        have hlen : ps.length = es.length := by
          have := hR.len
          rwa [List.length_map] at this
        cases es with
        | nil =>
          obtain rfl : ps = [] := List.length_eq_zero_iff.mp hlen
          walk_at "rd"
          refine ⟨rs, ⟨s36 _ _ hp0, fun r' hr' => ?_⟩, ?_, ndr, nrs, by omega, k6, _, _, rfl⟩
          · obtain ⟨ps', z1, z2⟩ := hrs r' hr'
            exact ⟨ps', s36 _ _ z1, z2.keep s36⟩
          · rw [tk, tld_app, htold, if_pos rfl, List.append_nil]
            exact ers
        | cons ee er =>
          have ne : ps ≠ [] := fun z => by rw [z] at hlen; cases hlen
          have : (!ps.isEmpty) = true := by
            cases ps with
            | nil => exact absurd rfl ne
            | cons _ _ => rfl
          rw [this]
          have ev6 := s36 _ _ ev
          walk_at "rd"
          refine rd_dptS (s36 _ _ hp0) (by rw [kvL_len]; have := List.length_append (as := w.brks) (bs := w.ships); rw [refs_len] at hi; omega) ?_
          rw [kvL_put (l := l) (es := ee :: er) nin2]
          have lp : l ≠ p0 := ne_of e_l ((s_H4.trans s_H5) _ _ hp0) nofun
          have kp : ∀ {c : Addr} {o : HO}, H6 c = some o → c ≠ p0 → upd H6 p0 (.dK (kvL (rs ++ [(l, u.2.name, ee :: er)]))) c = some o := fun h n => by rw [upd_ne n]; exact h
          have kpt : ∀ c xs, H6 c = some (.tup xs) → upd H6 p0 (.dK (kvL (rs ++ [(l, u.2.name, ee :: er)]))) c = some (.tup xs) := fun c xs h => kp h (ne_of h (s36 _ _ hp0) nofun)
          walk_at "rd"
          refine ⟨rs ++ [(l, u.2.name, ee :: er)], ⟨upd_same, fun r' hr' => ?_⟩, ?_, ?_, fun r' hr' => ?_, by rw [List.length_append]; show rs.length + 1 ≤ i + 1; omega, ?_, _, _, rfl⟩
          · rcases List.mem_append.mp hr' with hr' | hr'
            · obtain ⟨ps', z1, z2⟩ := hrs r' hr'
              exact ⟨ps', kp (s36 _ _ z1) (ne_of z1 hp0 nofun), (z2.keep s36).same kpt⟩
            · rw [List.mem_singleton.mp hr']
              exact ⟨ps, kp (s_H6 _ _ e_l) lp, (hR.keep (s_H5.trans s_H6)).same kpt⟩
          · rw [List.map_append, tk, tld_app, ers, htold, if_neg nofun]
            rfl
          · rw [List.map_append, List.nodup_append]
            refine ⟨ndr, List.nodup_cons.mpr ⟨nofun, List.nodup_nil⟩, fun x hx y hy e' => ?_⟩
            obtain ⟨r', hr', rfl⟩ := List.mem_map.mp hx
            rw [List.mem_singleton.mp hy] at e'
            obtain ⟨ps', z1, _⟩ := hrs r' hr'
            have := n_l.e
            rw [show l = r'.1 from e'.symm, s_H4 _ _ z1] at this
            cases this
          · rcases List.mem_append.mp hr' with hr' | hr'
            · exact nrs r' hr'
            · rw [List.mem_singleton.mp hr']
              exact fr (k.trans (Same.keepB s_H4)) n_l.e
          · intro c o hc hn
            exact kp (k6 _ _ hc hn) hn
      · rintro σ' Ha ⟨rs, hT', ers, ndr, nrs, lrs, k, x3, x4, rfl⟩
        rw [refs_len, show (w.brks ++ w.ships).length = (vsN w).length from (List.length_map ..).symm, List.take_length] at ers
        walk_at "rd"
        refine q p0 rs Ha ⟨?_⟩ nrs ndr ?_ hT' ers
        · exact nn_same n_p0 s_H1
        · intro b o hb
          exact k _ _ (s03 _ _ hb) (ne_of_none (s_H1 _ _ hb) n_p0.e)

theorem rises_ok {b : Int} {cs : List Str} : ∀ {ds : List PyData} {a : Int}, rises b cs a ds = true → ∀ e ∈ ds.filterMap entD, okEn b cs e = true
  | [], _, _, e, h => by cases h
  | d :: ds, a, hr, e, h => by
    rcases ent_cases d with ⟨e', rfl, he⟩ | hn
    · rw [rises, he] at hr
      simp only [Bool.and_eq_true] at hr
      rw [List.filterMap_cons, he] at h
      rcases List.mem_cons.mp h with rfl | h
      · exact hr.1.1
      · exact rises_ok hr.2 e h
    · rw [rises, hn] at hr
      cases hr
theorem tab_rows {b : Int} {vs cs : List Str} {d : PyData} (h : isTabD b vs cs d = true) : ∀ r ∈ tabOf d, r.1 ∈ vs ∧ ∀ e ∈ r.2, okEn b cs e = true := fun r hr => by
  cases d with
  | dict kvs =>
    obtain ⟨kv, hkv, e⟩ := List.mem_filterMap.mp hr
    have hh := List.all_eq_true.mp (show kvs.all _ = true from h) kv hkv
    rw [Bool.and_eq_true] at hh
    obtain ⟨h1, h2⟩ := hh
    unfold rowOf at e
    split at e
    · rename_i z ds ek es
      cases e
      rw [ek] at h1
      refine ⟨of_decide_eq_true h1, ?_⟩
      unfold areEnts at h2
      rw [es] at h2
      exact rises_ok h2
    · cases e
  | _ => cases h
theorem WoOk.vn {w : Wd} (ok : WoOk w) : ∀ z ∈ vsN w, nameS z = true := fun z hz => by
  obtain ⟨u, hu, rfl⟩ := List.mem_map.mp hz
  exact (ok.ko u hu).2.1
theorem WoOk.cn {w : Wd} (ok : WoOk w) : ∀ z ∈ csN w, nameS z = true := fun z hz => by
  obtain ⟨u, hu, rfl⟩ := List.mem_map.mp hz
  exact (ok.co u hu).2.1
theorem tab_w {w : Wd} {d : PyData} {m : Nat} (ok : WoOk w) (h : isTabD w.begin (vsN w) (csN w) d = true) (hl : ∀ r ∈ tabOf d, r.2.length ≤ m) : TbW m (tabOf d) := by
  refine ⟨fun r hr => ok.vn _ (tab_rows h r hr).1, hl, fun r hr e he => ?_⟩
  have := (tab_rows h r hr).2 e he
  unfold okEn at this
  simp only [Bool.and_eq_true, decide_eq_true_eq] at this
  have b0 := ok.b0
  exact ⟨by omega, by omega, ok.cn _ this.2⟩
theorem lookup_mem {α β : Type} [BEq α] [LawfulBEq α] {k : α} {v : β} : ∀ {l : List (α × β)}, l.lookup k = some v → (k, v) ∈ l
  | (a, b) :: r, h => by
    rw [List.lookup_cons] at h
    by_cases e : k = a
    · subst e
      rw [beq_self_eq_true] at h
      cases h
      exact List.mem_cons_self
    · rw [beq_eq_false_iff_ne.mpr e] at h
      exact List.mem_cons_of_mem _ (lookup_mem h)
theorem tbw_told {m : Nat} {t : Tb} (h : TbW m t) (vs : List Str) : TbW m (told vs t) := by
  have mm : ∀ r ∈ told vs t, r ∈ t := fun r hr => lookup_mem (tld_ok hr).1
  exact ⟨fun r hr => h.n r (mm r hr), fun r hr => h.l r (mm r hr), fun r hr => h.e r (mm r hr)⟩
theorem told_len {t : Tb} {vs : List Str} : (told vs t).length ≤ vs.length := List.length_filterMap_le _ _
theorem rows_px {K : PySem.W.Frag} {H : Hp} : ∀ {es : List En} {ps : List V}, RowsAt H ps (es.map enV) → (∀ e ∈ es, e.2.length ≤ 100000) → PxAll K H ps (es.map enD)
  | [], _, h, _ => by
    cases h
    exact .nil
  | e :: es, _, h, hl => by
    rw [List.map_cons] at h
    cases h with
    | cons e1 r => exact .cons (.tup e1 (.cons (.int _) (.cons (.str _ (hl e List.mem_cons_self)) .nil))) (rows_px r fun x hx => hl x (List.mem_cons_of_mem _ hx))
theorem tbL_kv {K : PySem.W.Frag} {H : Hp} : ∀ {rs : List Rl}, (∀ r ∈ rs, RlAt H r.1 r.2.2) → (∀ r ∈ rs, ∀ e ∈ r.2.2, e.2.length ≤ 100000) → PxKv K H (kvL rs) ((rs.map (·.2)).map rowD)
  | [], _, _ => .nil
  | r :: rs, h, hl => by
    obtain ⟨ps, e, hr⟩ := h r List.mem_cons_self
    exact .cons (k := .inr r.2.1) (.lst e (rows_px hr (hl r List.mem_cons_self))) (tbL_kv (fun x hx => h x (List.mem_cons_of_mem _ hx)) fun x hx => hl x (List.mem_cons_of_mem _ hx))
theorem tbL_px {K : PySem.W.Frag} {H : Hp} {p : Addr} {rs : List Rl} (h : TbL H p rs) (hl : ∀ r ∈ rs, ∀ e ∈ r.2.2, e.2.length ≤ 100000) : Px K H (.ref p) (tbD (rs.map (·.2))) := .dct h.1 (tbL_kv h.2 hl)
theorem kvL_in {rs : List Rl} {n : Str} : (valV (kvL rs) (Sum.inr n)).isSome = decide (n ∈ rs.map (·.2.1)) := by
  rw [Bool.eq_iff_iff, decide_eq_true_iff]
  unfold valV kvL
  rw [Option.isSome_map, List.find?_isSome]
  constructor
  · rintro ⟨kv, hkv, e⟩
    obtain ⟨r, hr, rfl⟩ := List.mem_map.mp hkv
    have e := Sum.inr.inj (of_decide_eq_true e)
    exact e ▸ List.mem_map_of_mem hr
  · intro h
    obtain ⟨r, hr, rfl⟩ := List.mem_map.mp h
    exact ⟨_, List.mem_map_of_mem hr, decide_eq_true rfl⟩
theorem lookup_iff {α β : Type} [DecidableEq α] {k : α} {v : β} : ∀ {l : List (α × β)}, (l.map (·.1)).Nodup → (l.lookup k = some v ↔ (k, v) ∈ l)
  | [], _ => ⟨nofun, nofun⟩
  | (a, b) :: r, hd => by
    rw [List.map_cons, List.nodup_cons] at hd
    rw [List.lookup_cons]
    by_cases e : k = a
    · subst e
      rw [beq_self_eq_true]
      refine ⟨fun h => by cases h; exact List.mem_cons_self, fun h => ?_⟩
      rcases List.mem_cons.mp h with h | h
      · cases h
        rfl
      · exact absurd (List.mem_map_of_mem (f := Prod.fst) h) hd.1
    · rw [beq_eq_false_iff_ne.mpr e]
      simp only []
      rw [lookup_iff hd.2]
      refine ⟨fun h => List.mem_cons_of_mem _ h, fun h => ?_⟩
      rcases List.mem_cons.mp h with h | h
      · cases h
        exact absurd rfl e
      · exact h
theorem lookup_perm {u v : Tb} (hd : (u.map (·.1)).Nodup) (p : v.Perm u) (k : Str) : v.lookup k = u.lookup k := by
  have hd2 := (p.map (·.1)).nodup_iff.mpr hd
  refine Option.ext fun x => ?_
  rw [lookup_iff hd, lookup_iff hd2, p.mem_iff]
theorem told1_n {t : Tb} {v : Str} (h : t.lookup v = none) : told [v] t = [] := by
  simp only [told, List.filterMap_cons, h, List.filterMap_nil]
theorem told1_e {t : Tb} {v : Str} (h : t.lookup v = some []) : told [v] t = [] := by
  simp only [told, List.filterMap_cons, h, List.filterMap_nil]
theorem told1_c {t : Tb} {v : Str} {e : En} {es : List En} (h : t.lookup v = some (e :: es)) : told [v] t = [(v, e :: es)] := by
  simp only [told, List.filterMap_cons, h, List.filterMap_nil]
theorem told_no {t : Tb} {v : Str} {vs : List Str} (m : ¬ v ∈ vs) : (told vs t).lookup v = none := by
  cases h4 : (told vs t).lookup v with
  | none => rfl
  | some x => exact absurd (tld_sub (lookup_mem h4)) m
theorem lookup_told {t : Tb} {k : Str} : ∀ {vs : List Str}, k ∈ vs → (told vs t).lookup k = (match t.lookup k with
    | some (e :: es) => some (e :: es)
    | _ => none)
  | v :: vs, h => by
    have hc : told (v :: vs) t = told [v] t ++ told vs t := tld_app (ns := [v]) (ms := vs)
    rw [hc]
    by_cases e : v = k
    · subst e
      have go : told [v] t = [] → (told vs t).lookup v = (match t.lookup v with
          | some (e :: es) => some (e :: es)
          | _ => none) ∨ ¬ v ∈ vs := fun _ => by
        by_cases m : v ∈ vs
        · exact .inl (lookup_told (t := t) m)
        · exact .inr m
      cases h2 : t.lookup v with
      | none =>
        rw [told1_n h2, List.nil_append]
        rcases go (told1_n h2) with g | g
        · rw [h2] at g
          exact g
        · exact told_no g
      | some es =>
        cases es with
        | nil =>
          rw [told1_e h2, List.nil_append]
          rcases go (told1_e h2) with g | g
          · rw [h2] at g
            exact g
          · exact told_no g
        | cons e es =>
          rw [told1_c h2]
          show List.lookup v ((v, e :: es) :: told vs t) = some (e :: es)
          exact List.lookup_cons_self
    · have m : k ∈ vs := (List.mem_cons.mp h).resolve_left fun z => e z.symm
      have ih := lookup_told (t := t) m
      refine Eq.trans ?_ ih
      cases h2 : t.lookup v with
      | none => rw [told1_n h2, List.nil_append]
      | some es =>
        cases es with
        | nil => rw [told1_e h2, List.nil_append]
        | cons e2 es =>
          rw [told1_c h2]
          show List.lookup k ((v, e2 :: es) :: told vs t) = List.lookup k (told vs t)
          rw [List.lookup_cons, beq_eq_false_iff_ne.mpr (Ne.symm e)]
theorem told_congr {vs : List Str} {t u : Tb} (h : ∀ n ∈ vs, told [n] t = told [n] u) : told vs t = told vs u := by
  induction vs with
  | nil => rfl
  | cons v vs ih =>
    have hc : ∀ w : Tb, told (v :: vs) w = told [v] w ++ told vs w := fun w => tld_app (ns := [v]) (ms := vs)
    rw [hc, hc, h v List.mem_cons_self, ih fun n hn => h n (List.mem_cons_of_mem _ hn)]
theorem told_perm {vs : List Str} {t u : Tb} (hd : ((told vs t).map (·.1)).Nodup) (p : u.Perm (told vs t)) : told vs u = told vs t := by
  refine told_congr fun n hn => ?_
  unfold told
  rw [List.filterMap_cons, List.filterMap_cons, lookup_perm hd p n, lookup_told hn]
  cases t.lookup n with
  | none => rfl
  | some es =>
    cases es with
    | nil => rfl
    | cons e es => rfl
theorem told_nodup {t : Tb} : ∀ {vs : List Str}, vs.Nodup → ((told vs t).map (·.1)).Nodup
  | [], _ => List.nodup_nil
  | v :: vs, h => by
    rw [List.nodup_cons] at h
    have hc : told (v :: vs) t = told [v] t ++ told vs t := tld_app (ns := [v]) (ms := vs)
    rw [hc, List.map_append, List.nodup_append]
    refine ⟨?_, told_nodup h.2, fun a ha b hb e => ?_⟩
    · have : (told [v] t).length ≤ 1 := told_len (vs := [v])
      match told [v] t, this with
      | [], _ => exact List.nodup_nil
      | [x], _ => exact List.nodup_cons.mpr ⟨nofun, List.nodup_nil⟩
    · obtain ⟨x, hx, rfl⟩ := List.mem_map.mp ha
      obtain ⟨y, hy, rfl⟩ := List.mem_map.mp hb
      have h1 := List.mem_singleton.mp (tld_sub hx)
      have h2 := tld_sub hy
      rw [← e, h1] at h2
      exact h.1 h2
theorem kvL_at {rs : List Rl} {i : Nat} {r : Rl} (h : (rs.map (·.2.1)).Nodup) (e : rs[i]? = some r) : valV (kvL rs) (Sum.inr r.2.1) = some (.ref r.1) := by
  rcases kvL_val (n := r.2.1) (rs := rs) with ⟨_, h2⟩ | ⟨r', hr', h1, h2, _⟩
  · have hd : ((rs.map (·.2)).map (·.1)).Nodup := by rw [List.map_map]; exact h
    have := (lookup_iff (k := r.2.1) (v := r.2.2) hd).mpr (List.mem_map_of_mem (f := fun r : Rl => r.2) (List.mem_of_getElem? e))
    rw [h2] at this
    cases this
  · obtain ⟨j, hj⟩ := List.getElem?_of_mem hr'
    obtain rfl := nodup_at (f := fun r : Rl => r.2.1) h hj e h2
    rw [hj] at e
    cases e
    exact h1
/-- a table whose rows are lists or tuples -/
def TbQ (H : Hp) (p : Addr) (rs : List Rl) : Prop := H p = some (.dK (kvL rs)) ∧ ∀ r ∈ rs, ∃ ps, SeqOf H r.1 ps ∧ RowsAt H ps (r.2.2.map enV)
theorem TbL.q {H : Hp} {p : Addr} {rs : List Rl} (h : TbL H p rs) : TbQ H p rs := ⟨h.1, fun r hr => by
  obtain ⟨ps, e, z⟩ := h.2 r hr
  exact ⟨ps, .inl e, z⟩⟩
theorem TbQ.lt {H H' : Hp} {p : Addr} {rs : List Rl} (h : TbQ H p rs) (kd : ∀ kvs, H p = some (.dK kvs) → H' p = some (.dK kvs)) (kl : ∀ r ∈ rs, ∀ xs, H r.1 = some (.lst xs) → H' r.1 = some (.lst xs)) (kt : ∀ b xs, H b = some (.tup xs) → H' b = some (.tup xs)) : TbQ H' p rs := by
  refine ⟨kd _ h.1, fun r hr => ?_⟩
  obtain ⟨ps, z1, z2⟩ := h.2 r hr
  exact ⟨ps, z1.imp (kl r hr _) (kt _ _), z2.same kt⟩
theorem TbQ.same {H H' : Hp} {p : Addr} {rs : List Rl} (h : TbQ H p rs) (s : Same H H') : TbQ H' p rs := h.lt (fun _ e => s _ _ e) (fun _ _ _ e => s _ _ e) fun _ _ e => s _ _ e
theorem TbL.same {H H' : Hp} {p : Addr} {rs : List Rl} (h : TbL H p rs) (s : Same H H') : TbL H' p rs := ⟨s _ _ h.1, fun r hr => by
  obtain ⟨ps, z1, z2⟩ := h.2 r hr
  exact ⟨ps, s _ _ z1, z2.keep s⟩⟩
/-- rows of lists or tuples as data -/
theorem tbQ_kv {K : PySem.W.Frag} {H : Hp} {b : Int} {vs cs : List Str} : ∀ {rs : List Rl}, (∀ r ∈ rs, ∃ ps, SeqOf H r.1 ps ∧ RowsAt H ps (r.2.2.map enV)) → 0 ≤ b → (∀ r ∈ rs, nameS r.2.1 = true ∧ r.2.2.length ≤ 30 ∧ (∀ e ∈ r.2.2, nameS e.2 = true) ∧ r.2.1 ∈ vs ∧ GoodE b cs r.2.2) →
    ∃ ds, PxKv K H (kvL rs) ds ∧ ds.filterMap rowOf = rs.map (·.2) ∧ (ds.all fun kv => keyIn vs kv.1 && areEnts b cs kv.2) = true ∧ ∀ kv ∈ ds, SmX 3 130000 kv.1 ∧ SmX 3 130000 kv.2
  | [], _, _, _ => ⟨[], .nil, rfl, rfl, fun _ h => nomatch h⟩
  | r :: rs, h, b0, hg => by
    obtain ⟨ds, h1, h2, h3, h4⟩ := tbQ_kv (K := K) (b := b) (vs := vs) (cs := cs) (fun x hx => h x (List.mem_cons_of_mem _ hx)) b0 fun x hx => hg x (List.mem_cons_of_mem _ hx)
    obtain ⟨ps, z1, z2⟩ := h r List.mem_cons_self
    obtain ⟨g1, g2, g3, g4, g5⟩ := hg r List.mem_cons_self
    have px := rows_px (K := K) z2 fun e he => Nat.le_trans (name_len8 (g3 e he)) (by decide)
    have hr := good_rises g5
    have sm : ∀ d ∈ r.2.2.map enD, Sm 1 4100 d := fun d hd => by
      obtain ⟨e, he, rfl⟩ := List.mem_map.mp hd
      have := okEn_hour (g5.1 e he)
      refine (Sm.tup (n := 0) (w := 2000) (m := 2) (sm_cons (Sm.int ?_) (sm_cons (Sm.str (name_ok (g3 e he)) (Nat.le_trans (name_len8 (g3 e he)) (by decide))) sm_nil)) (Nat.le_refl 2)).mono (by decide) (by decide)
      omega
    have key : SmX 3 130000 (PyData.str r.2.1) := (SmX.of (Sm.str (name_ok g1) (Nat.le_trans (name_len8 g1) (by decide)))).mono (by decide) (by decide)
    rcases z1 with z1 | z1
    · refine ⟨(.str r.2.1, .list (r.2.2.map enD)) :: ds, .cons (k := .inr r.2.1) (.lst z1 px) h1, ?_, ?_, fun kv hkv => ?_⟩
      · rw [List.filterMap_cons, h2]
        have : rowOf (.str r.2.1, .list (r.2.2.map enD)) = some r.2 := by
          unfold rowOf
          simp only [seqD, ents_back]
        rw [this]
        rfl
      · rw [List.all_cons, h3]
        show (decide (r.2.1 ∈ vs) && rises b cs (b - 1) (r.2.2.map enD) && true) = true
        rw [decide_eq_true g4, hr]
        rfl
      · rcases List.mem_cons.mp hkv with rfl | hkv
        · exact ⟨key, (SmX.of (Sm.lst (m := 30) sm (by rw [List.length_map]; exact g2))).mono (by decide) (by decide)⟩
        · exact h4 kv hkv
    · refine ⟨(.str r.2.1, .tuple (r.2.2.map enD)) :: ds, .cons (k := .inr r.2.1) (.tup z1 px) h1, ?_, ?_, fun kv hkv => ?_⟩
      · rw [List.filterMap_cons, h2]
        have : rowOf (.str r.2.1, .tuple (r.2.2.map enD)) = some r.2 := by
          unfold rowOf
          simp only [seqD, ents_back]
        rw [this]
        rfl
      · rw [List.all_cons, h3]
        show (decide (r.2.1 ∈ vs) && rises b cs (b - 1) (r.2.2.map enD) && true) = true
        rw [decide_eq_true g4, hr]
        rfl
      · rcases List.mem_cons.mp hkv with rfl | hkv
        · exact ⟨key, (SmX.of (Sm.tup (m := 30) sm (by rw [List.length_map]; exact g2))).mono (by decide) (by decide)⟩
        · exact h4 kv hkv

def sp_need_names (T : Tx K mg) : Sp := fun vs H Q E => ∃ p xs, vs = [.ref p] ∧ SqL K H p xs ∧ (∀ x ∈ xs, ThingAt K H x) ∧ xs.length ≤ 1000 ∧ (xs.find? (fun v => !nameV v) = none → ∀ H', Same H H' → Q .non H') ∧
  ∀ v, xs.find? (fun v => !nameV v) = some v → ∀ d H', Same H H' → H' d = some (.xd [("found", v)]) → E (.ref T.a_NoName) (some d) H'
theorem ok_need_names (T : Tx K mg) : FnOk P w K mg base (L2.CX P w) 3 T.a_need_names T.d_need_names ["things"] (sp_need_names T) := by
  refine T.F_need_names.okX sc_need_names (fun vs H Q E h => ?_) (fun cdv A outer s H vs Q E hr h => ?_)
  · obtain ⟨p, xs, rfl, _⟩ := h
    rfl
  · refine ⟨_, (pss_one (ps_for (passes_of rfl) rfl (pi_listK (K := K) rfl (pv 0)) (pg_name (i := 1) sc_need_names.nd rfl (Or.inl rfl))
        (pss_one (ps_if (pt_not (pt_val (pe_call (ok_is_name T) (hr.mono (by decide)) (by rfl) T.g_is_name T.F_is_name.kp T.b_is_name .nil pass0 (pa_cons (pv 1) pa_nil))))
        (pss_one (ps_raiseX rfl (takes_of rfl rfl rfl rfl) T.ox_NoName T.ix_NoName T.tx_NoName (ok_NoName___init__ T) (hr.mono (by decide)) T.b_NoName___init__ rfl T.g_NoName (pa_cons (pv 1) pa_nil)))
        pss_nil)))), ?_⟩
    obtain ⟨p, xs, rfl, hS, hT, hl, q1, q2⟩ := h
    walk_at "rd"
    refine rd_il hS ?_
    refine forgo walk_list (fun i σ' H' => Same H H' ∧ (xs.take i).find? (fun v => !nameV v) = none ∧ ∃ x1, σ' = [some (.ref p), x1]) ⟨Same.refl _, rfl, _, rfl⟩ (fun i σ' H' _ p => (p.1).seq hS) ?_ ?_
    · rintro i x σ' Ha Hb hi ⟨sa, hn, x1, rfl⟩ ⟨e0, hx⟩
      subst e0
      walk_at "rd"
      refine ⟨x, rfl, (hT x (List.mem_of_getElem? hx)).keep sa, fun Hc sc => ?_⟩
      walk_at "rd"
      cases hv : nameV x with
      | true =>
        walk_at "rd"
        exact ⟨sa.trans sc, (find_step hn hx).1 (by rw [hv]; rfl), _, rfl⟩
      | false =>
        walk_at "rd"
        refine rd_raise1 fun d hd => ?_
        exact q2 x ((find_step hn hx).2 (by rw [hv]; rfl)) d _ ((sa.trans sc).trans (same_new hd)) upd_same
    · rintro σ' Ha ⟨sa, hn, x1, rfl⟩
      walk_at "rd"
      rw [List.take_length] at hn
      exact q1 hn _ sa
def sp_need_numbers (T : Tx K mg) : Sp := fun vs H Q E => ∃ p, ∃ rs : List (Addr × V × Int × Int), vs = [.ref p] ∧ SqL K H p (rs.map fun r => .ref r.1) ∧ (∀ r ∈ rs, SqT K H r.1 [r.2.1, .int r.2.2.1, .int r.2.2.2] ∧ ThingAt K H r.2.1) ∧ rs.length ≤ 1000 ∧
  ((rs.map (·.2)).find? badN = none → ∀ H', Same H H' → Q .non H') ∧
  ∀ r, (rs.map (·.2)).find? badN = some r → ∀ d H', Same H H' → H' d = some (.xd [("found", r.1)]) → E (.ref T.a_NoNumber) (some d) H'
theorem ok_need_numbers (T : Tx K mg) : FnOk P w K mg base (L2.CX P w) 3 T.a_need_numbers T.d_need_numbers ["rows"] (sp_need_numbers T) := by
  refine T.F_need_numbers.okX sc_need_numbers (fun vs H Q E h => ?_) (fun cdv A outer s H vs Q E hr h => ?_)
  · obtain ⟨p, rs, rfl, _⟩ := h
    rfl
  · refine ⟨_, (pss_one (ps_for (passes_of rfl) rfl (pi_listK (K := K) rfl (pv 0)) (pg_tup rfl (pgs_cons (pg_name (i := 1) sc_need_numbers.nd rfl (Or.inl rfl)) (pgs_cons (pg_name (i := 2) sc_need_numbers.nd rfl (Or.inl rfl)) (pgs_cons (pg_name (i := 3) sc_need_numbers.nd rfl (Or.inl rfl)) pgs_nil))))
        (pss_one (ps_if (pt_not (pt_val (pe_call (ok_is_within T) (hr.mono (by decide)) (by rfl) T.g_is_within T.F_is_within.kp T.b_is_within .nil pass0 (pa_cons (pv 1) (pa_cons (pv 2) (pa_cons (pv 3) pa_nil))))))
        (pss_one (ps_raiseX rfl (takes_of rfl rfl rfl rfl) T.ox_NoNumber T.ix_NoNumber T.tx_NoNumber (ok_NoNumber___init__ T) (hr.mono (by decide)) T.b_NoNumber___init__ rfl T.g_NoNumber (pa_cons (pv 1) pa_nil)))
        pss_nil)))), ?_⟩
    obtain ⟨p, rs, rfl, hS, hT, hl, q1, q2⟩ := h
    walk_at "rd"
    refine rd_il hS ?_
    refine forgo walk_list (fun i σ' H' => Same H H' ∧ ((rs.map (·.2)).take i).find? badN = none ∧ ∃ x1 x2 x3, σ' = [some (.ref p), x1, x2, x3]) ⟨Same.refl _, rfl, _, _, _, rfl⟩ (fun i σ' H' _ p => (p.1).seq hS) ?_ ?_
    · rintro i x σ' Ha Hb hi ⟨sa, hn, x1, x2, x3, rfl⟩ ⟨e0, hx⟩
      subst e0
      rw [List.getElem?_map] at hx
      obtain ⟨⟨t, v, lo, hi2⟩, hr, rfl⟩ := Option.map_eq_some_iff.mp hx
      obtain ⟨ht, hth⟩ := hT _ (List.mem_of_getElem? hr)
      have hx2 : (rs.map (·.2))[i]? = some (v, lo, hi2) := by rw [List.getElem?_map, hr]; rfl
      refine rd_gtup (Same.seqT sa ht) rfl ?_
      walk_at "rd"
      refine ⟨v, lo, hi2, rfl, hth.keep sa, ?_⟩
      walk_at "rd"
      cases hv : withinV v lo hi2 with
      | true =>
        walk_at "rd"
        exact ⟨sa, (find_step hn hx2).1 (by simp only [badN, hv]; rfl), _, _, _, rfl⟩
      | false =>
        walk_at "rd"
        refine rd_raise1 fun d hd => ?_
        exact q2 _ ((find_step hn hx2).2 (by simp only [badN, hv]; rfl)) d _ (sa.trans (same_new hd)) upd_same
    · rintro σ' Ha ⟨sa, hn, x1, x2, x3, rfl⟩
      walk_at "rd"
      rw [show (rs.map fun r => V.ref r.1).length = (rs.map (·.2)).length by rw [List.length_map, List.length_map], List.take_length] at hn
      exact q1 hn _ sa
def sp_Channel___init__ (T : Tx K mg) : Sp := fun vs H Q E => ∃ a dx nm one oth h d f g m, vs = [.ref a, nm, one, oth, h, d, f, g, m] ∧ H a = some (.ins T.a_Channel dx []) ∧ (∀ x ∈ [nm, one, oth, h, d, f, g, m], ThingAt K H x) ∧
  (chanRef nm one oth h d f g m = none → ∀ c H', [nm, one, oth, h, d, f, g, m] = chV c → KeepB a H H' → H' a = some (.ins T.a_Channel dx (chF c)) → Q .non H') ∧
  (∀ v, chanRef nm one oth h d f g m = some (0, v) → ∀ d H', Same H H' → H' d = some (.xd [("found", v)]) → E (.ref T.a_NoName) (some d) H') ∧
  (∀ v, chanRef nm one oth h d f g m = some (1, v) → ∀ d H', Same H H' → H' d = some (.xd [("name", v)]) → E (.ref T.a_Doubled) (some d) H') ∧
  (∀ v, chanRef nm one oth h d f g m = some (2, v) → ∀ d H', Same H H' → H' d = some (.xd [("found", v)]) → E (.ref T.a_NoNumber) (some d) H')
theorem chan_0 {nm one oth h d f g m v : V} (h0 : [nm, one, oth].find? (fun v => !nameV v) = some v) : chanRef nm one oth h d f g m = some (0, v) := by
  unfold chanRef
  rw [h0]
theorem chan_1 {nm one oth h d f g m : V} (h0 : [nm, one, oth].find? (fun v => !nameV v) = none) (h1 : one = oth) : chanRef nm one oth h d f g m = some (1, one) := by
  unfold chanRef
  rw [h0]
  exact if_pos h1
theorem chan_2 {nm one oth h d f g m : V} {r : V × Int × Int} (h0 : [nm, one, oth].find? (fun v => !nameV v) = none) (h1 : one ≠ oth) (h2 : [(h, (1 : Int), (1000 : Int)), (d, 0, 1000), (f, 0, 1000000)].find? badN = some r) : chanRef nm one oth h d f g m = some (2, r.1) := by
  unfold chanRef
  rw [h0]
  simp only [if_neg h1, h2]
theorem chan_3 {nm one oth h d f g m : V} {r : V × Int × Int} (h0 : [nm, one, oth].find? (fun v => !nameV v) = none) (h1 : one ≠ oth) (h2 : [(h, (1 : Int), (1000 : Int)), (d, 0, 1000), (f, 0, 1000000)].find? badN = none) (h3 : [(g, (0 : Int), (1000 : Int)), (m, intOf f, 1000000)].find? badN = some r) :
    chanRef nm one oth h d f g m = some (2, r.1) := by
  unfold chanRef
  rw [h0]
  simp only [if_neg h1, h2, h3]
theorem chan_4 {nm one oth h d f g m : V} (h0 : [nm, one, oth].find? (fun v => !nameV v) = none) (h1 : one ≠ oth) (h2 : [(h, (1 : Int), (1000 : Int)), (d, 0, 1000), (f, 0, 1000000)].find? badN = none) (h3 : [(g, (0 : Int), (1000 : Int)), (m, intOf f, 1000000)].find? badN = none) :
    chanRef nm one oth h d f g m = none := by
  unfold chanRef
  rw [h0]
  simp only [if_neg h1, h2, h3]
theorem ok_Channel___init__ (T : Tx K mg) : FnOk P w K mg base (L2.CX P w) 4 T.a_Channel___init__ T.d_Channel___init__ ["self", "name", "one", "other", "hours", "depth", "first", "growth", "most"] (sp_Channel___init__ T) := by
  refine T.F_Channel___init__.okX sc_Channel___init__ (fun vs H Q E h => ?_) (fun cdv A outer s H vs Q E hr h => ?_)
  · obtain ⟨a, dx, nm, one, oth, h1, d1, f1, g1, m1, rfl, _⟩ := h
    rfl
  · refine ⟨_, (pss_cons (ps_expr (pe_callS (ok_need_names T) (hr.mono (by decide)) (by rfl) T.g_need_names T.F_need_names.kp T.b_need_names (fun σ => passAt (takes_of rfl rfl rfl rfl) σ) (pa_cons (pe_lst (pa_cons (pv 1) (pa_cons (pv 2) (pa_cons (pv 3) pa_nil)))) pa_nil)))
        (pss_cons (ps_if (pt_cmpR op_eq (pv 2) (pv 3) (nomark _))
        (pss_one (ps_raiseX rfl (takes_of rfl rfl rfl rfl) T.ox_Doubled T.ix_Doubled T.tx_Doubled (ok_Doubled___init__ T) (hr.mono (by decide)) T.b_Doubled___init__ rfl T.g_Doubled (pa_cons (pv 2) pa_nil)))
        pss_nil)
        (pss_cons (ps_expr (pe_callS (ok_need_numbers T) (hr.mono (by decide)) (by rfl) T.g_need_numbers T.F_need_numbers.kp T.b_need_numbers (fun σ => passAt (takes_of rfl rfl rfl rfl) σ) (pa_cons (pe_lst (pa_cons (pe_tup (pa_cons (pv 4) (pa_cons pe_int (pa_cons (C8.pe_gc rfl T.c_MOST_LENGTH) pa_nil)))) (pa_cons (pe_tup (pa_cons (pv 5) (pa_cons pe_int (pa_cons (C8.pe_gc rfl T.c_MOST_DEPTH) pa_nil)))) (pa_cons (pe_tup (pa_cons (pv 6) (pa_cons pe_int (pa_cons (C8.pe_gc rfl T.c_MOST_ICE) pa_nil)))) pa_nil)))) pa_nil)))
        (pss_cons (ps_expr (pe_callS (ok_need_numbers T) (hr.mono (by decide)) (by rfl) T.g_need_numbers T.F_need_numbers.kp T.b_need_numbers (fun σ => passAt (takes_of rfl rfl rfl rfl) σ) (pa_cons (pe_lst (pa_cons (pe_tup (pa_cons (pv 7) (pa_cons pe_int (pa_cons (C8.pe_gc rfl T.c_MOST_GROWTH) pa_nil)))) (pa_cons (pe_tup (pa_cons (pv 8) (pa_cons (pv 6) (pa_cons (C8.pe_gc rfl T.c_MOST_ICE) pa_nil)))) pa_nil))) pa_nil)))
        (pss_cons (ps_fldK (K := K) rfl (pv 0) (pv 1) rfl)
        (pss_cons (ps_fldK (K := K) rfl (pv 0) (pv 2) rfl)
        (pss_cons (ps_fldK (K := K) rfl (pv 0) (pv 3) rfl)
        (pss_cons (ps_fldK (K := K) rfl (pv 0) (pv 4) rfl)
        (pss_cons (ps_fldK (K := K) rfl (pv 0) (pv 5) rfl)
        (pss_cons (ps_fldK (K := K) rfl (pv 0) (pv 6) rfl)
        (pss_cons (ps_fldK (K := K) rfl (pv 0) (pv 7) rfl)
        (pss_one (ps_fldK (K := K) rfl (pv 0) (pv 8) rfl))))))))))))), ?_⟩
    obtain ⟨a, dx, nm, one, oth, h1, d1, f1, g1, m1, rfl, hA, hT, q0, q1, q2, q3⟩ := h
    walk_at "rd"
    refine rd_lstA (by simp) fun l H1 nl s1 el => ?_
    refine ⟨l, [nm, one, oth], rfl, sqL_of el, fun x hx => (hT x (by simp only [List.mem_cons, List.not_mem_nil, or_false] at hx; rcases hx with h | h | h <;> simp [h])).keep s1, by simp, fun hf H2 s2 => ?_, fun v hv d H2 s2 hd => q1 v (chan_0 hv) d H2 (s1.trans s2) hd⟩
    have n0 := List.find?_eq_none.mp hf
    obtain ⟨z0, rfl⟩ := name_str (v := nm) (by simpa using n0 nm (by simp))
    obtain ⟨z1, rfl⟩ := name_str (v := one) (by simpa using n0 one (by simp))
    obtain ⟨z2, rfl⟩ := name_str (v := oth) (by simpa using n0 oth (by simp))
    have s02 := s1.trans s2
    walk_at "rd"
    refine rd_iteD (fun he => ?_) (fun he => ?_)
    · walk_at "rd"
      refine rd_raise1 fun d hd => ?_
      exact q2 _ (chan_1 hf he) d _ (s02.trans (same_new hd)) upd_same
    · walk_at "rd"
      refine rd_tupA (by simp) fun t1 H3 n3 s3 e3 => ?_
      walk_at "rd"
      refine rd_tupA (by simp) fun t2 H4 n4 s4 e4 => ?_
      walk_at "rd"
      refine rd_tupA (by simp) fun t3 H5 n5 s5 e5 => ?_
      walk_at "rd"
      refine rd_lstA (by simp) fun l2 H6 n6 s6 e6 => ?_
      have s06 := (((s02.trans s3).trans s4).trans s5).trans s6
      refine ⟨l2, [(t1, h1, 1, 1000), (t2, d1, 0, 1000), (t3, f1, 0, 1000000)], rfl, sqL_of e6, fun r hr => ?_, by simp, fun hf2 H7 s7 => ?_, fun r hv d H7 s7 hd => q3 r.1 (chan_2 hf he hv) d H7 (s06.trans s7) hd⟩
      · simp only [List.mem_cons, List.not_mem_nil, or_false] at hr
        rcases hr with rfl | rfl | rfl
        · exact ⟨sqT_of (s6 _ _ (s5 _ _ (s4 _ _ e3))), (hT _ (by simp)).keep s06⟩
        · exact ⟨sqT_of (s6 _ _ (s5 _ _ e4)), (hT _ (by simp)).keep s06⟩
        · exact ⟨sqT_of (s6 _ _ e5), (hT _ (by simp)).keep s06⟩
      have hf2 : [(h1, (1 : Int), (1000 : Int)), (d1, 0, 1000), (f1, 0, 1000000)].find? badN = none := hf2
      have n2 := List.find?_eq_none.mp hf2
      obtain ⟨ih, rfl⟩ := in_int (v := h1) (lo := 1) (hi := 1000) (by simpa using n2 (h1, 1, 1000) (by simp))
      obtain ⟨id, rfl⟩ := in_int (v := d1) (lo := 0) (hi := 1000) (by simpa using n2 (d1, 0, 1000) (by simp))
      obtain ⟨iff, rfl⟩ := in_int (v := f1) (lo := 0) (hi := 1000000) (by simpa using n2 (f1, 0, 1000000) (by simp))
      have s07 := s06.trans s7
      walk_at "rd"
      refine rd_tupA (by simp) fun t4 H8 n8 s8 e8 => ?_
      walk_at "rd"
      refine rd_tupA (by simp) fun t5 H9 n9 s9 e9 => ?_
      walk_at "rd"
      refine rd_lstA (by simp) fun l3 Ha na sa ea => ?_
      have s0a := ((s07.trans s8).trans s9).trans sa
      refine ⟨l3, [(t4, g1, 0, 1000), (t5, m1, iff, 1000000)], rfl, sqL_of ea, fun r hr => ?_, by simp, fun hf3 Hb sb => ?_, fun r hv d Hb sb hd => q3 r.1 (chan_3 hf he hf2 hv) d Hb (s0a.trans sb) hd⟩
      · simp only [List.mem_cons, List.not_mem_nil, or_false] at hr
        rcases hr with rfl | rfl
        · exact ⟨sqT_of (sa _ _ (s9 _ _ e8)), (hT _ (by simp)).keep s0a⟩
        · exact ⟨sqT_of (sa _ _ e9), (hT _ (by simp)).keep s0a⟩
      have hf3 : [(g1, (0 : Int), (1000 : Int)), (m1, iff, 1000000)].find? badN = none := hf3
      have n3' := List.find?_eq_none.mp hf3
      obtain ⟨ig, rfl⟩ := in_int (v := g1) (lo := 0) (hi := 1000) (by simpa using n3' (g1, 0, 1000) (by simp))
      obtain ⟨im, rfl⟩ := in_int (v := m1) (lo := iff) (hi := 1000000) (by simpa using n3' (m1, iff, 1000000) (by simp))
      have s0b := s0a.trans sb
      have hA8 := s0b _ _ hA
      walk_at "rd"
      refine rd_fldSet hA8 T.cl_Channel T.n_Channel_name (of_decide_eq_true (by kernel_rfl)) ?_
      walk_at "rd"
      refine rd_fldSet upd_same T.cl_Channel T.n_Channel_one (of_decide_eq_true (by kernel_rfl)) ?_
      walk_at "rd"
      refine rd_fldSet upd_same T.cl_Channel T.n_Channel_other (of_decide_eq_true (by kernel_rfl)) ?_
      walk_at "rd"
      refine rd_fldSet upd_same T.cl_Channel T.n_Channel_hours (of_decide_eq_true (by kernel_rfl)) ?_
      walk_at "rd"
      refine rd_fldSet upd_same T.cl_Channel T.n_Channel_depth (of_decide_eq_true (by kernel_rfl)) ?_
      walk_at "rd"
      refine rd_fldSet upd_same T.cl_Channel T.n_Channel_first (of_decide_eq_true (by kernel_rfl)) ?_
      walk_at "rd"
      refine rd_fldSet upd_same T.cl_Channel T.n_Channel_growth (of_decide_eq_true (by kernel_rfl)) ?_
      walk_at "rd"
      refine rd_fldSet upd_same T.cl_Channel T.n_Channel_most (of_decide_eq_true (by kernel_rfl)) ?_
      walk_at "rd"
      refine q0 (chan_4 hf he hf2 hf3) ⟨z0, z1, z2, ih, id, iff, ig, im⟩ _ rfl ((Same.keepB s0b).put.put.put.put.put.put.put.put) ?_
      rw [upd_same]
      exact congrArg (fun fs => some (HO.ins T.a_Channel dx fs)) (ch_put ⟨z0, z1, z2, ih, id, iff, ig, im⟩)
def chNames (c : Ch) : Prop := nameS c.name = true ∧ nameS c.one = true ∧ nameS c.other = true ∧ c.one ≠ c.other
theorem make_same {H H' : Hp} {x dx : Addr} {o1 o2 : HO} (hx : H x = none) (hdx : H dx = none) (k : KeepB x (upd (upd H dx o1) x o2) H') : Same H H' := make_keep hx hdx k
theorem chan_ok {c : Ch} (h : chOk c) (n : chNames c) : chanRef (.str c.name) (.str c.one) (.str c.other) (.int c.hours) (.int c.depth) (.int c.first) (.int c.growth) (.int c.most) = none := by
  obtain ⟨n1, n2, n3, n4⟩ := n
  unfold chOk at h
  have w : ∀ {i lo hi : Int}, lo ≤ i → i ≤ hi → badN (.int i, lo, hi) = false := fun h1 h2 => by
    simp only [badN, withinV, decide_eq_true h1, decide_eq_true h2]
    rfl
  refine chan_4 ?_ (fun e => n4 (V.str.inj e)) ?_ ?_
  · simp only [List.find?_cons, List.find?_nil, nameV, n1, n2, n3, Bool.not_true]
  · simp only [List.find?_cons, List.find?_nil, w (show 1 ≤ c.hours by omega) (show c.hours ≤ 1000 by omega), w (show 0 ≤ c.depth by omega) (show c.depth ≤ 1000 by omega), w (show 0 ≤ c.first by omega) (show c.first ≤ 1000000 by omega)]
  · simp only [List.find?_cons, List.find?_nil, intOf, w (show 0 ≤ c.growth by omega) (show c.growth ≤ 1000 by omega), w (show c.first ≤ c.most by omega) (show c.most ≤ 1000000 by omega)]
theorem chV_inj {c d : Ch} (h : chV c = chV d) : d = c := by
  cases c
  cases d
  simp only [chV, List.cons.injEq, V.str.injEq, V.int.injEq, and_true] at h
  obtain ⟨rfl, rfl, rfl, rfl, rfl, rfl, rfl, rfl⟩ := h
  rfl
theorem rd_mkChan {Q : VK} {E : XK} {H : Hp} (T : Tx K mg) (c : Ch) (hok : chOk c) (hn : chNames c) (q : ∀ x H', Nn H x → Same H H' → ChanAt T H' x c → Q (.ref x) H') : MakeG T.a_Channel (sp_Channel___init__ T) Q E (chV c) H := by
  intro x dx hx hdx hne
  refine ⟨x, dx, _, _, _, _, _, _, _, _, rfl, upd_same, fun y hy => ?_, fun _ u H' hu k' h' => ?_, fun u hu => ?_, fun u hu => ?_, fun u hu => ?_⟩
  · have l : ∀ {z : Str}, nameS z = true → z.length ≤ 100000 := fun h => by
      unfold nameS at h
      have := of_decide_eq_true (Bool.and_eq_true_iff.mp h).1
      omega
    simp only [List.mem_cons, List.not_mem_nil, or_false] at hy
    rcases hy with rfl | rfl | rfl | rfl | rfl | rfl | rfl | rfl <;> first | exact l hn.1 | exact l hn.2.1 | exact l hn.2.2.1 | trivial
  · have e := chV_inj hu
    rw [e] at h'
    exact ⟨rfl, q x H' ⟨hx⟩ (make_same hx hdx k') ⟨dx, h'⟩⟩
  · rw [chan_ok hok hn] at hu
    cases hu
  · rw [chan_ok hok hn] at hu
    cases hu
  · rw [chan_ok hok hn] at hu
    cases hu
theorem cab_ok {d : Int} (h0 : 0 ≤ d) (h1 : d ≤ 1000) : chOk ⟨Str.ofString "c", Str.ofString "a", Str.ofString "b", 1, d, 0, 0, 0⟩ := by
  unfold chOk
  simp only []
  omega
theorem cab_n {d : Int} : chNames ⟨Str.ofString "c", Str.ofString "a", Str.ofString "b", 1, d, 0, 0, 0⟩ := ⟨show nameS (Str.ofString "c") = true by decide +kernel, show nameS (Str.ofString "a") = true by decide +kernel, show nameS (Str.ofString "b") = true by decide +kernel, show Str.ofString "a" ≠ Str.ofString "b" by decide +kernel⟩

def sp_Channel_row (T : Tx K mg) : Sp := fun vs H Q _ => ∃ a c, vs = [.ref a] ∧ ChanAt T H a c ∧ ∀ p H', H p = none → Same H H' → H' p = some (.tup (chV c)) → Q (.ref p) H'
theorem ok_Channel_row (T : Tx K mg) : FnOk P w K mg base CX0 1 T.a_Channel_row T.d_Channel_row ["self"] (sp_Channel_row T) := by
  refine T.F_Channel_row.ok sc_Channel_row (fun vs H Q E h => ?_) (fun cdv A outer s H vs Q E hr h => ?_)
  · obtain ⟨a, c, rfl, _⟩ := h
    rfl
  · refine ⟨_, (pss_one (ps_ret (pe_tup (pa_cons (pe_fldK (K := K) rfl (pv 0)) (pa_cons (pe_fldK (K := K) rfl (pv 0)) (pa_cons (pe_fldK (K := K) rfl (pv 0)) (pa_cons (pe_fldK (K := K) rfl (pv 0)) (pa_cons (pe_fldK (K := K) rfl (pv 0)) (pa_cons (pe_fldK (K := K) rfl (pv 0)) (pa_cons (pe_fldK (K := K) rfl (pv 0)) (pa_cons (pe_fldK (K := K) rfl (pv 0)) pa_nil))))))))))), ?_⟩
    obtain ⟨a, c, rfl, ⟨dx, hc⟩, q⟩ := h
    walk_at "rd"
    exact rd_tupA (by simp) q
theorem ve_setC (T : Tx K mg) (k : Nat) : SetC K (veC T k) := ⟨ve_cl T k, ve_n_name T k, ve_n_port T k, ve_n_hour T k, ve_n_strength T k, ve_n_draught T k⟩
def sp_Vessel_settle (K : PySem.W.Frag) : Sp := fun vs H Q _ => ∃ (C a dx : Addr) (v : Ve) (fs : List (Str × V)), vs = [.ref a, .str v.name, .str v.port, .int v.hour, .int v.strength, .int v.draught] ∧ H a = some (.ins C dx fs) ∧ SetC K C ∧ fs.length ≤ 100 ∧
  ∀ H', KeepB a H H' → H' a = some (.ins C dx (veBOn v fs)) → Q .non H'
theorem ok_Vessel_settle (T : Tx K mg) : FnOk P w K mg base CX0 1 T.a_Vessel_settle T.d_Vessel_settle ["self", "name", "port", "hour", "strength", "draught"] (sp_Vessel_settle K) := by
  refine T.F_Vessel_settle.ok sc_Vessel_settle (fun vs H Q E h => ?_) (fun cdv A outer s H vs Q E hr h => ?_)
  · obtain ⟨C, a, dx, v, fs, rfl, _⟩ := h
    rfl
  · refine ⟨_, (pss_cons (ps_fldK (K := K) rfl (pv 0) (pv 1) rfl)
        (pss_cons (ps_fldK (K := K) rfl (pv 0) (pv 2) rfl)
        (pss_cons (ps_fldK (K := K) rfl (pv 0) (pv 3) rfl)
        (pss_cons (ps_fldK (K := K) rfl (pv 0) (pv 4) rfl)
        (pss_one (ps_fldK (K := K) rfl (pv 0) (pv 5) rfl)))))), ?_⟩
    obtain ⟨C, a, dx, v, fs, rfl, hA, ⟨cl, n1, n2, n3, n4, n5⟩, hl, q⟩ := h
    have l1 := putF_le "name" (.str v.name) fs
    have l2 := putF_le "port" (.str v.port) (putF "name" (.str v.name) fs)
    have l3 := putF_le "hour" (.int v.hour) (putF "port" (.str v.port) (putF "name" (.str v.name) fs))
    have l4 := putF_le "strength" (.int v.strength) (putF "hour" (.int v.hour) (putF "port" (.str v.port) (putF "name" (.str v.name) fs)))
    walk_at "rd"
    refine rd_fldSet hA cl n1 (by omega) ?_
    walk_at "rd"
    refine rd_fldSet upd_same cl n2 (by omega) ?_
    walk_at "rd"
    refine rd_fldSet upd_same cl n3 (by omega) ?_
    walk_at "rd"
    refine rd_fldSet upd_same cl n4 (by omega) ?_
    walk_at "rd"
    refine rd_fldSet upd_same cl n5 (by omega) ?_
    walk_at "rd"
    exact q _ ((KeepB.refl a H).put.put.put.put.put) upd_same
def sp_Vessel___init__ (T : Tx K mg) : Sp := fun vs H Q E => ∃ (k : Nat) (a dx : Addr) (nm po ho st dr : V), vs = [.ref a, nm, po, ho, st, dr] ∧ H a = some (.ins (veC T k) dx []) ∧ (∀ x ∈ [nm, po, ho, st, dr], ThingAt K H x) ∧
  (veRef nm po ho st dr = none → ∀ (v : Ve) H', [nm, po, ho, st, dr] = [.str v.name, .str v.port, .int v.hour, .int v.strength, .int v.draught] → KeepB a H H' → H' a = some (.ins (veC T k) dx (veB v)) → Q .non H') ∧
  (∀ v, veRef nm po ho st dr = some (0, v) → ∀ d H', Same H H' → H' d = some (.xd [("found", v)]) → E (.ref T.a_NoName) (some d) H') ∧
  (∀ v, veRef nm po ho st dr = some (2, v) → ∀ d H', Same H H' → H' d = some (.xd [("found", v)]) → E (.ref T.a_NoNumber) (some d) H')
theorem ve_0 {nm po ho st dr v : V} (h0 : [nm, po].find? (fun v => !nameV v) = some v) : veRef nm po ho st dr = some (0, v) := by
  unfold veRef
  rw [h0]
theorem ve_2 {nm po ho st dr : V} {r : V × Int × Int} (h0 : [nm, po].find? (fun v => !nameV v) = none) (h2 : [(ho, (0 : Int), (1000000 : Int)), (st, 0, 1000000), (dr, 0, 1000)].find? badN = some r) : veRef nm po ho st dr = some (2, r.1) := by
  unfold veRef
  rw [h0]
  simp only [h2]
theorem ve_4 {nm po ho st dr : V} (h0 : [nm, po].find? (fun v => !nameV v) = none) (h2 : [(ho, (0 : Int), (1000000 : Int)), (st, 0, 1000000), (dr, 0, 1000)].find? badN = none) : veRef nm po ho st dr = none := by
  unfold veRef
  rw [h0]
  simp only [h2]
theorem ok_Vessel___init__ (T : Tx K mg) : FnOk P w K mg base (L2.CX P w) 4 T.a_Vessel___init__ T.d_Vessel___init__ ["self", "name", "port", "hour", "strength", "draught"] (sp_Vessel___init__ T) := by
  refine T.F_Vessel___init__.okX sc_Vessel___init__ (fun vs H Q E h => ?_) (fun cdv A outer s H vs Q E hr h => ?_)
  · obtain ⟨k, a, dx, nm, po, ho, st, dr, rfl, _⟩ := h
    rfl
  · refine ⟨_, (pss_cons (ps_expr (pe_callS (ok_need_names T) (hr.mono (by decide)) (by rfl) T.g_need_names T.F_need_names.kp T.b_need_names (fun σ => passAt (takes_of rfl rfl rfl rfl) σ) (pa_cons (pe_lst (pa_cons (pv 1) (pa_cons (pv 2) pa_nil))) pa_nil)))
        (pss_cons (ps_expr (pe_callS (ok_need_numbers T) (hr.mono (by decide)) (by rfl) T.g_need_numbers T.F_need_numbers.kp T.b_need_numbers (fun σ => passAt (takes_of rfl rfl rfl rfl) σ) (pa_cons (pe_lst (pa_cons (pe_tup (pa_cons (pv 3) (pa_cons pe_int (pa_cons (C8.pe_gc rfl T.c_MOST_HOUR) pa_nil)))) (pa_cons (pe_tup (pa_cons (pv 4) (pa_cons pe_int (pa_cons (C8.pe_gc rfl T.c_MOST_ICE) pa_nil)))) (pa_cons (pe_tup (pa_cons (pv 5) (pa_cons pe_int (pa_cons (C8.pe_gc rfl T.c_MOST_DEPTH) pa_nil)))) pa_nil)))) pa_nil)))
        (pss_one (ps_expr (pe_alt (pe_meth (pv 0) T.cl_Vessel T.me_Vessel_settle (ok_Vessel_settle T) (hr.mono (by decide)) T.b_Vessel_settle .nil pass0 (pa_cons (pv 1) (pa_cons (pv 2) (pa_cons (pv 3) (pa_cons (pv 4) (pa_cons (pv 5) pa_nil)))))) (pe_alt (pe_meth (pv 0) T.cl_Breaker T.me_Breaker_settle (ok_Vessel_settle T) (hr.mono (by decide)) T.b_Vessel_settle .nil pass0 (pa_cons (pv 1) (pa_cons (pv 2) (pa_cons (pv 3) (pa_cons (pv 4) (pa_cons (pv 5) pa_nil)))))) (pe_meth (pv 0) T.cl_Ship T.me_Ship_settle (ok_Vessel_settle T) (hr.mono (by decide)) T.b_Vessel_settle .nil pass0 (pa_cons (pv 1) (pa_cons (pv 2) (pa_cons (pv 3) (pa_cons (pv 4) (pa_cons (pv 5) pa_nil)))))))))))), ?_⟩
    obtain ⟨k, a, dx, nm, po, ho, st, dr, rfl, hA, hT, q0, q1, q2⟩ := h
    walk_at "rd"
    refine rd_lstA (by simp) fun l H1 nl s1 el => ?_
    refine ⟨l, [nm, po], rfl, sqL_of el, fun x hx => (hT x (by simp only [List.mem_cons, List.not_mem_nil, or_false] at hx; rcases hx with h | h <;> simp [h])).keep s1, by simp, fun hf H2 s2 => ?_, fun v hv d H2 s2 hd => q1 v (ve_0 hv) d H2 (s1.trans s2) hd⟩
    have n0 := List.find?_eq_none.mp hf
    obtain ⟨z0, rfl⟩ := name_str (v := nm) (by simpa using n0 nm (by simp))
    obtain ⟨z1, rfl⟩ := name_str (v := po) (by simpa using n0 po (by simp))
    have s02 := s1.trans s2
    walk_at "rd"
    refine rd_tupA (by simp) fun t1 H3 n3 s3 e3 => ?_
    walk_at "rd"
    refine rd_tupA (by simp) fun t2 H4 n4 s4 e4 => ?_
    walk_at "rd"
    refine rd_tupA (by simp) fun t3 H5 n5 s5 e5 => ?_
    walk_at "rd"
    refine rd_lstA (by simp) fun l2 H6 n6 s6 e6 => ?_
    have s06 := (((s02.trans s3).trans s4).trans s5).trans s6
    refine ⟨l2, [(t1, ho, 0, 1000000), (t2, st, 0, 1000000), (t3, dr, 0, 1000)], rfl, sqL_of e6, fun r hr => ?_, by simp, fun hf2 H7 s7 => ?_, fun r hv d H7 s7 hd => q2 r.1 (ve_2 hf hv) d H7 (s06.trans s7) hd⟩
    · simp only [List.mem_cons, List.not_mem_nil, or_false] at hr
      rcases hr with rfl | rfl | rfl
      · exact ⟨sqT_of (s6 _ _ (s5 _ _ (s4 _ _ e3))), (hT _ (by simp)).keep s06⟩
      · exact ⟨sqT_of (s6 _ _ (s5 _ _ e4)), (hT _ (by simp)).keep s06⟩
      · exact ⟨sqT_of (s6 _ _ e5), (hT _ (by simp)).keep s06⟩
    have hf2 : [(ho, (0 : Int), (1000000 : Int)), (st, 0, 1000000), (dr, 0, 1000)].find? badN = none := hf2
    have n2 := List.find?_eq_none.mp hf2
    obtain ⟨ih, rfl⟩ := in_int (v := ho) (lo := 0) (hi := 1000000) (by simpa using n2 (ho, 0, 1000000) (by simp))
    obtain ⟨is, rfl⟩ := in_int (v := st) (lo := 0) (hi := 1000000) (by simpa using n2 (st, 0, 1000000) (by simp))
    obtain ⟨id, rfl⟩ := in_int (v := dr) (lo := 0) (hi := 1000) (by simpa using n2 (dr, 0, 1000) (by simp))
    have s07 := s06.trans s7
    have hA7 := s07 _ _ hA
    walk_at "rd"
    match k, hA7, q0 with
    | 0, hA7, q0 =>
      have hA8 : H7 a = some (.ins T.a_Vessel dx []) := hA7
      refine rd_altL ?_
      walk_at "rd"
      refine ⟨T.a_Vessel, a, dx, ⟨0, z0, z1, z1, ih, is, id, 0⟩, [], rfl, hA8, ve_setC T 0, by decide, fun H8 k8 h8 => ?_⟩
      walk_at "rd"
      exact q0 (ve_4 hf hf2) ⟨0, z0, z1, z1, ih, is, id, 0⟩ H8 rfl (fun b o hb hne => k8 b o (s07 b o hb) hne) (h8.trans (congrArg (fun fs => some (HO.ins T.a_Vessel dx fs)) (ve_put ⟨0, z0, z1, z1, ih, is, id, 0⟩)))
    | 1, hA7, q0 =>
      have hA8 : H7 a = some (.ins T.a_Breaker dx []) := hA7
      refine rd_altR (rd_altL ?_)
      walk_at "rd"
      refine ⟨T.a_Breaker, a, dx, ⟨0, z0, z1, z1, ih, is, id, 0⟩, [], rfl, hA8, ve_setC T 1, by decide, fun H8 k8 h8 => ?_⟩
      walk_at "rd"
      exact q0 (ve_4 hf hf2) ⟨0, z0, z1, z1, ih, is, id, 0⟩ H8 rfl (fun b o hb hne => k8 b o (s07 b o hb) hne) (h8.trans (congrArg (fun fs => some (HO.ins T.a_Breaker dx fs)) (ve_put ⟨0, z0, z1, z1, ih, is, id, 0⟩)))
    | k + 2, hA7, q0 =>
      have hA8 : H7 a = some (.ins T.a_Ship dx []) := hA7
      refine rd_altR (rd_altR ?_)
      walk_at "rd"
      refine ⟨T.a_Ship, a, dx, ⟨0, z0, z1, z1, ih, is, id, 0⟩, [], rfl, hA8, ve_setC T 2, by decide, fun H8 k8 h8 => ?_⟩
      walk_at "rd"
      exact q0 (ve_4 hf hf2) ⟨0, z0, z1, z1, ih, is, id, 0⟩ H8 rfl (fun b o hb hne => k8 b o (s07 b o hb) hne) (h8.trans (congrArg (fun fs => some (HO.ins T.a_Ship dx fs)) (ve_put ⟨0, z0, z1, z1, ih, is, id, 0⟩)))
theorem inN {i lo hi : Int} (h0 : lo ≤ i) (h1 : i ≤ hi) : badN (.int i, lo, hi) = false := by
  simp only [badN, withinV, decide_eq_true h0, decide_eq_true h1]
  rfl
theorem veOk_ref {v : Ve} (h : veOk v) (n : veNames v) : veRef (.str v.name) (.str v.port) (.int v.hour) (.int v.strength) (.int v.draught) = none := by
  obtain ⟨_, a0, a1, b0, b1, c0, c1, _, _⟩ := h
  obtain ⟨n1, n2, n3⟩ := n
  refine ve_4 ?_ ?_
  · simp only [List.find?_cons, List.find?_nil, nameV, n1, n2, Bool.not_true]
  · simp only [List.find?_cons, List.find?_nil, inN a0 a1, inN b0 b1, inN c0 c1]
theorem veF_two {v u : Ve} (k : u.kind = v.kind) (h : veV v = veV u) (hk : v.kind = 1 ∨ v.kind = 2) : veF u = veF v := by
  rcases hk with e | e
  · have e2 := k.trans e
    rw [veV_1 e, veV_1 e2] at h
    simp only [List.cons.injEq, V.str.injEq, V.int.injEq, and_true] at h
    unfold veF veB
    rw [e, e2, h.1, h.2.1, h.2.2.1, h.2.2.2.1, h.2.2.2.2.1, h.2.2.2.2.2]
    rfl
  · have e2 := k.trans e
    rw [veV_2 e, veV_2 e2] at h
    simp only [List.cons.injEq, V.str.injEq, V.int.injEq, and_true] at h
    unfold veF veB
    rw [e, e2, h.1, h.2.1, h.2.2.1, h.2.2.2.1, h.2.2.2.2.1, h.2.2.2.2.2]
    rfl
theorem VeAt.two {T : Tx K mg} {H : Hp} {a : Addr} {v u : Ve} (h : VeAt T H a u) (k : u.kind = v.kind) (e : veV v = veV u) (hk2 : v.kind = 1 ∨ v.kind = 2) : VeAt T H a v := by
  obtain ⟨hk, dx, h⟩ := h
  rw [k] at hk h
  exact ⟨hk, dx, by rw [← veF_two k e hk2]; exact h⟩
def sp_Vessel_thins (K : PySem.W.Frag) : Sp := fun vs H Q _ => ∃ a, vs = [.ref a] ∧ Q (.int 0) H
theorem ok_Vessel_thins (T : Tx K mg) : FnOk P w K mg base CX0 1 T.a_Vessel_thins T.d_Vessel_thins ["self"] (sp_Vessel_thins K) := by
  refine T.F_Vessel_thins.ok sc_Vessel_thins (fun vs H Q E h => ?_) (fun cdv A outer s H vs Q E hr h => ?_)
  · obtain ⟨a, rfl, _⟩ := h
    rfl
  · refine ⟨_, (pss_one (ps_ret pe_int)), ?_⟩
    obtain ⟨a, rfl, q⟩ := h
    walk_at "rd"
    exact q
def sp_Vessel_row (T : Tx K mg) : Sp := fun vs H Q _ => ∃ a v, vs = [.ref a] ∧ VeAt T H a v ∧ ∀ p H', H p = none → Same H H' → H' p = some (.tup [.str v.name, .str v.port, .int v.hour, .int v.strength, .int v.draught]) → Q (.ref p) H'
theorem ok_Vessel_row (T : Tx K mg) : FnOk P w K mg base CX0 1 T.a_Vessel_row T.d_Vessel_row ["self"] (sp_Vessel_row T) := by
  refine T.F_Vessel_row.ok sc_Vessel_row (fun vs H Q E h => ?_) (fun cdv A outer s H vs Q E hr h => ?_)
  · obtain ⟨a, v, rfl, _⟩ := h
    rfl
  · refine ⟨_, (pss_one (ps_ret (pe_tup (pa_cons (pe_fldK (K := K) rfl (pv 0)) (pa_cons (pe_fldK (K := K) rfl (pv 0)) (pa_cons (pe_fldK (K := K) rfl (pv 0)) (pa_cons (pe_fldK (K := K) rfl (pv 0)) (pa_cons (pe_fldK (K := K) rfl (pv 0)) pa_nil)))))))), ?_⟩
    obtain ⟨a, v, rfl, ⟨hk, dx, hA⟩, q⟩ := h
    walk_at "rd"
    exact rd_tupA (by simp) q
theorem br_1 {nm po ho st dr cu : V} {r : Nat × V} (h : veRef nm po ho st dr = some r) : brRef nm po ho st dr cu = some r := by
  unfold brRef
  rw [h]
theorem br_2 {nm po ho st dr cu : V} (h : veRef nm po ho st dr = none) (h2 : badN (cu, 1, 1000000) = true) : brRef nm po ho st dr cu = some (2, cu) := by
  unfold brRef
  rw [h]
  exact if_pos h2
theorem br_4 {nm po ho st dr cu : V} (h : veRef nm po ho st dr = none) (h2 : badN (cu, 1, 1000000) = false) : brRef nm po ho st dr cu = none := by
  unfold brRef
  rw [h]
  exact if_neg (by rw [h2]; decide)
theorem br_put (v : Ve) : putF "cut" (.int v.cut) (veB v) = veB v ++ [(("cut" : Str), V.int v.cut)] := by kernel_rfl
theorem ThingAt.keepB {H H' : Hp} {v : V} {a : Addr} (h : ThingAt K H v) (hne : v ≠ .ref a) (k : KeepB a H H') : ThingAt K H' v := by
  cases v with
  | ref b =>
    have nb : ∀ {o}, H b = some o → H' b = some o := fun e => k b _ e fun z => hne (congrArg V.ref z)
    have ty : ∀ {t}, TyOf K H (.ref b) t → TyOf K H' (.ref b) t := fun h1 => by
      cases h1 with
      | lst e => exact .lst (nb e)
      | frz e => exact .frz (nb e)
      | tup e => exact .tup (nb e)
      | dK e => exact .dK (nb e)
      | dT e => exact .dT (nb e)
      | ins h a b c d m => exact .ins (nb h) a b c d m
    rcases h with ⟨t, h1, h2⟩ | ⟨C2, h1, h2⟩
    · exact .inl ⟨t, ty h1, h2⟩
    · exact .inr ⟨C2, ty h1, h2⟩
  | _ => exact h
def sp_Breaker___init__ (T : Tx K mg) : Sp := fun vs H Q E => ∃ (a dx : Addr) (nm po ho st dr cu : V), vs = [.ref a, nm, po, ho, st, dr, cu] ∧ H a = some (.ins T.a_Breaker dx []) ∧ (∀ x ∈ [nm, po, ho, st, dr, cu], ThingAt K H x) ∧ cu ≠ .ref a ∧
  (brRef nm po ho st dr cu = none → ∀ (v : Ve) H', v.kind = 1 → [nm, po, ho, st, dr, cu] = veV v → KeepB a H H' → VeAt T H' a v → Q .non H') ∧
  (∀ v, brRef nm po ho st dr cu = some (0, v) → ∀ d H', KeepB a H H' → H' d = some (.xd [("found", v)]) → E (.ref T.a_NoName) (some d) H') ∧
  (∀ v, brRef nm po ho st dr cu = some (2, v) → ∀ d H', KeepB a H H' → H' d = some (.xd [("found", v)]) → E (.ref T.a_NoNumber) (some d) H')
theorem ok_Breaker___init__ (T : Tx K mg) : FnOk P w K mg base (L2.CX P w) 5 T.a_Breaker___init__ T.d_Breaker___init__ ["self", "name", "port", "hour", "strength", "draught", "cut"] (sp_Breaker___init__ T) := by
  refine T.F_Breaker___init__.okX sc_Breaker___init__ (fun vs H Q E h => ?_) (fun cdv A outer s H vs Q E hr h => ?_)
  · obtain ⟨a, dx, nm, po, ho, st, dr, cu, rfl, _⟩ := h
    rfl
  · refine ⟨_, (pss_cons (ps_expr (pe_ccall rfl T.g_Vessel T.rd_Vessel T.ga_Vessel T.cm_Vessel___init__ (ok_Vessel___init__ T) (hr.mono (by decide)) T.F_Vessel___init__.kp T.b_Vessel___init__ (fun σ => passAt (takes_of rfl rfl rfl rfl) σ) (pa_cons (pv 0) (pa_cons (pv 1) (pa_cons (pv 2) (pa_cons (pv 3) (pa_cons (pv 4) (pa_cons (pv 5) pa_nil))))))))
        (pss_cons (ps_expr (pe_callS (ok_need_numbers T) (hr.mono (by decide)) (by rfl) T.g_need_numbers T.F_need_numbers.kp T.b_need_numbers (fun σ => passAt (takes_of rfl rfl rfl rfl) σ) (pa_cons (pe_lst (pa_cons (pe_tup (pa_cons (pv 6) (pa_cons pe_int (pa_cons (C8.pe_gc rfl T.c_MOST_ICE) pa_nil)))) pa_nil)) pa_nil)))
        (pss_one (ps_fldK (K := K) rfl (pv 0) (pv 6) rfl)))), ?_⟩
    obtain ⟨a, dx, nm, po, ho, st, dr, cu, rfl, hA, hT, hcu, q0, q1, q2⟩ := h
    walk_at "rd"
    refine ⟨1, a, dx, nm, po, ho, st, dr, rfl, hA, fun x hx => hT x (List.mem_append_left [cu] hx), fun hf v H1 hv k1 h1 => ?_, fun v hv d H1 s1 hd => q1 v (br_1 hv) d H1 (Same.keepB s1) hd, fun v hv d H1 s1 hd => q2 v (br_1 hv) d H1 (Same.keepB s1) hd⟩
    have tcu : ThingAt K H1 cu := (hT cu (by simp)).keepB hcu k1
    walk_at "rd"
    refine rd_tupA (by simp) fun t1 H2 n2 s2 e2 => ?_
    walk_at "rd"
    refine rd_lstA (by simp) fun l H3 n3 s3 e3 => ?_
    have s13 := s2.trans s3
    refine ⟨l, [(t1, cu, 1, 1000000)], rfl, sqL_of e3, fun r hr => ?_, by simp, fun hf2 H4 s4 => ?_, fun r hv2 d H4 s4 hd => ?_⟩
    · rw [List.mem_singleton.mp hr]
      exact ⟨sqT_of (s3 _ _ e2), tcu.keep s13⟩
    · have hb : badN (cu, 1, 1000000) = false := by
        have := List.find?_eq_none.mp hf2 (cu, 1, 1000000) (by simp)
        simpa using this
      obtain ⟨ic, rfl⟩ := in_int hb
      have h14 := (s13.trans s4) _ _ h1
      walk_at "rd"
      refine rd_fldSet h14 T.cl_Breaker T.n_Breaker_cut (of_decide_eq_true (by kernel_rfl)) ?_
      walk_at "rd"
      simp only [List.cons.injEq, and_true] at hv
      obtain ⟨rfl, rfl, rfl, rfl, rfl⟩ := hv
      refine q0 (br_4 hf hb) { v with kind := 1, cut := ic } _ rfl rfl (k1.trans (Same.keepB (s13.trans s4))).put ⟨show 1 < 3 by decide, dx, ?_⟩
      rw [upd_same]
      exact congrArg (fun fs => some (HO.ins T.a_Breaker dx fs)) (br_put { v with kind := 1, cut := ic })
    · have e : r = (cu, 1, 1000000) ∧ badN (cu, 1, 1000000) = true := by
        have h1 := List.mem_of_find?_eq_some hv2
        have h2 := List.find?_some hv2
        have h3 := List.mem_singleton.mp h1
        rw [h3] at h2
        exact ⟨h3, h2⟩
      rw [e.1] at hd
      exact q2 cu (br_2 hf e.2) d H4 (k1.trans (Same.keepB (s13.trans s4))) hd
theorem rd_mkBr {Q : VK} {E : XK} {H : Hp} (T : Tx K mg) (v : Ve) (hk : v.kind = 1) (hok : veOk v) (hn : veNames v) (q : ∀ x H', Nn H x → Same H H' → VeAt T H' x v → Q (.ref x) H') : MakeG T.a_Breaker (sp_Breaker___init__ T) Q E (veV v) H := by
  have eV := veV_1 hk
  have vok := veOk_ref hok hn
  have l1 := name_len hn.1
  have l2 := name_len hn.2.1
  obtain ⟨o0, o1, o2, o3, o4, o5, o6, o7, o8⟩ := id hok
  intro x dx hx hdx hne
  have r0 : brRef (.str v.name) (.str v.port) (.int v.hour) (.int v.strength) (.int v.draught) (.int v.cut) = none := br_4 vok (inN o7 o8)
  rw [eV]
  refine ⟨x, dx, _, _, _, _, _, _, rfl, upd_same, fun y hy => ?_, nofun, fun _ u H' hu hv k' h' => ?_, fun u hu => ?_, fun u hu => ?_⟩
  · simp only [List.mem_cons, List.not_mem_nil, or_false] at hy
    rcases hy with rfl | rfl | rfl | rfl | rfl | rfl <;> first | trivial | (show _ ≤ _; omega)
  · exact ⟨rfl, q x H' ⟨hx⟩ (make_same hx hdx k') (h'.two (hu.trans hk.symm) (eV.trans hv) (.inl hk))⟩
  · rw [r0] at hu
    cases hu
  · rw [r0] at hu
    cases hu
def sp_Breaker_thins (T : Tx K mg) : Sp := fun vs H Q _ => ∃ a v, vs = [.ref a] ∧ VeAt T H a v ∧ v.kind = 1 ∧ Q (.int v.cut) H
theorem ok_Breaker_thins (T : Tx K mg) : FnOk P w K mg base CX0 1 T.a_Breaker_thins T.d_Breaker_thins ["self"] (sp_Breaker_thins T) := by
  refine T.F_Breaker_thins.ok sc_Breaker_thins (fun vs H Q E h => ?_) (fun cdv A outer s H vs Q E hr h => ?_)
  · obtain ⟨a, v, rfl, _⟩ := h
    rfl
  · refine ⟨_, (pss_one (ps_ret (pe_fldK (K := K) rfl (pv 0)))), ?_⟩
    obtain ⟨a, v, rfl, ⟨_, dx, hA⟩, hk, q⟩ := h
    have hA' : H a = some (.ins T.a_Breaker dx (veF v)) := by
      rw [hk] at hA
      exact hA
    walk_at "rd"
    exact q
def sp_Breaker_row (T : Tx K mg) : Sp := fun vs H Q _ => ∃ a v, vs = [.ref a] ∧ VeAt T H a v ∧ v.kind = 1 ∧ ∀ p H', H p = none → Same H H' → H' p = some (.tup (veV v)) → Q (.ref p) H'
theorem ok_Breaker_row (T : Tx K mg) : FnOk P w K mg base CX0 2 T.a_Breaker_row T.d_Breaker_row ["self"] (sp_Breaker_row T) := by
  refine T.F_Breaker_row.ok sc_Breaker_row (fun vs H Q E h => ?_) (fun cdv A outer s H vs Q E hr h => ?_)
  · obtain ⟨a, v, rfl, _⟩ := h
    rfl
  · refine ⟨_, (pss_one (ps_ret (pe_op (catAK (K := K) rfl) (pe_ccall (E := fun _ => E0) rfl T.g_Vessel T.rd_Vessel T.ga_Vessel T.cm_Vessel_row (ok_Vessel_row T) (hr.mono (by decide)) T.F_Vessel_row.kp T.b_Vessel_row (fun _ _ _ _ _ _ _ h => h.elim) (pa_cons (pv 0) pa_nil)) (pe_tup (pa_cons (pe_fldK (K := K) rfl (pv 0)) pa_nil))))), ?_⟩
    obtain ⟨a, v, rfl, ⟨hk3, dx, hA⟩, hk, q⟩ := h
    walk_at "rd"
    refine ⟨a, v, rfl, ⟨hk3, dx, hA⟩, fun t1 H1 n1 s1 e1 => ?_⟩
    have hA1 : H1 a = some (.ins T.a_Breaker dx (veF v)) := by
      have := s1 _ _ hA
      rw [hk] at this
      exact this
    walk_at "rd"
    refine rd_tupA (by simp) fun t2 H2 n2 s2 e2 => ?_
    refine rd_catA (sqT_of (s2 _ _ e1)) (sqT_of e2) (by simp) fun t3 H3 n3 s3 e3 => ?_
    refine q t3 H3 (none_same (s1.trans s2) n3) ((s1.trans s2).trans s3) ?_
    unfold veV
    rw [hk]
    exact e3
theorem sh_1 {nm po go ho st dr v : V} (h : [nm, po, go].find? (fun v => !nameV v) = some v) : shRef nm po go ho st dr = some (0, v) := by
  unfold shRef
  rw [h]
theorem sh_2 {nm po go ho st dr : V} (h : [nm, po, go].find? (fun v => !nameV v) = none) : shRef nm po go ho st dr = veRef nm po ho st dr := by
  unfold shRef
  rw [h]
theorem sh_put (v : Ve) : putF "goal" (.str v.goal) (veB v) = veB v ++ [(("goal" : Str), V.str v.goal)] := by kernel_rfl
def sp_Ship___init__ (T : Tx K mg) : Sp := fun vs H Q E => ∃ (a dx : Addr) (nm po go ho st dr : V), vs = [.ref a, nm, po, go, ho, st, dr] ∧ H a = some (.ins T.a_Ship dx []) ∧ (∀ x ∈ [nm, po, go, ho, st, dr], ThingAt K H x) ∧
  (shRef nm po go ho st dr = none → ∀ (v : Ve) H', v.kind = 2 → [nm, po, go, ho, st, dr] = veV v → KeepB a H H' → VeAt T H' a v → Q .non H') ∧
  (∀ v, shRef nm po go ho st dr = some (0, v) → ∀ d H', KeepB a H H' → H' d = some (.xd [("found", v)]) → E (.ref T.a_NoName) (some d) H') ∧
  (∀ v, shRef nm po go ho st dr = some (2, v) → ∀ d H', KeepB a H H' → H' d = some (.xd [("found", v)]) → E (.ref T.a_NoNumber) (some d) H')
theorem ok_Ship___init__ (T : Tx K mg) : FnOk P w K mg base (L2.CX P w) 5 T.a_Ship___init__ T.d_Ship___init__ ["self", "name", "port", "goal", "hour", "strength", "draught"] (sp_Ship___init__ T) := by
  refine T.F_Ship___init__.okX sc_Ship___init__ (fun vs H Q E h => ?_) (fun cdv A outer s H vs Q E hr h => ?_)
  · obtain ⟨a, dx, nm, po, go, ho, st, dr, rfl, _⟩ := h
    rfl
  · refine ⟨_, (pss_cons (ps_expr (pe_callS (ok_need_names T) (hr.mono (by decide)) (by rfl) T.g_need_names T.F_need_names.kp T.b_need_names (fun σ => passAt (takes_of rfl rfl rfl rfl) σ) (pa_cons (pe_lst (pa_cons (pv 1) (pa_cons (pv 2) (pa_cons (pv 3) pa_nil)))) pa_nil)))
        (pss_cons (ps_expr (pe_ccall rfl T.g_Vessel T.rd_Vessel T.ga_Vessel T.cm_Vessel___init__ (ok_Vessel___init__ T) (hr.mono (by decide)) T.F_Vessel___init__.kp T.b_Vessel___init__ (fun σ => passAt (takes_of rfl rfl rfl rfl) σ) (pa_cons (pv 0) (pa_cons (pv 1) (pa_cons (pv 2) (pa_cons (pv 4) (pa_cons (pv 5) (pa_cons (pv 6) pa_nil))))))))
        (pss_one (ps_fldK (K := K) rfl (pv 0) (pv 3) rfl)))), ?_⟩
    obtain ⟨a, dx, nm, po, go, ho, st, dr, rfl, hA, hT, q0, q1, q2⟩ := h
    walk_at "rd"
    refine rd_lstA (by simp) fun l H1 n1 s1 e1 => ?_
    refine ⟨l, [nm, po, go], rfl, sqL_of e1, fun x hx => (hT x (List.mem_append_left [ho, st, dr] hx)).keep s1, by simp, fun hf H2 s2 => ?_, fun v hv d H2 s2 hd => q1 v (sh_1 hv) d H2 (Same.keepB (s1.trans s2)) hd⟩
    have s02 := s1.trans s2
    have n0 := List.find?_eq_none.mp hf
    obtain ⟨zg, rfl⟩ := name_str (v := go) (by simpa using n0 go (by simp))
    walk_at "rd"
    refine ⟨2, a, dx, nm, po, ho, st, dr, rfl, s02 _ _ hA, fun x hx => (hT x ?_).keep s02, fun hf2 v H3 hv k3 h3 => ?_, fun v hv d H3 s3 hd => q1 v ((sh_2 hf).trans hv) d H3 (Same.keepB (s02.trans s3)) hd, fun v hv d H3 s3 hd => q2 v ((sh_2 hf).trans hv) d H3 (Same.keepB (s02.trans s3)) hd⟩
    · simp only [List.mem_cons, List.not_mem_nil, or_false] at hx
      rcases hx with h | h | h | h | h <;> simp [h]
    · walk_at "rd"
      refine rd_fldSet h3 T.cl_Ship T.n_Ship_goal (of_decide_eq_true (by kernel_rfl)) ?_
      walk_at "rd"
      simp only [List.cons.injEq, and_true] at hv
      obtain ⟨rfl, rfl, rfl, rfl, rfl⟩ := hv
      refine q0 ((sh_2 hf).trans hf2) { v with kind := 2, goal := zg } _ rfl rfl (KeepB.trans (Same.keepB s02) k3).put ⟨show 2 < 3 by decide, dx, ?_⟩
      rw [upd_same]
      exact congrArg (fun fs => some (HO.ins T.a_Ship dx fs)) (sh_put { v with kind := 2, goal := zg })
theorem rd_mkSh {Q : VK} {E : XK} {H : Hp} (T : Tx K mg) (v : Ve) (hk : v.kind = 2) (hok : veOk v) (hn : veNames v) (q : ∀ x H', Nn H x → Same H H' → VeAt T H' x v → Q (.ref x) H') : MakeG T.a_Ship (sp_Ship___init__ T) Q E (veV v) H := by
  have eV := veV_2 hk
  have vok := veOk_ref hok hn
  have l1 := name_len hn.1
  have l2 := name_len hn.2.1
  have l3 := name_len hn.2.2
  intro x dx hx hdx hne
  have r0 : shRef (.str v.name) (.str v.port) (.str v.goal) (.int v.hour) (.int v.strength) (.int v.draught) = none := by
    refine (sh_2 ?_).trans vok
    simp only [List.find?_cons, List.find?_nil, nameV, hn.1, hn.2.1, hn.2.2, Bool.not_true]
  rw [eV]
  refine ⟨x, dx, _, _, _, _, _, _, rfl, upd_same, fun y hy => ?_, fun _ u H' hu hv k' h' => ?_, fun u hu => ?_, fun u hu => ?_⟩
  · simp only [List.mem_cons, List.not_mem_nil, or_false] at hy
    rcases hy with rfl | rfl | rfl | rfl | rfl | rfl <;> first | trivial | (show _ ≤ _; omega)
  · exact ⟨rfl, q x H' ⟨hx⟩ (make_same hx hdx k') (h'.two (hu.trans hk.symm) (eV.trans hv) (.inr hk))⟩
  · rw [r0] at hu
    cases hu
  · rw [r0] at hu
    cases hu

def sp_Ship_row (T : Tx K mg) : Sp := fun vs H Q _ => ∃ a v, vs = [.ref a] ∧ VeAt T H a v ∧ v.kind = 2 ∧ ∀ p H', H p = none → Same H H' → H' p = some (.tup (veV v)) → Q (.ref p) H'
theorem ok_Ship_row (T : Tx K mg) : FnOk P w K mg base CX0 1 T.a_Ship_row T.d_Ship_row ["self"] (sp_Ship_row T) := by
  refine T.F_Ship_row.ok sc_Ship_row (fun vs H Q E h => ?_) (fun cdv A outer s H vs Q E hr h => ?_)
  · obtain ⟨a, v, rfl, _⟩ := h
    rfl
  · refine ⟨_, (pss_one (ps_ret (pe_tup (pa_cons (pe_fldK (K := K) rfl (pv 0)) (pa_cons (pe_fldK (K := K) rfl (pv 0)) (pa_cons (pe_fldK (K := K) rfl (pv 0)) (pa_cons (pe_fldK (K := K) rfl (pv 0)) (pa_cons (pe_fldK (K := K) rfl (pv 0)) (pa_cons (pe_fldK (K := K) rfl (pv 0)) pa_nil))))))))), ?_⟩
    obtain ⟨a, v, rfl, ⟨hk3, dx, hA⟩, hk, q⟩ := h
    have hA1 : H a = some (.ins T.a_Ship dx (veF v)) := by
      rw [hk] at hA
      exact hA
    walk_at "rd"
    refine rd_tupA (by simp) fun t1 H1 n1 s1 e1 => ?_
    refine q t1 H1 n1 s1 ?_
    unfold veV
    rw [hk]
    exact e1
def inLen (lo hi : Int) : Option Nat → Bool
  | none => false
  | some n => decide (lo ≤ (n : Int)) && decide ((n : Int) ≤ hi)
def sp_is_list (K : PySem.W.Frag) : Sp := fun vs H Q _ => ∃ v lo hi o, vs = [v, .int lo, .int hi] ∧ SeqN K H v o ∧ ∀ H', Same H H' → Q (.bl (inLen lo hi o)) H'
theorem ok_is_list (T : Tx K mg) : FnOk P w K mg base CX0 1 T.a_is_list T.d_is_list ["thing", "low", "high"] (sp_is_list K) := by
  refine T.F_is_list.ok sc_is_list (fun vs H Q E h => ?_) (fun cdv A outer s H vs Q E hr h => ?_)
  · obtain ⟨v, lo, hi, o, rfl, _⟩ := h
    rfl
  · refine ⟨_, (pss_one (ps_ret (pe_and (pe_callB (isiTK (K := K) rfl) (by rfl) T.m_isinstance (by decide +kernel) (pa_cons (pv 0) (pa_cons (pe_tup (pa_cons (pe_bltn (v := .ty "list") rfl T.m_list (by decide +kernel) rfl) (pa_cons (pe_bltn (v := .ty "tuple") rfl T.m_tuple (by decide +kernel) rfl) pa_nil))) pa_nil))) (pe_one (pe_chain op_le op_le (pv 1) (pe_callB (lenK (K := K) rfl) (by rfl) T.m_len (by decide +kernel) (pa_cons (pv 0) pa_nil)) (pv 2)))))), ?_⟩
    obtain ⟨v, lo, hi, o, rfl, hp, q⟩ := h
    walk_at "rd"
    refine rd_tupB fun t H1 n_t s_H1 e_t => ?_ <;> walk_at "rd"
    have hp1 := hp.keep s_H1
    have q := q H1 s_H1
    cases o with
    | none =>
      refine rd_isiLT hp1 e_t ?_
      walk_at "rd"
      exact q
    | some n =>
      obtain ⟨p, xs, rfl, hq, rfl⟩ := hp1
      refine rd_isiLT (hq.s) e_t ?_
      walk_at "rd"
      refine rd_lenA hq.a ?_
      walk_at "rd"
      refine rd_iteD (fun c1 => ?_) (fun c1 => ?_)
      · walk_at "rd"
        simp only [inLen, decide_eq_true c1, Bool.true_and] at q
        exact q
      · simp only [inLen, decide_eq_false c1, Bool.false_and] at q
        exact q
def sp_need_kinds (T : Tx K mg) : Sp := fun vs H Q E => ∃ p1 p2 p3 p4 ps cs ks ss, vs = [p1, p2, p3, p4] ∧ PortsIn K H p1 ps ∧ ItsIn T H p2 cs ∧ ItsIn T H p3 ks ∧ ItsIn T H p4 ss ∧ (kindRef ps (oi cs) (oi ks) (oi ss) = none → ∀ H', Same H H' → Q .non H') ∧
  ∀ w, kindRef ps (oi cs) (oi ks) (oi ss) = some w → ∀ d H', Same H H' → H' d = some (.xd [("found", .str w)]) → E (.ref T.a_NoWorld) (some d) H'
theorem okSeq_map {its : List (V × Itm)} {lo hi : Nat} {f : Itm → Bool} : okSeq (oi (some its)) lo hi f = ((decide (lo ≤ its.length) && decide (its.length ≤ hi)) && its.all fun u => f u.2) := by
  unfold okSeq oi
  simp only [Option.map_some, List.length_map, List.all_map]
  rfl
theorem nat_int {lo hi n : Nat} : (decide ((lo : Int) ≤ (n : Int)) && decide ((n : Int) ≤ (hi : Int))) = (decide (lo ≤ n) && decide (n ≤ hi)) := by
  congr 1 <;> rw [decide_eq_decide] <;> omega
theorem kind_1 {ps : Option (List V)} {cs ks ss : Option (List Itm)} (h : okSeq ps 1 8 nameV = false) : kindRef ps cs ks ss = some (Str.ofString "ports") := if_neg (by rw [h]; nofun)
theorem kind_2 {ps : Option (List V)} {cs ks ss : Option (List Itm)} (h1 : okSeq ps 1 8 nameV = true) (h : okSeq cs 0 12 (fun t => (itCh t).isSome) = false) : kindRef ps cs ks ss = some (Str.ofString "channels") := by
  unfold kindRef
  rw [if_pos h1, if_neg (by rw [h]; nofun)]
theorem kind_3 {ps : Option (List V)} {cs ks ss : Option (List Itm)} (h1 : okSeq ps 1 8 nameV = true) (h2 : okSeq cs 0 12 (fun t => (itCh t).isSome) = true) (h : okSeq ks 0 4 (fun t => (itVe 1 t).isSome) = false) : kindRef ps cs ks ss = some (Str.ofString "breakers") := by
  unfold kindRef
  rw [if_pos h1, if_pos h2, if_neg (by rw [h]; nofun)]
theorem kind_4 {ps : Option (List V)} {cs ks ss : Option (List Itm)} (h1 : okSeq ps 1 8 nameV = true) (h2 : okSeq cs 0 12 (fun t => (itCh t).isSome) = true) (h3 : okSeq ks 0 4 (fun t => (itVe 1 t).isSome) = true) (h : okSeq ss 0 6 (fun t => (itVe 2 t).isSome) = false) : kindRef ps cs ks ss = some (Str.ofString "ships") := by
  unfold kindRef
  rw [if_pos h1, if_pos h2, if_pos h3, if_neg (by rw [h]; nofun)]
theorem kind_5 {ps : Option (List V)} {cs ks ss : Option (List Itm)} (h1 : okSeq ps 1 8 nameV = true) (h2 : okSeq cs 0 12 (fun t => (itCh t).isSome) = true) (h3 : okSeq ks 0 4 (fun t => (itVe 1 t).isSome) = true) (h : okSeq ss 0 6 (fun t => (itVe 2 t).isSome) = true) : kindRef ps cs ks ss = none := by
  unfold kindRef
  rw [if_pos h1, if_pos h2, if_pos h3, if_pos h]
theorem kind_ok {ps : Option (List V)} {cs ks ss : Option (List Itm)} (h : kindRef ps cs ks ss = none) : okSeq ps 1 8 nameV = true ∧ okSeq cs 0 12 (fun t => (itCh t).isSome) = true ∧ okSeq ks 0 4 (fun t => (itVe 1 t).isSome) = true ∧ okSeq ss 0 6 (fun t => (itVe 2 t).isSome) = true := by
  unfold kindRef at h
  split at h
  · split at h
    · split at h
      · split at h
        · exact ⟨by assumption, by assumption, by assumption, by assumption⟩
        · cases h
      · cases h
    · cases h
  · cases h
/-- the test of one of the four lists: the word, whether it is as it should be -/
def KStep (o : Option Nat) (lo hi : Nat) (c : Bool) : Bool := match o with
  | none => false
  | some n => (decide ((lo : Int) ≤ (n : Int)) && decide ((n : Int) ≤ (hi : Int))) && c
theorem ok_need_kinds (T : Tx K mg) : FnOk P w K mg base (L2.CX P w) 3 T.a_need_kinds T.d_need_kinds ["ports", "channels", "breakers", "ships"] (sp_need_kinds T) := by
  refine T.F_need_kinds.okX sc_need_kinds (fun vs H Q E h => ?_) (fun cdv A outer s H vs Q E hr h => ?_)
  · obtain ⟨p1, p2, p3, p4, ps, cs, ks, ss, rfl, _⟩ := h
    rfl
  · refine ⟨_, (pss_cons (ps_if (PW.pt (pw_or (pt_not (pt_val (pe_call (ok_is_list T) (hr.mono (by decide)) (by rfl) T.g_is_list T.F_is_list.kp T.b_is_list .nil pass0 (pa_cons (pv 0) (pa_cons pe_int (pa_cons (C8.pe_gc rfl T.c_MOST_PORTS) pa_nil)))))) (pw_or1 (pt_not (pt_val (pe_callB (allK (K := K) rfl rfl) (by rfl) T.m_all (by decide +kernel) (pa_cons (pe_lc (own := [("port", 4)]) (g := gName 4) (tt := tYes) rfl sc_need_kinds.nd (pi_seqK (K := K) rfl (pv 0)) (blkOk_by (own := [("port", 4)]) (N := N_need_kinds) (sc := defScope s_need_kinds) (by decide +kernel)) (fun _ _ _ _ _ => (pg_name (i := 4) sc_need_kinds.nd rfl (Or.inl rfl))) (fun _ _ _ _ _ => pts_nil) (fun _ _ _ _ _ => (pe_frm (pe_call (ok_is_name T) (hr.mono (by decide)) (by rfl) T.g_is_name T.F_is_name.kp T.b_is_name .nil pass0 (pa_cons (pv 4) pa_nil))))) pa_nil)))))))
        (pss_one (ps_raiseX rfl (takes_of rfl rfl rfl rfl) T.ox_NoWorld T.ix_NoWorld T.tx_NoWorld (ok_NoWorld___init__ T) (hr.mono (by decide)) T.b_NoWorld___init__ rfl T.g_NoWorld (pa_cons pe_str pa_nil)))
        pss_nil)
        (pss_cons (ps_if (PW.pt (pw_or (pt_not (pt_val (pe_call (ok_is_list T) (hr.mono (by decide)) (by rfl) T.g_is_list T.F_is_list.kp T.b_is_list .nil pass0 (pa_cons (pv 1) (pa_cons pe_int (pa_cons (C8.pe_gc rfl T.c_MOST_CHANNELS) pa_nil)))))) (pw_or1 (pt_not (pt_val (pe_callB (allK (K := K) rfl rfl) (by rfl) T.m_all (by decide +kernel) (pa_cons (pe_lc (own := [("one", 5)]) (g := gName 5) (tt := tYes) rfl sc_need_kinds.nd (pi_seqK (K := K) rfl (pv 1)) (blkOk_by (own := [("one", 5)]) (N := N_need_kinds) (sc := defScope s_need_kinds) (by decide +kernel)) (fun _ _ _ _ _ => (pg_name (i := 5) sc_need_kinds.nd rfl (Or.inl rfl))) (fun _ _ _ _ _ => pts_nil) (fun _ _ _ _ _ => (pe_frm (pe_callB (isiK (K := K) rfl) (by rfl) T.m_isinstance (by decide +kernel) (pa_cons (pv 5) (pa_cons (pe_glob (v := .ref T.a_Channel) rfl T.g_Channel rfl) pa_nil)))))) pa_nil)))))))
        (pss_one (ps_raiseX rfl (takes_of rfl rfl rfl rfl) T.ox_NoWorld T.ix_NoWorld T.tx_NoWorld (ok_NoWorld___init__ T) (hr.mono (by decide)) T.b_NoWorld___init__ rfl T.g_NoWorld (pa_cons pe_str pa_nil)))
        pss_nil)
        (pss_cons (ps_if (PW.pt (pw_or (pt_not (pt_val (pe_call (ok_is_list T) (hr.mono (by decide)) (by rfl) T.g_is_list T.F_is_list.kp T.b_is_list .nil pass0 (pa_cons (pv 2) (pa_cons pe_int (pa_cons (C8.pe_gc rfl T.c_MOST_BREAKERS) pa_nil)))))) (pw_or1 (pt_not (pt_val (pe_callB (allK (K := K) rfl rfl) (by rfl) T.m_all (by decide +kernel) (pa_cons (pe_lc (own := [("one", 5)]) (g := gName 5) (tt := tYes) rfl sc_need_kinds.nd (pi_seqK (K := K) rfl (pv 2)) (blkOk_by (own := [("one", 5)]) (N := N_need_kinds) (sc := defScope s_need_kinds) (by decide +kernel)) (fun _ _ _ _ _ => (pg_name (i := 5) sc_need_kinds.nd rfl (Or.inl rfl))) (fun _ _ _ _ _ => pts_nil) (fun _ _ _ _ _ => (pe_frm (pe_callB (isiK (K := K) rfl) (by rfl) T.m_isinstance (by decide +kernel) (pa_cons (pv 5) (pa_cons (pe_glob (v := .ref T.a_Breaker) rfl T.g_Breaker rfl) pa_nil)))))) pa_nil)))))))
        (pss_one (ps_raiseX rfl (takes_of rfl rfl rfl rfl) T.ox_NoWorld T.ix_NoWorld T.tx_NoWorld (ok_NoWorld___init__ T) (hr.mono (by decide)) T.b_NoWorld___init__ rfl T.g_NoWorld (pa_cons pe_str pa_nil)))
        pss_nil)
        (pss_one (ps_if (PW.pt (pw_or (pt_not (pt_val (pe_call (ok_is_list T) (hr.mono (by decide)) (by rfl) T.g_is_list T.F_is_list.kp T.b_is_list .nil pass0 (pa_cons (pv 3) (pa_cons pe_int (pa_cons (C8.pe_gc rfl T.c_MOST_SHIPS) pa_nil)))))) (pw_or1 (pt_not (pt_val (pe_callB (allK (K := K) rfl rfl) (by rfl) T.m_all (by decide +kernel) (pa_cons (pe_lc (own := [("one", 5)]) (g := gName 5) (tt := tYes) rfl sc_need_kinds.nd (pi_seqK (K := K) rfl (pv 3)) (blkOk_by (own := [("one", 5)]) (N := N_need_kinds) (sc := defScope s_need_kinds) (by decide +kernel)) (fun _ _ _ _ _ => (pg_name (i := 5) sc_need_kinds.nd rfl (Or.inl rfl))) (fun _ _ _ _ _ => pts_nil) (fun _ _ _ _ _ => (pe_frm (pe_callB (isiK (K := K) rfl) (by rfl) T.m_isinstance (by decide +kernel) (pa_cons (pv 5) (pa_cons (pe_glob (v := .ref T.a_Ship) rfl T.g_Ship rfl) pa_nil)))))) pa_nil)))))))
        (pss_one (ps_raiseX rfl (takes_of rfl rfl rfl rfl) T.ox_NoWorld T.ix_NoWorld T.tx_NoWorld (ok_NoWorld___init__ T) (hr.mono (by decide)) T.b_NoWorld___init__ rfl T.g_NoWorld (pa_cons pe_str pa_nil)))
        pss_nil))))), ?_⟩
    obtain ⟨p1, p2, p3, p4, ps, cs, ks, ss, rfl, h1, h2, h3, h4, q0, qe⟩ := h
    walk_at "rd"
    refine ⟨p1, 1, 8, _, rfl, h1.n, fun H1 s_H1 => ?_⟩
    cases ps with
    | none =>
      rw [show inLen 1 8 (Option.map List.length none) = false from rfl]
      walk_at "rd"
      refine rd_raise1 fun d hd => ?_
      exact qe _ (kind_1 rfl) d _ (s_H1.trans (same_new hd)) upd_same
    | some ps =>
      obtain ⟨a1, rfl, hq1, hT1, hl1⟩ := h1
      have e1 : okSeq (some ps) 1 8 nameV = ((decide ((1 : Int) ≤ (ps.length : Int)) && decide ((ps.length : Int) ≤ 8)) && ps.all nameV) := congrArg (· && ps.all nameV) (nat_int (lo := 1) (hi := 8)).symm
      generalize hb1 : (decide ((1 : Int) ≤ (ps.length : Int)) && decide ((ps.length : Int) ≤ 8)) = b1 at e1
      rw [show inLen 1 8 (Option.map List.length (some ps)) = b1 from hb1]
      cases b1 with
      | false =>
        walk_at "rd"
        refine rd_raise1 fun d hd => ?_
        exact qe _ (kind_1 e1) d _ (s_H1.trans (same_new hd)) upd_same
      | true =>
        walk_at "rd"
        refine rd_iq (hq1.keep s_H1).a fun J G wk hG => ?_
        refine lcBl (ws := ps) id (List.map_id _).symm wk (by omega) (fun H' s => hG _ fun o e => s _ _ e) nameV (fun _ => rfl) (fun x hx H' Q' s q' => ?_) fun D H2 n_D s_H2 e_D => ?_
        · walk_at "rd"
          exact ⟨_, rfl, (hT1 x hx).keep (s_H1.trans s), fun H2 s2 => q' H2 s2⟩
        walk_at "rd"
        refine rd_allB e_D ?_
        have s02 := s_H1.trans s_H2
        generalize hc1 : ps.all nameV = c1 at e1
        cases c1 with
        | false =>
          walk_at "rd"
          refine rd_raise1 fun d hd => ?_
          exact qe _ (kind_1 e1) d _ (s02.trans (same_new hd)) upd_same
        | true =>
          have k1 : okSeq (some ps) 1 8 nameV = true := e1
          clear e1
          walk_at "rd"
          refine ⟨p2, 0, 12, _, rfl, h2.n.keep s02, fun H3 s_H3 => ?_⟩
          have s03 := s02.trans s_H3
          cases cs with
          | none =>
            rw [show inLen 0 12 (Option.map List.length none) = false from rfl]
            walk_at "rd"
            refine rd_raise1 fun d hd => ?_
            exact qe _ (kind_2 k1 rfl) d _ (s03.trans (same_new hd)) upd_same
          | some cs =>
            obtain ⟨a2, rfl, hq2, hT2, hl2⟩ := h2
            have e2 : okSeq (oi (some cs)) 0 12 (fun t => (itCh t).isSome) = ((decide ((0 : Int) ≤ (cs.length : Int)) && decide ((cs.length : Int) ≤ 12)) && cs.all fun u => (itCh u.2).isSome) := okSeq_map.trans (congrArg (· && cs.all fun u => (itCh u.2).isSome) (nat_int (lo := 0) (hi := 12)).symm)
            generalize hb2 : (decide ((0 : Int) ≤ (cs.length : Int)) && decide ((cs.length : Int) ≤ 12)) = b2 at e2
            rw [show inLen 0 12 (Option.map List.length (some cs)) = b2 from hb2]
            cases b2 with
            | false =>
              walk_at "rd"
              refine rd_raise1 fun d hd => ?_
              exact qe _ (kind_2 k1 e2) d _ (s03.trans (same_new hd)) upd_same
            | true =>
              walk_at "rd"
              refine rd_iq (hq2.keep s03).a fun J G wk hG => ?_
              refine lcBl (ws := cs) (·.1) rfl wk (by omega) (fun H' s => hG _ fun o e => s _ _ e) (fun u => (itCh u.2).isSome) (fun _ => rfl) (fun x hx H' Q' s q' => ?_) fun D2 H4 n_D2 s_H4 e_D2 => ?_
              · obtain ⟨t, ty, k⟩ := ((hT2 x hx).keep (s03.trans s)).isCh
                walk_at "rd"
                refine rd_isiO ty k ?_
                exact q' _ (Same.refl _)
              walk_at "rd"
              refine rd_allB e_D2 ?_
              have s04 := s03.trans s_H4
              generalize hc2 : (cs.all fun u => (itCh u.2).isSome) = c2 at e2
              cases c2 with
              | false =>
                walk_at "rd"
                refine rd_raise1 fun d hd => ?_
                exact qe _ (kind_2 k1 e2) d _ (s04.trans (same_new hd)) upd_same
              | true =>
                have k2 : okSeq (oi (some cs)) 0 12 (fun t => (itCh t).isSome) = true := e2
                clear e2
                walk_at "rd"
                refine ⟨p3, 0, 4, _, rfl, h3.n.keep s04, fun H5 s_H5 => ?_⟩
                have s05 := s04.trans s_H5
                cases ks with
                | none =>
                  rw [show inLen 0 4 (Option.map List.length none) = false from rfl]
                  walk_at "rd"
                  refine rd_raise1 fun d hd => ?_
                  exact qe _ (kind_3 k1 k2 rfl) d _ (s05.trans (same_new hd)) upd_same
                | some ks =>
                  obtain ⟨a3, rfl, hq3, hT3, hl3⟩ := h3
                  have e3 : okSeq (oi (some ks)) 0 4 (fun t => (itVe 1 t).isSome) = ((decide ((0 : Int) ≤ (ks.length : Int)) && decide ((ks.length : Int) ≤ 4)) && ks.all fun u => (itVe 1 u.2).isSome) := okSeq_map.trans (congrArg (· && ks.all fun u => (itVe 1 u.2).isSome) (nat_int (lo := 0) (hi := 4)).symm)
                  generalize hb3 : (decide ((0 : Int) ≤ (ks.length : Int)) && decide ((ks.length : Int) ≤ 4)) = b3 at e3
                  rw [show inLen 0 4 (Option.map List.length (some ks)) = b3 from hb3]
                  cases b3 with
                  | false =>
                    walk_at "rd"
                    refine rd_raise1 fun d hd => ?_
                    exact qe _ (kind_3 k1 k2 e3) d _ (s05.trans (same_new hd)) upd_same
                  | true =>
                    walk_at "rd"
                    refine rd_iq (hq3.keep s05).a fun J G wk hG => ?_
                    refine lcBl (ws := ks) (·.1) rfl wk (by omega) (fun H' s => hG _ fun o e => s _ _ e) (fun u => (itVe 1 u.2).isSome) (fun _ => rfl) (fun x hx H' Q' s q' => ?_) fun D3 H6 n_D3 s_H6 e_D3 => ?_
                    · obtain ⟨t, ty, k⟩ := ((hT3 x hx).keep (s05.trans s)).isBr
                      walk_at "rd"
                      refine rd_isiO ty k ?_
                      exact q' _ (Same.refl _)
                    walk_at "rd"
                    refine rd_allB e_D3 ?_
                    have s06 := s05.trans s_H6
                    generalize hc3 : (ks.all fun u => (itVe 1 u.2).isSome) = c3 at e3
                    cases c3 with
                    | false =>
                      walk_at "rd"
                      refine rd_raise1 fun d hd => ?_
                      exact qe _ (kind_3 k1 k2 e3) d _ (s06.trans (same_new hd)) upd_same
                    | true =>
                      have k3 : okSeq (oi (some ks)) 0 4 (fun t => (itVe 1 t).isSome) = true := e3
                      clear e3
                      walk_at "rd"
                      refine ⟨p4, 0, 6, _, rfl, h4.n.keep s06, fun H7 s_H7 => ?_⟩
                      have s07 := s06.trans s_H7
                      cases ss with
                      | none =>
                        rw [show inLen 0 6 (Option.map List.length none) = false from rfl]
                        walk_at "rd"
                        refine rd_raise1 fun d hd => ?_
                        exact qe _ (kind_4 k1 k2 k3 rfl) d _ (s07.trans (same_new hd)) upd_same
                      | some ss =>
                        obtain ⟨a4, rfl, hq4, hT4, hl4⟩ := h4
                        have e4 : okSeq (oi (some ss)) 0 6 (fun t => (itVe 2 t).isSome) = ((decide ((0 : Int) ≤ (ss.length : Int)) && decide ((ss.length : Int) ≤ 6)) && ss.all fun u => (itVe 2 u.2).isSome) := okSeq_map.trans (congrArg (· && ss.all fun u => (itVe 2 u.2).isSome) (nat_int (lo := 0) (hi := 6)).symm)
                        generalize hb4 : (decide ((0 : Int) ≤ (ss.length : Int)) && decide ((ss.length : Int) ≤ 6)) = b4 at e4
                        rw [show inLen 0 6 (Option.map List.length (some ss)) = b4 from hb4]
                        cases b4 with
                        | false =>
                          walk_at "rd"
                          refine rd_raise1 fun d hd => ?_
                          exact qe _ (kind_4 k1 k2 k3 e4) d _ (s07.trans (same_new hd)) upd_same
                        | true =>
                          walk_at "rd"
                          refine rd_iq (hq4.keep s07).a fun J G wk hG => ?_
                          refine lcBl (ws := ss) (·.1) rfl wk (by omega) (fun H' s => hG _ fun o e => s _ _ e) (fun u => (itVe 2 u.2).isSome) (fun _ => rfl) (fun x hx H' Q' s q' => ?_) fun D4 H8 n_D4 s_H8 e_D4 => ?_
                          · obtain ⟨t, ty, k⟩ := ((hT4 x hx).keep (s07.trans s)).isSh
                            walk_at "rd"
                            refine rd_isiO ty k ?_
                            exact q' _ (Same.refl _)
                          walk_at "rd"
                          refine rd_allB e_D4 ?_
                          have s08 := s07.trans s_H8
                          generalize hc4 : (ss.all fun u => (itVe 2 u.2).isSome) = c4 at e4
                          cases c4 with
                          | false =>
                            walk_at "rd"
                            refine rd_raise1 fun d hd => ?_
                            exact qe _ (kind_4 k1 k2 k3 e4) d _ (s08.trans (same_new hd)) upd_same
                          | true =>
                            walk_at "rd"
                            exact q0 (kind_5 k1 k2 k3 e4) _ s08
def sp_need_unlike (T : Tx K mg) : Sp := fun vs H Q E => ∃ p zs, vs = [.ref p] ∧ SeqOf H p (strsV zs) ∧ zs.length ≤ 1000 ∧ (dupS zs = none → ∀ H', Same H H' → Q .non H') ∧
  ∀ z, dupS zs = some z → ∀ d H', Same H H' → H' d = some (.xd [("name", .str z)]) → E (.ref T.a_Doubled) (some d) H'
theorem ok_need_unlike (T : Tx K mg) : FnOk P w K mg base (L2.CX P w) 3 T.a_need_unlike T.d_need_unlike ["names"] (sp_need_unlike T) := by
  refine T.F_need_unlike.okX sc_need_unlike (fun vs H Q E h => ?_) (fun cdv A outer s H vs Q E hr h => ?_)
  · obtain ⟨p, zs, rfl, _⟩ := h
    rfl
  · refine ⟨_, (pss_cons (ps_set (i := 1) sc_need_unlike.nd rfl (Or.inl rfl) pe_dnewK)
        (pss_one (ps_for (passes_of rfl) rfl (pi_seqK (K := K) rfl (pv 0)) (pg_name (i := 2) sc_need_unlike.nd rfl (Or.inl rfl))
        (pss_cons (ps_if (pt_cmp (pc_din (hu_of hr) (pv 2) (pv 1)))
        (pss_one (ps_raiseX rfl (takes_of rfl rfl rfl rfl) T.ox_Doubled T.ix_Doubled T.tx_Doubled (ok_Doubled___init__ T) (hr.mono (by decide)) T.b_Doubled___init__ rfl T.g_Doubled (pa_cons (pv 2) pa_nil)))
        pss_nil)
        (pss_one (ps_dput (hu_of hr) (pv 1) (pv 2) pe_bl rfl)))))), ?_⟩
    obtain ⟨p, zs, rfl, hp, hl, q0, qe⟩ := h
    walk_at "rd"
    refine rd_dnewB fun d H1 n_d s_H1 e_d => ?_ <;> walk_at "rd"
    have hp1 := hp.keep s_H1
    have npd : p ≠ d := hp.ne n_d.e
    refine rd_iq hp1.a fun J G wk hG => ?_
    refine forgo wk (fun i σ' H' => KeepB d H1 H' ∧ (zs.take i).Nodup ∧ H' d = some (.dK (knK (zs.take i))) ∧ ∃ x2, σ' = [some (.ref p), some (.ref d), x2]) ⟨KeepB.refl _ _, by simp, e_d, _, rfl⟩ (fun i σ' H' _ z => hG _ fun o e => z.1 _ _ e npd) ?_ ?_
    · rintro i x σ' Ha Hb hi ⟨ka, nd, hd, x2, rfl⟩ ⟨e0, hx⟩
      subst e0
      unfold strsV at hx
      rw [List.getElem?_map] at hx
      obtain ⟨z, hz, rfl⟩ := Option.map_eq_some_iff.mp hx
      have hi2 : i < zs.length := (List.getElem?_eq_some_iff.mp hz).1
      obtain ⟨d1, d2⟩ := dup_step nd hz
      walk_at "rd"
      by_cases hm : z ∈ zs.take i
      · rw [kn_some hm]
        refine iteTd rfl ?_
        walk_at "rd"
        refine rd_raise1 fun dd hdd => ?_
        exact qe z (d1 hm) dd _ ((ka.same s_H1 n_d.e).trans (same_new hdd)) upd_same
      · rw [kn_none hm]
        refine iteFd rfl ?_
        walk_at "rd"
        refine rd_dptS hd (by unfold knK; rw [List.length_map, List.length_take]; omega) ?_
        rw [kn_put hm]
        walk_at "rd"
        refine ⟨ka.put, d2 hm, by rw [upd_same, List.take_add_one, hz]; rfl, _, rfl⟩
    · rintro σ' Ha ⟨ka, nd, hd, x2, rfl⟩
      rw [strs_len, List.take_length] at nd
      walk_at "rd"
      exact q0 (dup_of nd) Ha (ka.same s_H1 n_d.e)
def sp_need_ports (T : Tx K mg) : Sp := fun vs H Q E => ∃ p1 p2 zs ys, vs = [.ref p1, .ref p2] ∧ SeqOf H p1 (strsV zs) ∧ SeqOf H p2 (strsV ys) ∧ zs.length ≤ 1000 ∧ (zs.find? (fun z => !decide (z ∈ ys)) = none → Q .non H) ∧
  ∀ z, zs.find? (fun z => !decide (z ∈ ys)) = some z → ∀ d H', Same H H' → H' d = some (.xd [("found", .str z)]) → E (.ref T.a_NoPort) (some d) H'
theorem ok_need_ports (T : Tx K mg) : FnOk P w K mg base (L2.CX P w) 3 T.a_need_ports T.d_need_ports ["names", "ports"] (sp_need_ports T) := by
  refine T.F_need_ports.okX sc_need_ports (fun vs H Q E h => ?_) (fun cdv A outer s H vs Q E hr h => ?_)
  · obtain ⟨p1, p2, zs, ys, rfl, _⟩ := h
    rfl
  · refine ⟨_, (pss_one (ps_for (passes_of rfl) rfl (pi_seqK (K := K) rfl (pv 0)) (pg_name (i := 2) sc_need_ports.nd rfl (Or.inl rfl))
        (pss_one (ps_if (pt_cmpR (notInSeqK (K := K) rfl) (pv 2) (pv 1) rfl)
        (pss_one (ps_raiseX rfl (takes_of rfl rfl rfl rfl) T.ox_NoPort T.ix_NoPort T.tx_NoPort (ok_NoPort___init__ T) (hr.mono (by decide)) T.b_NoPort___init__ rfl T.g_NoPort (pa_cons (pv 2) pa_nil)))
        pss_nil)))), ?_⟩
    obtain ⟨p1, p2, zs, ys, rfl, h1, h2, hl, q0, qe⟩ := h
    walk_at "rd"
    refine rd_iq h1.a fun J G wk hG => ?_
    refine forgo wk (fun i σ' H' => H' = H ∧ (zs.take i).find? (fun z => !decide (z ∈ ys)) = none ∧ ∃ x2, σ' = [some (.ref p1), some (.ref p2), x2]) ⟨rfl, rfl, _, rfl⟩ (fun i σ' H' _ z => by rw [z.1]; exact hG _ fun o e => e) ?_ ?_
    · rintro i x σ' Ha Hb hi ⟨e1, hn, x2, rfl⟩ ⟨e0, hx⟩
      subst e0
      subst e1
      unfold strsV at hx
      rw [List.getElem?_map] at hx
      obtain ⟨z, hz, rfl⟩ := Option.map_eq_some_iff.mp hx
      obtain ⟨f1, f2⟩ := find_step hn hz
      walk_at "rd"
      refine rd_ninS h2 ?_
      by_cases hm : z ∈ ys
      · rw [decide_eq_true hm]
        walk_at "rd"
        exact ⟨rfl, f1 (by rw [decide_eq_true hm]; rfl), _, rfl⟩
      · rw [decide_eq_false hm]
        walk_at "rd"
        refine rd_raise1 fun dd hdd => ?_
        exact qe z (f2 (by rw [decide_eq_false hm]; rfl)) dd _ (same_new hdd) upd_same
    · rintro σ' Ha ⟨e1, hn, x2, rfl⟩
      subst e1
      rw [strs_len, List.take_length] at hn
      walk_at "rd"
      exact q0 hn
/-- the world that is made of such things -/
def MadeOf (b : V) (ps : Option (List V)) (cs ks ss : Option (List (V × Itm))) (w : Wd) : Prop := b = .int w.begin ∧ ps = some (strsV w.ports) ∧ cs = some (w.chans.map fun c => (V.ref c.1, Itm.ch c.2)) ∧ ks = some (w.brks.map fun c => (V.ref c.1, Itm.ve c.2)) ∧ ss = some (w.ships.map fun c => (V.ref c.1, Itm.ve c.2))
def sp_World___init__ (T : Tx K mg) : Sp := fun vs H Q E => ∃ a dx b p1 p2 p3 p4 ps cs ks ss, vs = [.ref a, b, p1, p2, p3, p4] ∧ H a = some (.ins T.a_World dx []) ∧ ThingAt K H b ∧ PortsIn K H p1 ps ∧ ItsIn T H p2 cs ∧ ItsIn T H p3 ks ∧ ItsIn T H p4 ss ∧
  (worldRef b ps (oi cs) (oi ks) (oi ss) = none → ∀ w L H', MadeOf b ps cs ks ss w → (∀ x ∈ L, H x = none) → KeepB a H H' → WoAt T H' a w L → Q .non H') ∧
  (∀ v, worldRef b ps (oi cs) (oi ks) (oi ss) = some (0, v) → ∀ d H', Same H H' → H' d = some (.xd [("found", v)]) → E (.ref T.a_NoNumber) (some d) H') ∧
  (∀ v, worldRef b ps (oi cs) (oi ks) (oi ss) = some (1, v) → ∀ d H', Same H H' → H' d = some (.xd [("found", v)]) → E (.ref T.a_NoWorld) (some d) H') ∧
  (∀ v, worldRef b ps (oi cs) (oi ks) (oi ss) = some (2, v) → ∀ d H', Same H H' → H' d = some (.xd [("name", v)]) → E (.ref T.a_Doubled) (some d) H') ∧
  (∀ v, worldRef b ps (oi cs) (oi ks) (oi ss) = some (3, v) → ∀ d H', Same H H' → H' d = some (.xd [("found", v)]) → E (.ref T.a_NoPort) (some d) H')
theorem wr_0 {b : V} {ps : Option (List V)} {cs ks ss : Option (List Itm)} (h : withinV b 0 1000000 = false) : worldRef b ps cs ks ss = some (0, b) := if_neg (by rw [h]; nofun)
theorem wr_1 {b : V} {ps : Option (List V)} {cs ks ss : Option (List Itm)} {w : Str} (h : withinV b 0 1000000 = true) (h1 : kindRef ps cs ks ss = some w) : worldRef b ps cs ks ss = some (1, .str w) := by
  unfold worldRef
  rw [if_pos h, h1]
theorem wr_2 {b : V} {ps : Option (List V)} {cs ks ss : Option (List Itm)} (h : withinV b 0 1000000 = true) (h1 : kindRef ps cs ks ss = none) : worldRef b ps cs ks ss = (lateRef (psOf ps) (csOf cs) (vsOf 1 ks) (vsOf 2 ss)).map fun r => (r.1, .str r.2) := by
  unfold worldRef
  rw [if_pos h, h1]
theorem la_1 {zs : List Str} {cs : List Ch} {ks ss : List Ve} {z : Str} (h : dupS zs = some z) : lateRef zs cs ks ss = some (2, z) := by
  unfold lateRef
  rw [h]
theorem la_2 {zs : List Str} {cs : List Ch} {ks ss : List Ve} {z : Str} (h1 : dupS zs = none) (h : dupS (cs.map (·.name)) = some z) : lateRef zs cs ks ss = some (2, z) := by
  unfold lateRef
  rw [h1, h]
theorem la_3 {zs : List Str} {cs : List Ch} {ks ss : List Ve} {z : Str} (h1 : dupS zs = none) (h2 : dupS (cs.map (·.name)) = none) (h : dupS ((ks ++ ss).map (·.name)) = some z) : lateRef zs cs ks ss = some (2, z) := by
  unfold lateRef
  rw [h1, h2, h]
theorem la_4 {zs : List Str} {cs : List Ch} {ks ss : List Ve} {z : Str} (h1 : dupS zs = none) (h2 : dupS (cs.map (·.name)) = none) (h3 : dupS ((ks ++ ss).map (·.name)) = none) (h : (cs.flatMap endsOf).find? (fun z => !decide (z ∈ zs)) = some z) : lateRef zs cs ks ss = some (3, z) := by
  unfold lateRef
  rw [h1, h2, h3, h]
theorem la_5 {zs : List Str} {cs : List Ch} {ks ss : List Ve} {z : Str} (h1 : dupS zs = none) (h2 : dupS (cs.map (·.name)) = none) (h3 : dupS ((ks ++ ss).map (·.name)) = none) (h4 : (cs.flatMap endsOf).find? (fun z => !decide (z ∈ zs)) = none) (h : (ks.map (·.port)).find? (fun z => !decide (z ∈ zs)) = some z) : lateRef zs cs ks ss = some (3, z) := by
  unfold lateRef
  rw [h1, h2, h3, h4, h]
theorem la_6 {zs : List Str} {cs : List Ch} {ks ss : List Ve} {z : Str} (h1 : dupS zs = none) (h2 : dupS (cs.map (·.name)) = none) (h3 : dupS ((ks ++ ss).map (·.name)) = none) (h4 : (cs.flatMap endsOf).find? (fun z => !decide (z ∈ zs)) = none) (h5 : (ks.map (·.port)).find? (fun z => !decide (z ∈ zs)) = none) (h : (ss.flatMap endsVe).find? (fun z => !decide (z ∈ zs)) = some z) : lateRef zs cs ks ss = some (3, z) := by
  unfold lateRef
  rw [h1, h2, h3, h4, h5, h]
theorem la_7 {zs : List Str} {cs : List Ch} {ks ss : List Ve} (h1 : dupS zs = none) (h2 : dupS (cs.map (·.name)) = none) (h3 : dupS ((ks ++ ss).map (·.name)) = none) (h4 : (cs.flatMap endsOf).find? (fun z => !decide (z ∈ zs)) = none) (h5 : (ks.map (·.port)).find? (fun z => !decide (z ∈ zs)) = none) (h : (ss.flatMap endsVe).find? (fun z => !decide (z ∈ zs)) = none) : lateRef zs cs ks ss = none := by
  unfold lateRef
  rw [h1, h2, h3, h4, h5, h]
theorem find_in {zs ys : List Str} (h : zs.find? (fun z => !decide (z ∈ ys)) = none) : ∀ z ∈ zs, z ∈ ys := fun z hz => by
  have := List.find?_eq_none.mp h z hz
  simpa using this
theorem ok_World___init__ (T : Tx K mg) : FnOk P w K mg base (L2.CX P w) 4 T.a_World___init__ T.d_World___init__ ["self", "begin", "ports", "channels", "breakers", "ships"] (sp_World___init__ T) := by
  refine T.F_World___init__.okX sc_World___init__ (fun vs H Q E h => ?_) (fun cdv A outer s H vs Q E hr h => ?_)
  · obtain ⟨a, dx, b, p1, p2, p3, p4, ps, cs, ks, ss, rfl, _⟩ := h
    rfl
  · refine ⟨_, (pss_cons (ps_if (pt_not (pt_val (pe_call (ok_is_within T) (hr.mono (by decide)) (by rfl) T.g_is_within T.F_is_within.kp T.b_is_within .nil pass0 (pa_cons (pv 1) (pa_cons pe_int (pa_cons (C8.pe_gc rfl T.c_MOST_BEGIN) pa_nil))))))
        (pss_one (ps_raiseX rfl (takes_of rfl rfl rfl rfl) T.ox_NoNumber T.ix_NoNumber T.tx_NoNumber (ok_NoNumber___init__ T) (hr.mono (by decide)) T.b_NoNumber___init__ rfl T.g_NoNumber (pa_cons (pv 1) pa_nil)))
        pss_nil)
        (pss_cons (ps_expr (pe_callS (ok_need_kinds T) (hr.mono (by decide)) (by rfl) T.g_need_kinds T.F_need_kinds.kp T.b_need_kinds (fun σ => passAt (takes_of rfl rfl rfl rfl) σ) (pa_cons (pv 2) (pa_cons (pv 3) (pa_cons (pv 4) (pa_cons (pv 5) pa_nil))))))
        (pss_cons (ps_expr (pe_callS (ok_need_unlike T) (hr.mono (by decide)) (by rfl) T.g_need_unlike T.F_need_unlike.kp T.b_need_unlike (fun σ => passAt (takes_of rfl rfl rfl rfl) σ) (pa_cons (pv 2) pa_nil)))
        (pss_cons (ps_expr (pe_callS (ok_need_unlike T) (hr.mono (by decide)) (by rfl) T.g_need_unlike T.F_need_unlike.kp T.b_need_unlike (fun σ => passAt (takes_of rfl rfl rfl rfl) σ) (pa_cons (pe_lc (own := [("channel", 6)]) (g := gName 6) (tt := tYes) rfl sc_World___init__.nd (pi_seqK (K := K) rfl (pv 3)) (blkOk_by (own := [("channel", 6)]) (N := N_World___init__) (sc := defScope s_World___init__) (by decide +kernel)) (fun _ _ _ _ _ => (pg_name (i := 6) sc_World___init__.nd rfl (Or.inl rfl))) (fun _ _ _ _ _ => pts_nil) (fun _ _ _ _ _ => (pe_frm (pe_fldK (K := K) rfl (pv 6))))) pa_nil)))
        (pss_cons (ps_expr (pe_callS (ok_need_unlike T) (hr.mono (by decide)) (by rfl) T.g_need_unlike T.F_need_unlike.kp T.b_need_unlike (fun σ => passAt (takes_of rfl rfl rfl rfl) σ) (pa_cons (pe_lc (own := [("vessel", 8)]) (g := gName 8) (tt := tYes) rfl sc_World___init__.nd (pi_listK (K := K) rfl (pe_op op_cat (pe_callTy (listOfK (K := K) rfl) (by rfl) T.m_list (by decide +kernel) (pa_cons (pv 4) pa_nil)) (pe_callTy (listOfK (K := K) rfl) (by rfl) T.m_list (by decide +kernel) (pa_cons (pv 5) pa_nil)))) (blkOk_by (own := [("vessel", 8)]) (N := N_World___init__) (sc := defScope s_World___init__) (by decide +kernel)) (fun _ _ _ _ _ => (pg_name (i := 8) sc_World___init__.nd rfl (Or.inl rfl))) (fun _ _ _ _ _ => pts_nil) (fun _ _ _ _ _ => (pe_frm (pe_fldK (K := K) rfl (pv 8))))) pa_nil)))
        (pss_cons (ps_for (passes_of rfl) rfl (pi_seqK (K := K) rfl (pv 3)) (pg_name (i := 6) sc_World___init__.nd rfl (Or.inl rfl))
        (pss_one (ps_expr (pe_callS (ok_need_ports T) (hr.mono (by decide)) (by rfl) T.g_need_ports T.F_need_ports.kp T.b_need_ports (fun σ => passAt (takes_of rfl rfl rfl rfl) σ) (pa_cons (pe_lst (pa_cons (pe_fldK (K := K) rfl (pv 6)) (pa_cons (pe_fldK (K := K) rfl (pv 6)) pa_nil))) (pa_cons (pv 2) pa_nil))))))
        (pss_cons (ps_expr (pe_callS (ok_need_ports T) (hr.mono (by decide)) (by rfl) T.g_need_ports T.F_need_ports.kp T.b_need_ports (fun σ => passAt (takes_of rfl rfl rfl rfl) σ) (pa_cons (pe_lc (own := [("breaker", 9)]) (g := gName 9) (tt := tYes) rfl sc_World___init__.nd (pi_seqK (K := K) rfl (pv 4)) (blkOk_by (own := [("breaker", 9)]) (N := N_World___init__) (sc := defScope s_World___init__) (by decide +kernel)) (fun _ _ _ _ _ => (pg_name (i := 9) sc_World___init__.nd rfl (Or.inl rfl))) (fun _ _ _ _ _ => pts_nil) (fun _ _ _ _ _ => (pe_frm (pe_fldK (K := K) rfl (pv 9))))) (pa_cons (pv 2) pa_nil))))
        (pss_cons (ps_for (passes_of rfl) rfl (pi_seqK (K := K) rfl (pv 5)) (pg_name (i := 7) sc_World___init__.nd rfl (Or.inl rfl))
        (pss_one (ps_expr (pe_callS (ok_need_ports T) (hr.mono (by decide)) (by rfl) T.g_need_ports T.F_need_ports.kp T.b_need_ports (fun σ => passAt (takes_of rfl rfl rfl rfl) σ) (pa_cons (pe_lst (pa_cons (pe_fldK (K := K) rfl (pv 7)) (pa_cons (pe_fldK (K := K) rfl (pv 7)) pa_nil))) (pa_cons (pv 2) pa_nil))))))
        (pss_cons (ps_fldK (K := K) rfl (pv 0) (pv 1) rfl)
        (pss_cons (ps_fldK (K := K) rfl (pv 0) (pe_callTy (listOfK (K := K) rfl) (by rfl) T.m_list (by decide +kernel) (pa_cons (pv 2) pa_nil)) rfl)
        (pss_cons (ps_fldK (K := K) rfl (pv 0) (pe_callTy (listOfK (K := K) rfl) (by rfl) T.m_list (by decide +kernel) (pa_cons (pv 3) pa_nil)) rfl)
        (pss_cons (ps_fldK (K := K) rfl (pv 0) (pe_callTy (listOfK (K := K) rfl) (by rfl) T.m_list (by decide +kernel) (pa_cons (pv 4) pa_nil)) rfl)
        (pss_one (ps_fldK (K := K) rfl (pv 0) (pe_callTy (listOfK (K := K) rfl) (by rfl) T.m_list (by decide +kernel) (pa_cons (pv 5) pa_nil)) rfl)))))))))))))), ?_⟩
    obtain ⟨a, dx, b, p1, p2, p3, p4, ps, cs, ks, ss, rfl, hA, hb, h1, h2, h3, h4, q, qn, qw, qd, qp⟩ := h
    walk_at "rd"
    refine ⟨b, 0, 1000000, rfl, hb, ?_⟩
    cases hw : withinV b 0 1000000 with
    | false =>
      walk_at "rd"
      refine rd_raise1 fun d hd => ?_
      exact qn _ (wr_0 hw) d _ (same_new hd) upd_same
    | true =>
    walk_at "rd"
    refine ⟨p1, p2, p3, p4, ps, cs, ks, ss, rfl, h1, h2, h3, h4, fun hk H1 s_H1 => ?_, fun w hk d H1 s_H1 hd => qw _ (wr_1 hw hk) d H1 s_H1 hd⟩
    obtain ⟨k1, k2, k3, k4⟩ := kind_ok hk
    have wr := wr_2 hw hk
    cases ps with
    | none => cases k1
    | some ps =>
    cases cs with
    | none => cases k2
    | some cs =>
    cases ks with
    | none => cases k3
    | some ks =>
    cases ss with
    | none => cases k4
    | some ss =>
    obtain ⟨p1, rfl, h1, hT1, hl1⟩ := h1
    obtain ⟨p2, rfl, h2, hT2, hl2⟩ := h2
    obtain ⟨p3, rfl, h3, hT3, hl3⟩ := h3
    obtain ⟨p4, rfl, h4, hT4, hl4⟩ := h4
    unfold okSeq at k1
    rw [okSeq_map] at k2 k3 k4
    simp only [Bool.and_eq_true, decide_eq_true_eq] at k1 k2 k3 k4
    obtain ⟨⟨m1, m2⟩, m3⟩ := k1
    obtain ⟨⟨m4, m5⟩, m6⟩ := k2
    obtain ⟨⟨m7, m8⟩, m9⟩ := k3
    obtain ⟨⟨ma, mb⟩, mc⟩ := k4
    obtain ⟨zs, rfl, zn, ez⟩ := names_of m3
    obtain ⟨cs, rfl, hC, hCo⟩ := its_ch hT2 m6
    obtain ⟨ks, rfl, hB, hBo⟩ := its_ve hT3 m9
    obtain ⟨ss, rfl, hS, hSo⟩ := its_ve hT4 mc
    rw [refs_of] at h2 h3 h4
    rw [csOf_ch, vsOf_ve fun v hv => (hBo v hv).2, vsOf_ve fun v hv => (hSo v hv).2, show psOf (some (strsV zs)) = zs from ez] at wr
    rw [strs_len] at m1 m2
    rw [List.length_map] at m5 m8 mb
    obtain ⟨i0, rfl⟩ := in_int (v := b) (lo := 0) (hi := 1000000) (by unfold badN; rw [hw]; rfl)
    have hw2 : (decide (0 ≤ i0) && decide (i0 ≤ 1000000)) = true := hw
    simp only [Bool.and_eq_true, decide_eq_true_eq] at hw2
    obtain ⟨z0, z1⟩ := hw2
    obtain ⟨w, rfl, rfl, rfl, rfl, rfl⟩ : ∃ w : Wd, w.begin = i0 ∧ w.ports = zs ∧ w.chans = cs ∧ w.brks = ks ∧ w.ships = ss := ⟨⟨i0, zs, cs, ks, ss⟩, rfl, rfl, rfl, rfl, rfl⟩
    have e2 : (w.chans.map (·.2)).map (·.name) = w.chans.map (·.2.name) := by rw [List.map_map]; rfl
    have e3 : (w.brks.map (·.2) ++ w.ships.map (·.2)).map (·.name) = (w.brks ++ w.ships).map (·.2.name) := by rw [← List.map_append, List.map_map]; rfl
    have e5 : (w.brks.map (·.2)).map (·.port) = w.brks.map (·.2.port) := by rw [List.map_map]; rfl
    walk_at "rd"
    refine ⟨p1, _, rfl, h1.keep s_H1, by omega, fun d1 H2 s_H2 => ?_, fun z hz d H2 s_H2 hd => qd _ (by rw [wr, la_1 hz]; rfl) d H2 (s_H1.trans s_H2) hd⟩
    have s02 := s_H1.trans s_H2
    have hC2 := hC.keep s02
    walk_at "rd"
    refine rd_iq (h2.keep s02).a fun J G wk hG => ?_
    refine lcQ wk (by omega) (fun H' s => hG _ fun o e => s _ _ e) (fun u => .str u.2.name) (fun _ => rfl) (fun u hu Q' q' => ?_) fun D hD => ?_
    · obtain ⟨_, e⟩ := hC2 u hu
      walk_at "rd"
      exact q'
    have s23 := same_new (o := .lst (w.chans.map fun u => V.str u.2.name)) hD
    have eD : (upd H2 D (.lst (w.chans.map fun u => V.str u.2.name))) D = some (.lst (strsV (w.chans.map (·.2.name)))) := by rw [upd_same, strs_map]
    generalize upd H2 D (.lst (w.chans.map fun u => V.str u.2.name)) = H3 at s23 eD
    walk_at "rd"
    refine ⟨D, _, rfl, .inl eD, by rw [List.length_map]; omega, fun d2 H4 s_H4 => ?_, fun z hz d H4 s_H4 hd => qd _ (by rw [wr, la_2 d1 (by rw [e2]; exact hz)]; rfl) d H4 ((s02.trans s23).trans s_H4) hd⟩
    have s04 := (s02.trans s23).trans s_H4
    have h34 := h3.keep s04
    walk_at "rd"
    refine rd_listOf h34.a fun l1 H5 n_l1 s_H5 e_l1 => ?_
    have h45 := h4.keep (s04.trans s_H5)
    walk_at "rd"
    refine rd_listOf h45.a fun l2 H6 n_l2 s_H6 e_l2 => ?_
    walk_at "rd"
    refine rd_catB (fun l3 H7 n_l3 s_H7 e_l3 => ?_) (s_H6 _ _ e_l1) e_l2 (by rw [refs_len, refs_len]; omega)
    have e_l3 : H7 l3 = some (.lst (refsOf (w.brks ++ w.ships))) := by rw [refs_app]; exact e_l3
    have s07 := s04.trans ((s_H5.trans s_H6).trans s_H7)
    have hB7 := hB.keep s07
    have hS7 := hS.keep s07
    walk_at "rd"
    refine rd_ilB ?_ <;> walk_at "rd"
    refine lcQ walk_list (by rw [List.length_append]; omega) (fun H' s => (s.seq (sqL_of e_l3))) (fun u => .str u.2.name) (fun _ => rfl) (fun u hu Q' q' => ?_) fun D2 hD2 => ?_
    · rcases List.mem_append.mp hu with hu | hu
      · obtain ⟨_, _, e⟩ := hB7 u hu
        walk_at "rd"
        exact q'
      · obtain ⟨_, _, e⟩ := hS7 u hu
        walk_at "rd"
        exact q'
    have s78 := same_new (o := .lst ((w.brks ++ w.ships).map fun u => V.str u.2.name)) hD2
    have eD2 : (upd H7 D2 (.lst ((w.brks ++ w.ships).map fun u => V.str u.2.name))) D2 = some (.lst (strsV ((w.brks ++ w.ships).map (·.2.name)))) := by rw [upd_same, strs_map]
    generalize upd H7 D2 (.lst ((w.brks ++ w.ships).map fun u => V.str u.2.name)) = H8 at s78 eD2
    walk_at "rd"
    refine ⟨D2, _, rfl, .inl eD2, by rw [List.length_map, List.length_append]; omega, fun d3 H9 s_H9 => ?_, fun z hz d H9 s_H9 hd => qd _ (by rw [wr, la_3 d1 (by rw [e2]; exact d2) (by rw [e3]; exact hz)]; rfl) d H9 ((s07.trans s78).trans s_H9) hd⟩
    have s09 := (s07.trans s78).trans s_H9
    walk_at "rd"
    refine rd_iq (h2.keep s09).a fun J G wk hG => ?_
    refine forgo wk (fun i σ' H' => Same H9 H' ∧ (((w.chans.map (·.2)).take i).flatMap endsOf).find? (fun z => !decide (z ∈ w.ports)) = none ∧ ∃ x6, σ' = [some (.ref a), some (.int w.begin), some (.ref p1), some (.ref p2), some (.ref p3), some (.ref p4), x6, none, none, none]) ⟨Same.refl _, rfl, _, rfl⟩ (fun i σ' H' _ z => hG _ fun o e => z.1 _ _ e) ?_ ?_
    · rintro i x σ' Ha Hb hi ⟨sa, hn, x6, rfl⟩ ⟨e0, hx⟩
      subst e0
      obtain ⟨u, hui, rfl⟩ := refs_get hx
      have hu := List.mem_of_getElem? hui
      obtain ⟨f1, f2⟩ := flat_step hn (show (w.chans.map (·.2))[i]? = some u.2 by rw [List.getElem?_map, hui]; rfl)
      obtain ⟨_, e⟩ := (hC.keep (s09.trans sa)) u hu
      walk_at "rd"
      refine rd_lstB fun l4 Hc n_l4 s_Hc e_l4 => ?_ <;> walk_at "rd"
      refine ⟨l4, p1, endsOf u.2, w.ports, rfl, .inl e_l4, h1.keep ((s09.trans sa).trans s_Hc), by simp [endsOf], fun hn2 => ?_, fun z hz d Hd s_Hd hd => qp _ (by rw [wr, la_4 d1 (by rw [e2]; exact d2) (by rw [e3]; exact d3) (f2 z hz)]; rfl) d Hd (((s09.trans sa).trans s_Hc).trans s_Hd) hd⟩
      walk_at "rd"
      exact ⟨sa.trans s_Hc, f1 hn2, _, rfl⟩
    rintro σ' Ha ⟨sa, hn, x6, rfl⟩
    rw [show (refsOf w.chans).length = (w.chans.map (·.2)).length by rw [refs_len, List.length_map], List.take_length] at hn
    have s0a := s09.trans sa
    have hBa := hB.keep s0a
    walk_at "rd"
    refine rd_iq (h3.keep s0a).a fun J G wk hG => ?_
    refine lcQ wk (by omega) (fun H' s => hG _ fun o e => s _ _ e) (fun u => .str u.2.port) (fun _ => rfl) (fun u hu Q' q' => ?_) fun D3 hD3 => ?_
    · obtain ⟨_, _, e⟩ := hBa u hu
      walk_at "rd"
      exact q'
    have sab := same_new (o := .lst (w.brks.map fun u => V.str u.2.port)) hD3
    have eD3 : (upd Ha D3 (.lst (w.brks.map fun u => V.str u.2.port))) D3 = some (.lst (strsV (w.brks.map (·.2.port)))) := by rw [upd_same, strs_map]
    generalize upd Ha D3 (.lst (w.brks.map fun u => V.str u.2.port)) = Hb at sab eD3
    have s0b := s0a.trans sab
    walk_at "rd"
    refine ⟨D3, p1, _, w.ports, rfl, .inl eD3, h1.keep s0b, by rw [List.length_map]; omega, fun hn5 => ?_, fun z hz d Hd s_Hd hd => qp _ (by rw [wr, la_5 d1 (by rw [e2]; exact d2) (by rw [e3]; exact d3) hn (by rw [e5]; exact hz)]; rfl) d Hd (s0b.trans s_Hd) hd⟩
    walk_at "rd"
    refine rd_iq (h4.keep s0b).a fun J G wk hG => ?_
    refine forgo wk (fun i σ' H' => Same Hb H' ∧ (((w.ships.map (·.2)).take i).flatMap endsVe).find? (fun z => !decide (z ∈ w.ports)) = none ∧ ∃ x7, σ' = [some (.ref a), some (.int w.begin), some (.ref p1), some (.ref p2), some (.ref p3), some (.ref p4), x6, x7, none, none]) ⟨Same.refl _, rfl, _, rfl⟩ (fun i σ' H' _ z => hG _ fun o e => z.1 _ _ e) ?_ ?_
    · rintro i x σ' Hc Hd hi ⟨sc, hm, x7, rfl⟩ ⟨e0, hx⟩
      subst e0
      obtain ⟨u, hui, rfl⟩ := refs_get hx
      have hu := List.mem_of_getElem? hui
      obtain ⟨f1, f2⟩ := flat_step hm (show (w.ships.map (·.2))[i]? = some u.2 by rw [List.getElem?_map, hui]; rfl)
      obtain ⟨k3, dy, e⟩ := (hS.keep (s0b.trans sc)) u hu
      have hk2 := (hSo u hu).2
      walk_at "rd"
      rw [show veC T u.2.kind = T.a_Ship by rw [hk2]; rfl] at e
      refine rd_fldGet e T.cl_Ship T.n_Ship_goal (vel_goal hk2) ?_
      walk_at "rd"
      refine rd_lstB fun l5 He n_l5 s_He e_l5 => ?_ <;> walk_at "rd"
      refine ⟨l5, p1, endsVe u.2, w.ports, rfl, .inl e_l5, h1.keep ((s0b.trans sc).trans s_He), by simp [endsVe], fun hn2 => ?_, fun z hz d Hd s_Hd hd => qp _ (by rw [wr, la_6 d1 (by rw [e2]; exact d2) (by rw [e3]; exact d3) hn (by rw [e5]; exact hn5) (f2 z hz)]; rfl) d Hd (((s0b.trans sc).trans s_He).trans s_Hd) hd⟩
      walk_at "rd"
      exact ⟨sc.trans s_He, f1 hn2, _, rfl⟩
    rintro σ' Hc ⟨sc, hm, x7, rfl⟩
    rw [show (refsOf w.ships).length = (w.ships.map (·.2)).length by rw [refs_len, List.length_map], List.take_length] at hm
    have ok : WoOk w := by
      have i1 := find_in hn
      have i2 := find_in (zs := w.brks.map (·.2.port)) hn5
      have i3 := find_in hm
      refine ⟨z0, z1, m1, m2, m5, m8, mb, zn, dup_none d1, dup_none d2, dup_none d3, fun c hc => ⟨i1 _ (List.mem_flatMap.mpr ⟨c.2, List.mem_map_of_mem hc, by simp [endsOf]⟩), i1 _ (List.mem_flatMap.mpr ⟨c.2, List.mem_map_of_mem hc, by simp [endsOf]⟩)⟩, fun u hu => i2 _ (List.mem_map.mpr ⟨u, hu, rfl⟩),
        fun u hu => ⟨i3 _ (List.mem_flatMap.mpr ⟨u.2, List.mem_map_of_mem hu, by simp [endsVe]⟩), i3 _ (List.mem_flatMap.mpr ⟨u.2, List.mem_map_of_mem hu, by simp [endsVe]⟩)⟩, fun u hu => (hBo u hu).2, fun u hu => (hSo u hu).2, hCo, fun u hu => ?_⟩
      rcases List.mem_append.mp hu with hu | hu
      · exact (hBo u hu).1
      · exact (hSo u hu).1
    have wrn : worldRef (.int w.begin) (some (strsV w.ports)) (oi (some (w.chans.map fun c => (V.ref c.1, Itm.ch c.2)))) (oi (some (w.brks.map fun c => (V.ref c.1, Itm.ve c.2)))) (oi (some (w.ships.map fun c => (V.ref c.1, Itm.ve c.2)))) = none := by
      rw [wr, la_7 d1 (by rw [e2]; exact d2) (by rw [e3]; exact d3) hn (by rw [e5]; exact hn5) hm]
      rfl
    have s0c := s0b.trans sc
    have hAc := s0c _ _ hA
    have n1a := h1.nei hA
    have n2a := h2.nei hA
    have n3a := h3.nei hA
    have n4a := h4.nei hA
    walk_at "rd"
    refine rd_fldSet hAc T.cl_World T.n_World_beginning (by decide) ?_
    have k1 : KeepB a Hc (upd Hc a (.ins T.a_World dx (putF "beginning" (.int w.begin) []))) := (KeepB.refl a Hc).put
    have hA1 : (upd Hc a (.ins T.a_World dx (putF "beginning" (.int w.begin) []))) a = some (.ins T.a_World dx (putF "beginning" (.int w.begin) [])) := upd_same
    generalize upd Hc a (.ins T.a_World dx (putF "beginning" (.int w.begin) [])) = Hd at k1 hA1
    walk_at "rd"
    refine rd_listOf ((h1.keep s0c).kb k1 n1a).a fun lp He n_lp s_He e_lp => ?_
    walk_at "rd"
    refine rd_fldSet (s_He _ _ hA1) T.cl_World T.n_World_all_ports (of_decide_eq_true (by kernel_rfl)) ?_
    have k2 : KeepB a Hc (upd He a (.ins T.a_World dx (putF "all_ports" (.ref lp) (putF "beginning" (.int w.begin) [])))) := (k1.trans (Same.keepB s_He)).put
    have hA2 : (upd He a (.ins T.a_World dx (putF "all_ports" (.ref lp) (putF "beginning" (.int w.begin) [])))) a = some (.ins T.a_World dx (putF "all_ports" (.ref lp) (putF "beginning" (.int w.begin) []))) := upd_same
    have e_lp : (upd He a (.ins T.a_World dx (putF "all_ports" (.ref lp) (putF "beginning" (.int w.begin) [])))) lp = some (.lst (strsV w.ports)) := by rw [upd_ne (ne_of e_lp (s_He _ _ hA1) nofun)]; exact e_lp
    have npl := ne_of_none hA1 n_lp
    generalize upd He a (.ins T.a_World dx (putF "all_ports" (.ref lp) (putF "beginning" (.int w.begin) []))) = Hf at k2 hA2 e_lp
    walk_at "rd"
    refine rd_listOf ((h2.keep s0c).kb k2 n2a).a fun lc Hg n_lc s_Hg e_lc => ?_
    walk_at "rd"
    refine rd_fldSet (s_Hg _ _ hA2) T.cl_World T.n_World_all_channels (of_decide_eq_true (by kernel_rfl)) ?_
    have hAg := s_Hg _ _ hA2
    have k3 : KeepB a Hc (upd Hg a (.ins T.a_World dx (putF "all_channels" (.ref lc) (putF "all_ports" (.ref lp) (putF "beginning" (.int w.begin) []))))) := (k2.trans (Same.keepB s_Hg)).put
    have hA3 : (upd Hg a (.ins T.a_World dx (putF "all_channels" (.ref lc) (putF "all_ports" (.ref lp) (putF "beginning" (.int w.begin) []))))) a = some (.ins T.a_World dx (putF "all_channels" (.ref lc) (putF "all_ports" (.ref lp) (putF "beginning" (.int w.begin) [])))) := upd_same
    have k23 : KeepB a Hf (upd Hg a (.ins T.a_World dx (putF "all_channels" (.ref lc) (putF "all_ports" (.ref lp) (putF "beginning" (.int w.begin) []))))) := (Same.keepB s_Hg).put
    have e_lc : (upd Hg a (.ins T.a_World dx (putF "all_channels" (.ref lc) (putF "all_ports" (.ref lp) (putF "beginning" (.int w.begin) []))))) lc = some (.lst (refsOf w.chans)) := by rw [upd_ne (ne_of e_lc hAg nofun)]; exact e_lc
    generalize upd Hg a (.ins T.a_World dx (putF "all_channels" (.ref lc) (putF "all_ports" (.ref lp) (putF "beginning" (.int w.begin) [])))) = Hh at k3 hA3 k23 e_lc
    walk_at "rd"
    refine rd_listOf ((h3.keep s0c).kb k3 n3a).a fun lb Hi n_lb s_Hi e_lb => ?_
    have hAi := s_Hi _ _ hA3
    walk_at "rd"
    refine rd_fldSet hAi T.cl_World T.n_World_all_breakers (of_decide_eq_true (by kernel_rfl)) ?_
    have k4 : KeepB a Hc (upd Hi a (.ins T.a_World dx (putF "all_breakers" (.ref lb) (putF "all_channels" (.ref lc) (putF "all_ports" (.ref lp) (putF "beginning" (.int w.begin) [])))))) := (k3.trans (Same.keepB s_Hi)).put
    have hA4 : (upd Hi a (.ins T.a_World dx (putF "all_breakers" (.ref lb) (putF "all_channels" (.ref lc) (putF "all_ports" (.ref lp) (putF "beginning" (.int w.begin) [])))))) a = some (.ins T.a_World dx (putF "all_breakers" (.ref lb) (putF "all_channels" (.ref lc) (putF "all_ports" (.ref lp) (putF "beginning" (.int w.begin) []))))) := upd_same
    have k34 : KeepB a Hh (upd Hi a (.ins T.a_World dx (putF "all_breakers" (.ref lb) (putF "all_channels" (.ref lc) (putF "all_ports" (.ref lp) (putF "beginning" (.int w.begin) [])))))) := (Same.keepB s_Hi).put
    have e_lb : (upd Hi a (.ins T.a_World dx (putF "all_breakers" (.ref lb) (putF "all_channels" (.ref lc) (putF "all_ports" (.ref lp) (putF "beginning" (.int w.begin) [])))))) lb = some (.lst (refsOf w.brks)) := by rw [upd_ne (ne_of e_lb hAi nofun)]; exact e_lb
    generalize upd Hi a (.ins T.a_World dx (putF "all_breakers" (.ref lb) (putF "all_channels" (.ref lc) (putF "all_ports" (.ref lp) (putF "beginning" (.int w.begin) []))))) = Hj at k4 hA4 k34 e_lb
    walk_at "rd"
    refine rd_listOf ((h4.keep s0c).kb k4 n4a).a fun ls Hk n_ls s_Hk e_ls => ?_
    have hAk := s_Hk _ _ hA4
    walk_at "rd"
    refine rd_fldSet hAk T.cl_World T.n_World_all_ships (of_decide_eq_true (by kernel_rfl)) ?_
    have k45 : KeepB a Hj (upd Hk a (.ins T.a_World dx (putF "all_ships" (.ref ls) (putF "all_breakers" (.ref lb) (putF "all_channels" (.ref lc) (putF "all_ports" (.ref lp) (putF "beginning" (.int w.begin) []))))))) := (Same.keepB s_Hk).put
    have kf : KeepB a Hc (upd Hk a (.ins T.a_World dx (putF "all_ships" (.ref ls) (putF "all_breakers" (.ref lb) (putF "all_channels" (.ref lc) (putF "all_ports" (.ref lp) (putF "beginning" (.int w.begin) []))))))) := k4.trans k45
    have hA5 : (upd Hk a (.ins T.a_World dx (putF "all_ships" (.ref ls) (putF "all_breakers" (.ref lb) (putF "all_channels" (.ref lc) (putF "all_ports" (.ref lp) (putF "beginning" (.int w.begin) []))))))) a = some (.ins T.a_World dx (woF w lp lc lb ls)) := by rw [upd_same, wo_put]
    have e_ls : (upd Hk a (.ins T.a_World dx (putF "all_ships" (.ref ls) (putF "all_breakers" (.ref lb) (putF "all_channels" (.ref lc) (putF "all_ports" (.ref lp) (putF "beginning" (.int w.begin) []))))))) ls = some (.lst (refsOf w.ships)) := by rw [upd_ne (ne_of e_ls hAk nofun)]; exact e_ls
    generalize upd Hk a (.ins T.a_World dx (putF "all_ships" (.ref ls) (putF "all_breakers" (.ref lb) (putF "all_channels" (.ref lc) (putF "all_ports" (.ref lp) (putF "beginning" (.int w.begin) [])))))) = Hl at k45 kf hA5 e_ls
    walk_at "rd"
    have lst_a : ∀ {x : Addr} {xs : List V} {X : Hp}, X x = some (.lst xs) → X a = none ∨ (∃ C dy fs, X a = some (.ins C dy fs)) → x ≠ a := fun h1 h2 z => by
      rw [z] at h1
      rcases h2 with h2 | ⟨_, _, _, h2⟩ <;> rw [h1] at h2 <;> cases h2
    have kH : KeepB a H Hl := (Same.keepB s0c).trans kf
    have e_lp5 : Hl lp = some (.lst (strsV w.ports)) := k45 _ _ (k34 _ _ (k23 _ _ e_lp (ne_of e_lp hA2 nofun)) (lst_a (k23 _ _ e_lp (ne_of e_lp hA2 nofun)) (.inr ⟨_, _, _, hA3⟩))) (lst_a (k34 _ _ (k23 _ _ e_lp (ne_of e_lp hA2 nofun)) (lst_a (k23 _ _ e_lp (ne_of e_lp hA2 nofun)) (.inr ⟨_, _, _, hA3⟩))) (.inr ⟨_, _, _, hA4⟩))
    have e_lc5 : Hl lc = some (.lst (refsOf w.chans)) := k45 _ _ (k34 _ _ e_lc (ne_of e_lc hA3 nofun)) (lst_a (k34 _ _ e_lc (ne_of e_lc hA3 nofun)) (.inr ⟨_, _, _, hA4⟩))
    have e_lb5 : Hl lb = some (.lst (refsOf w.brks)) := k45 _ _ e_lb (ne_of e_lb hA4 nofun)
    have nn : ∀ {x : Addr} {X : Hp}, KeepB a Hc X → x ≠ a → X x = none → H x = none := fun {x X} k n h => by
      cases e : H x with
      | none => rfl
      | some o =>
        rw [k x o (s0c _ _ e) n] at h
        cases h
    refine q wrn w [lp, lc, lb, ls] Hl ⟨rfl, rfl, rfl, rfl, rfl⟩ (fun x hx => ?_) kH ⟨ok, dx, lp, lc, lb, ls, rfl, hA5, e_lp5, e_lc5, e_lb5, e_ls, fun u hu => ?_, fun u hu => ?_, fun u hu => ?_⟩
    · simp only [List.mem_cons, List.not_mem_nil, or_false] at hx
      rcases hx with rfl | rfl | rfl | rfl
      · exact nn k1 npl.symm n_lp
      · exact nn k2 (ne_of e_lc hA3 nofun) n_lc
      · exact nn k3 (ne_of e_lb hA4 nofun) n_lb
      · exact nn k4 (ne_of e_ls hA5 nofun) n_ls
    · obtain ⟨dy, e⟩ := hC u hu
      refine ⟨dy, kH _ _ e fun z => ?_⟩
      rw [z, hA] at e
      injection e with e
      injection e with _ _ e3
      cases e3
    · obtain ⟨k3', dy, e⟩ := hB u hu
      exact ⟨k3', dy, kH _ _ e ((hB u hu).ne hA)⟩
    · obtain ⟨k3', dy, e⟩ := hS u hu
      exact ⟨k3', dy, kH _ _ e ((hS u hu).ne hA)⟩
/-- which refusal, its field -/
def wrC (T : Tx K mg) : Nat → Addr
  | 0 => T.a_NoNumber
  | 1 => T.a_NoWorld
  | 2 => T.a_Doubled
  | _ => T.a_NoPort
def wrF (k : Nat) : Str := if k = 2 then "name" else "found"
theorem lr_lt {zs : List Str} {cs : List Ch} {ks ss : List Ve} {r : Nat × Str} (h : lateRef zs cs ks ss = some r) : r.1 = 2 ∨ r.1 = 3 := by
  unfold lateRef at h
  split at h
  · cases h; exact .inl rfl
  · split at h
    · cases h; exact .inl rfl
    · split at h
      · cases h; exact .inl rfl
      · split at h
        · cases h; exact .inr rfl
        · split at h
          · cases h; exact .inr rfl
          · split at h
            · cases h; exact .inr rfl
            · cases h
theorem wr_lt {b : V} {ps : Option (List V)} {cs ks ss : Option (List Itm)} {r : Nat × V} (h : worldRef b ps cs ks ss = some r) : r.1 < 4 := by
  unfold worldRef at h
  split at h
  · split at h
    · cases h; show 1 < 4; decide
    · obtain ⟨r2, h2, rfl⟩ := Option.map_eq_some_iff.mp h
      rcases lr_lt h2 with e | e <;> show r2.1 < 4 <;> omega
  · cases h; show 0 < 4; decide
theorem rd_mkWorldR {Q : VK} {E : XK} {H : Hp} (T : Tx K mg) {b p1 p2 p3 p4 : V} {ps : Option (List V)} {cs ks ss : Option (List (V × Itm))} (hb : ThingAt K H b) (h1 : PortsIn K H p1 ps) (h2 : ItsIn T H p2 cs) (h3 : ItsIn T H p3 ks) (h4 : ItsIn T H p4 ss)
    (q0 : worldRef b ps (oi cs) (oi ks) (oi ss) = none → ∀ x w L H', Nn H x → (∀ y ∈ L, H y = none) → Same H H' → MadeOf b ps cs ks ss w → WoAt T H' x w L → Q (.ref x) H')
    (qe : ∀ k v, worldRef b ps (oi cs) (oi ks) (oi ss) = some (k, v) → ∀ d H', Same H H' → H' d = some (.xd [(wrF k, v)]) → E (.ref (wrC T k)) (some d) H') : MakeG T.a_World (sp_World___init__ T) Q E [b, p1, p2, p3, p4] H := by
  intro x dx hx hdx hne
  have s0 : Same H (upd (upd H dx (.own x)) x (.ins T.a_World dx [])) := make_same hx hdx (KeepB.refl _ _)
  exact ⟨x, dx, b, p1, p2, p3, p4, ps, cs, ks, ss, rfl, upd_same, hb.keep s0, h1.keep s0, h2.keep s0, h3.keep s0, h4.keep s0, fun e w L H' m hL k h => ⟨rfl, q0 e x w L H' ⟨hx⟩ (fun y hy => none_sm0 s0 (hL y hy)) (make_same hx hdx k) m h⟩,
    fun v e d H' s h => qe 0 v e d H' (s0.trans s) h, fun v e d H' s h => qe 1 v e d H' (s0.trans s) h, fun v e d H' s h => qe 2 v e d H' (s0.trans s) h, fun v e d H' s h => qe 3 v e d H' (s0.trans s) h⟩

/-- a world as data makes a world -/
theorem td_world {d : Td} (ok : TdOk d) : worldRef (.int d.begin) (some (strsV d.ports)) (some (d.chans.map .ch)) (some (d.brks.map .ve)) (some (d.ships.map .ve)) = none := by
  have hp : (strsV d.ports).all nameV = true := List.all_eq_true.mpr fun x hx => by
    unfold strsV at hx
    obtain ⟨z, hz, rfl⟩ := List.mem_map.mp hx
    exact ok.pn z hz
  have hps : psOf (some (strsV d.ports)) = d.ports := all_some (f := strOf) (g := V.str) (fun _ => rfl) _
  have hcs : csOf (some (d.chans.map .ch)) = d.chans := all_some (f := itCh) (g := Itm.ch) (fun _ => rfl) _
  obtain ⟨hk1, hk2⟩ := fm_ve ok.kk
  obtain ⟨hs1, hs2⟩ := fm_ve ok.sk
  have hks : vsOf 1 (some (d.brks.map .ve)) = d.brks := hk1
  have hss : vsOf 2 (some (d.ships.map .ve)) = d.ships := hs1
  have b0 := ok.b0
  have b1 := ok.b1
  have p1 := ok.p1
  have p8 := ok.p8
  have c12 := ok.c12
  have k4 := ok.k4
  have s6 := ok.s6
  have q : ∀ {α : Type} {xs : List α} {lo hi : Nat} {f : α → Bool}, lo ≤ xs.length → xs.length ≤ hi → xs.all f = true → okSeq (some xs) lo hi f = true := fun h1 h2 h3 => by
    show ((decide _ && decide _) && List.all _ _) = true
    rw [decide_eq_true h1, decide_eq_true h2, h3]
    rfl
  rw [wr_2 (by show (decide _ && decide _) = true; rw [decide_eq_true b0, decide_eq_true b1]; rfl) (kind_5 (q (by rw [strs_len]; exact p1) (by rw [strs_len]; exact p8) hp) (q (Nat.zero_le _) (by rw [List.length_map]; exact c12) (List.all_eq_true.mpr fun t ht => by
      obtain ⟨c, _, rfl⟩ := List.mem_map.mp ht
      rfl)) (q (Nat.zero_le _) (by rw [List.length_map]; exact k4) hk2) (q (Nat.zero_le _) (by rw [List.length_map]; exact s6) hs2)), hps, hcs, hks, hss,
    la_7 (dup_of ok.pd) (dup_of ok.cd) (dup_of ok.vd) (find_none fun z hz => ?_) (find_none fun z hz => ?_) (find_none fun z hz => ?_)]
  · rfl
  · obtain ⟨c, hc, m⟩ := List.mem_flatMap.mp hz
    obtain ⟨e1, e2⟩ := ok.ce c hc
    simp only [endsOf, List.mem_cons, List.not_mem_nil, or_false] at m
    rcases m with rfl | rfl <;> assumption
  · obtain ⟨u, hu, rfl⟩ := List.mem_map.mp hz
    exact ok.ke u hu
  · obtain ⟨u, hu, m⟩ := List.mem_flatMap.mp hz
    obtain ⟨e1, e2⟩ := ok.se u hu
    simp only [endsVe, List.mem_cons, List.not_mem_nil, or_false] at m
    rcases m with rfl | rfl <;> assumption


theorem rd_mkWorldT {Q : VK} {E : XK} {H : Hp} (T : Tx K mg) {d : Td} {p1 p2 p3 p4 : Addr} {cs : List (Addr × Ch)} {ks ss : List (Addr × Ve)} (ok : TdOk d) (h1 : SeqOf H p1 (strsV d.ports)) (h2 : SeqOf H p2 (refsOf cs)) (h3 : SeqOf H p3 (refsOf ks)) (h4 : SeqOf H p4 (refsOf ss))
    (ec : cs.map (·.2) = d.chans) (ek : ks.map (·.2) = d.brks) (es : ss.map (·.2) = d.ships) (hC : ChsAt T H cs) (hK : VesAt T H ks) (hS : VesAt T H ss)
    (q : ∀ x w L H', Nn H x → (∀ y ∈ L, H y = none) → Same H H' → WdOf w d → w.chans = cs → w.brks = ks → w.ships = ss → WoAt T H' x w L → Q (.ref x) H') : MakeG T.a_World (sp_World___init__ T) Q E [.int d.begin, .ref p1, .ref p2, .ref p3, .ref p4] H := by
  have p8 := ok.p8
  have c12 := ok.c12
  have k4 := ok.k4
  have s6 := ok.s6
  have lc : cs.length ≤ 12 := by rw [← List.length_map (f := fun u : Addr × Ch => u.2), ec]; exact c12
  have lk : ks.length ≤ 4 := by rw [← List.length_map (f := fun u : Addr × Ve => u.2), ek]; exact k4
  have ls : ss.length ≤ 6 := by rw [← List.length_map (f := fun u : Addr × Ve => u.2), es]; exact s6
  have r2 : (cs.map fun u => (V.ref u.1, Itm.ch u.2)).map (·.1) = refsOf cs := by unfold refsOf; rw [List.map_map]; rfl
  have r3 : (ks.map fun u => (V.ref u.1, Itm.ve u.2)).map (·.1) = refsOf ks := by unfold refsOf; rw [List.map_map]; rfl
  have r4 : (ss.map fun u => (V.ref u.1, Itm.ve u.2)).map (·.1) = refsOf ss := by unfold refsOf; rw [List.map_map]; rfl
  have i2 : (cs.map fun u => (V.ref u.1, Itm.ch u.2)).map (·.2) = d.chans.map .ch := by rw [← ec, List.map_map, List.map_map]; rfl
  have i3 : (ks.map fun u => (V.ref u.1, Itm.ve u.2)).map (·.2) = d.brks.map .ve := by rw [← ek, List.map_map, List.map_map]; rfl
  have i4 : (ss.map fun u => (V.ref u.1, Itm.ve u.2)).map (·.2) = d.ships.map .ve := by rw [← es, List.map_map, List.map_map]; rfl
  have wr : worldRef (.int d.begin) (some (strsV d.ports)) (oi (some (cs.map fun u => (V.ref u.1, Itm.ch u.2)))) (oi (some (ks.map fun u => (V.ref u.1, Itm.ve u.2)))) (oi (some (ss.map fun u => (V.ref u.1, Itm.ve u.2)))) = none := by
    unfold oi
    rw [Option.map_some, Option.map_some, Option.map_some, i2, i3, i4]
    exact td_world ok
  refine rd_mkWorldR (ps := some (strsV d.ports)) (cs := some (cs.map fun u => (V.ref u.1, Itm.ch u.2))) (ks := some (ks.map fun u => (V.ref u.1, Itm.ve u.2))) (ss := some (ss.map fun u => (V.ref u.1, Itm.ve u.2))) T trivial ⟨p1, rfl, h1, fun x hx => ?_, by rw [strs_len]; omega⟩
    ⟨p2, rfl, by rw [r2]; exact h2, fun u hu => ?_, by rw [List.length_map]; omega⟩ ⟨p3, rfl, by rw [r3]; exact h3, fun u hu => ?_, by rw [List.length_map]; omega⟩ ⟨p4, rfl, by rw [r4]; exact h4, fun u hu => ?_, by rw [List.length_map]; omega⟩ (fun _ x w L H' n_x hL s m hW => ?_) (fun k v e => ?_)
  · unfold strsV at hx
    obtain ⟨z, hz, rfl⟩ := List.mem_map.mp hx
    exact name_lenV (ok.pn z hz)
  · obtain ⟨c, hc, rfl⟩ := List.mem_map.mp hu
    exact ⟨c.1, rfl, hC c hc, ok.co _ (ec ▸ List.mem_map_of_mem (f := fun u : Addr × Ch => u.2) hc)⟩
  · obtain ⟨c, hc, rfl⟩ := List.mem_map.mp hu
    exact ⟨c.1, rfl, hK c hc, ok.ko _ (List.mem_append_left _ (ek ▸ List.mem_map_of_mem (f := fun u : Addr × Ve => u.2) hc))⟩
  · obtain ⟨c, hc, rfl⟩ := List.mem_map.mp hu
    exact ⟨c.1, rfl, hS c hc, ok.ko _ (List.mem_append_right _ (es ▸ List.mem_map_of_mem (f := fun u : Addr × Ve => u.2) hc))⟩
  · obtain ⟨m1, m2, m3, m4, m5⟩ := m
    have jc : ∀ {a b : List (Addr × Ch)}, (a.map fun u => (V.ref u.1, Itm.ch u.2)) = (b.map fun u => (V.ref u.1, Itm.ch u.2)) → a = b := fun h => (List.map_inj_right fun x y e => by
      obtain ⟨x1, x2⟩ := x
      obtain ⟨y1, y2⟩ := y
      simp only [Prod.mk.injEq, V.ref.injEq, Itm.ch.injEq] at e
      rw [e.1, e.2]).mp h
    have jv : ∀ {a b : List (Addr × Ve)}, (a.map fun u => (V.ref u.1, Itm.ve u.2)) = (b.map fun u => (V.ref u.1, Itm.ve u.2)) → a = b := fun h => (List.map_inj_right fun x y e => by
      obtain ⟨x1, x2⟩ := x
      obtain ⟨y1, y2⟩ := y
      simp only [Prod.mk.injEq, V.ref.injEq, Itm.ve.injEq] at e
      rw [e.1, e.2]).mp h
    have e3 := (jc (Option.some.inj m3)).symm
    have e4 := (jv (Option.some.inj m4)).symm
    have e5 := (jv (Option.some.inj m5)).symm
    have ep : w.ports = d.ports := ((List.map_inj_right (fun _ _ h => V.str.inj h)).mp (Option.some.inj m2)).symm
    exact q x w L H' n_x hL s ⟨(V.int.inj m1).symm, ep, by rw [e3]; exact ec, by rw [e4]; exact ek, by rw [e5]; exact es⟩ e3 e4 e5 hW
  · rw [wr] at e
    cases e

def sp_World_ports (T : Tx K mg) : Sp := fun vs H Q _ => ∃ a w L, vs = [.ref a] ∧ WoAt T H a w L ∧ ∀ l H', Nn H l → Same H H' → H' l = some (.lst (strsV w.ports)) → Q (.ref l) H'
theorem ok_World_ports (T : Tx K mg) : FnOk P w K mg base CX0 1 T.a_World_ports T.d_World_ports ["self"] (sp_World_ports T) := by
  refine T.F_World_ports.ok sc_World_ports (fun vs H Q E h => ?_) (fun cdv A outer s H vs Q E hr h => ?_)
  · obtain ⟨a, w, L, rfl, _⟩ := h
    rfl
  · refine ⟨_, (pss_one (ps_ret (pe_callTy (listOfK (K := K) rfl) (by rfl) T.m_list (by decide +kernel) (pa_cons (pe_fldK (K := K) rfl (pv 0)) pa_nil)))), ?_⟩
    obtain ⟨a, w, L, rfl, ⟨ok, dx, lp, lc, lb, ls, rfl, hA, h1, h2, h3, h4, hC, hB, hS⟩, q⟩ := h
    walk_at "rd"
    exact rd_listB (sqA_l h1) q
def sp_World_breakers (T : Tx K mg) : Sp := fun vs H Q _ => ∃ a w L, vs = [.ref a] ∧ WoAt T H a w L ∧ ∀ l H', Nn H l → Same H H' → H' l = some (.lst (refsOf w.brks)) → Q (.ref l) H'
theorem ok_World_breakers (T : Tx K mg) : FnOk P w K mg base CX0 1 T.a_World_breakers T.d_World_breakers ["self"] (sp_World_breakers T) := by
  refine T.F_World_breakers.ok sc_World_breakers (fun vs H Q E h => ?_) (fun cdv A outer s H vs Q E hr h => ?_)
  · obtain ⟨a, w, L, rfl, _⟩ := h
    rfl
  · refine ⟨_, (pss_one (ps_ret (pe_callTy (listOfK (K := K) rfl) (by rfl) T.m_list (by decide +kernel) (pa_cons (pe_fldK (K := K) rfl (pv 0)) pa_nil)))), ?_⟩
    obtain ⟨a, w, L, rfl, ⟨ok, dx, lp, lc, lb, ls, rfl, hA, h1, h2, h3, h4, hC, hB, hS⟩, q⟩ := h
    walk_at "rd"
    exact rd_listB (sqA_l h3) q
def sp_World_ships (T : Tx K mg) : Sp := fun vs H Q _ => ∃ a w L, vs = [.ref a] ∧ WoAt T H a w L ∧ ∀ l H', Nn H l → Same H H' → H' l = some (.lst (refsOf w.ships)) → Q (.ref l) H'
theorem ok_World_ships (T : Tx K mg) : FnOk P w K mg base CX0 1 T.a_World_ships T.d_World_ships ["self"] (sp_World_ships T) := by
  refine T.F_World_ships.ok sc_World_ships (fun vs H Q E h => ?_) (fun cdv A outer s H vs Q E hr h => ?_)
  · obtain ⟨a, w, L, rfl, _⟩ := h
    rfl
  · refine ⟨_, (pss_one (ps_ret (pe_callTy (listOfK (K := K) rfl) (by rfl) T.m_list (by decide +kernel) (pa_cons (pe_fldK (K := K) rfl (pv 0)) pa_nil)))), ?_⟩
    obtain ⟨a, w, L, rfl, ⟨ok, dx, lp, lc, lb, ls, rfl, hA, h1, h2, h3, h4, hC, hB, hS⟩, q⟩ := h
    walk_at "rd"
    exact rd_listB (sqA_l h4) q
-- no reading of World.channel yet
-- no reading of World.vessel yet
def sp_World_told (T : Tx K mg) : Sp := fun vs H Q _ => ∃ a w L, vs = [.ref a] ∧ WoAt T H a w L ∧ ∀ t tp tc tb ts pc pb ps H', Same H H' → H' t = some (.tup [.int w.begin, .ref tp, .ref tc, .ref tb, .ref ts]) → H' tp = some (.tup (strsV w.ports)) →
  H' tc = some (.tup pc) → RowsAt H' pc (w.chans.map fun u => chV u.2) → H' tb = some (.tup pb) → RowsAt H' pb (w.brks.map fun u => veV u.2) → H' ts = some (.tup ps) → RowsAt H' ps (w.ships.map fun u => veV u.2) → Q (.ref t) H'
theorem take_map2 {α β : Type} {ws : List α} {i : Nat} {w : α} (f : α → β) (h : ws[i]? = some w) : (ws.take (i + 1)).map f = (ws.take i).map f ++ [f w] := by rw [List.take_add_one, h, List.map_append]; rfl
theorem ok_World_told (T : Tx K mg) : FnOk P w K mg base CX0 3 T.a_World_told T.d_World_told ["self"] (sp_World_told T) := by
  refine T.F_World_told.ok sc_World_told (fun vs H Q E h => ?_) (fun cdv A outer s H vs Q E hr h => ?_)
  · obtain ⟨a, w, L, rfl, _⟩ := h
    rfl
  · refine ⟨_, (pss_cons (ps_set (i := 1) sc_World_told.nd rfl (Or.inl rfl) (pe_callTy (tupOfK (K := K) rfl) (by rfl) T.m_tuple (by decide +kernel) (pa_cons (pe_lc (own := [("channel", 4)]) (g := gName 4) (tt := tYes) rfl sc_World_told.nd (pi_listK (K := K) rfl (pe_fldK (K := K) rfl (pv 0))) (blkOk_by (own := [("channel", 4)]) (N := N_World_told) (sc := defScope s_World_told) (by decide +kernel)) (fun _ _ _ _ _ => (pg_name (i := 4) sc_World_told.nd rfl (Or.inl rfl))) (fun _ _ _ _ _ => pts_nil) (fun _ _ _ _ _ => (pe_frm (pe_meth0 (pv 4) T.cl_Channel T.me_Channel_row (ok_Channel_row T) (hr.mono (by decide)) T.b_Channel_row .nil pass0)))) pa_nil)))
        (pss_cons (ps_set (i := 2) sc_World_told.nd rfl (Or.inl rfl) (pe_callTy (tupOfK (K := K) rfl) (by rfl) T.m_tuple (by decide +kernel) (pa_cons (pe_lc (own := [("breaker", 5)]) (g := gName 5) (tt := tYes) rfl sc_World_told.nd (pi_listK (K := K) rfl (pe_fldK (K := K) rfl (pv 0))) (blkOk_by (own := [("breaker", 5)]) (N := N_World_told) (sc := defScope s_World_told) (by decide +kernel)) (fun _ _ _ _ _ => (pg_name (i := 5) sc_World_told.nd rfl (Or.inl rfl))) (fun _ _ _ _ _ => pts_nil) (fun _ _ _ _ _ => (pe_frm (pe_meth0 (pv 5) T.cl_Breaker T.me_Breaker_row (ok_Breaker_row T) (hr.mono (by decide)) T.b_Breaker_row .nil pass0)))) pa_nil)))
        (pss_cons (ps_set (i := 3) sc_World_told.nd rfl (Or.inl rfl) (pe_callTy (tupOfK (K := K) rfl) (by rfl) T.m_tuple (by decide +kernel) (pa_cons (pe_lc (own := [("ship", 6)]) (g := gName 6) (tt := tYes) rfl sc_World_told.nd (pi_listK (K := K) rfl (pe_fldK (K := K) rfl (pv 0))) (blkOk_by (own := [("ship", 6)]) (N := N_World_told) (sc := defScope s_World_told) (by decide +kernel)) (fun _ _ _ _ _ => (pg_name (i := 6) sc_World_told.nd rfl (Or.inl rfl))) (fun _ _ _ _ _ => pts_nil) (fun _ _ _ _ _ => (pe_frm (pe_meth0 (pv 6) T.cl_Ship T.me_Ship_row (ok_Ship_row T) (hr.mono (by decide)) T.b_Ship_row .nil pass0)))) pa_nil)))
        (pss_one (ps_ret (pe_tup (pa_cons (pe_fldK (K := K) rfl (pv 0)) (pa_cons (pe_callTy (tupOfK (K := K) rfl) (by rfl) T.m_tuple (by decide +kernel) (pa_cons (pe_fldK (K := K) rfl (pv 0)) pa_nil)) (pa_cons (pv 1) (pa_cons (pv 2) (pa_cons (pv 3) pa_nil))))))))))), ?_⟩
    obtain ⟨a, w, L, rfl, hW, q⟩ := h
    obtain ⟨ok, dx, lp, lc, lb, ls, rfl, hA, h1, h2, h3, h4, hC, hB, hS⟩ := id hW
    have z3 := ok.c12
    have z4 := ok.k4
    have z5 := ok.s6
    walk_at "rd"
    refine rd_ilB ?_ <;> walk_at "rd"
    refine lcQn walk_list (by omega) (fun H' s => (s.seq (sqL_of h2))) (fun acc us H' => RowsAt H' acc (us.map fun u => chV u.2)) .nil (fun _ => rfl) (fun i u acc H' Q' hu s hr q' => ?_) fun pc D H1 s_H1 hD hla hr1 => ?_
    · obtain ⟨dy, e⟩ := (hC.keep s) u (List.mem_of_getElem? hu)
      walk_at "rd"
      refine ⟨u.1, u.2, rfl, ⟨dy, e⟩, fun t Hx n_t s_Hx e_t => q' _ _ s_Hx ?_⟩
      rw [take_map2 _ hu]
      exact (hr.keep s_Hx).snoc e_t
    have s12 := same_new (o := .lst pc) hD
    have eD : (upd H1 D (.lst pc)) D = some (.lst pc) := upd_same
    generalize upd H1 D (.lst pc) = H2 at s12 eD
    walk_at "rd"
    refine rd_tupB2 (sqL_of eD) fun tc H3 n_tc s_H3 e_tc => ?_
    have s03 := (s_H1.trans s12).trans s_H3
    have hr3 := (hr1.keep s12).keep s_H3
    have h33 := s03 _ _ h3
    have hB3 := hB.keep s03
    have hA3 := s03 _ _ hA
    walk_at "rd"
    refine rd_ilB ?_ <;> walk_at "rd"
    refine lcQn walk_list (by omega) (fun H' s => (s.seq (sqL_of h33))) (fun acc us H' => RowsAt H' acc (us.map fun u => veV u.2)) .nil (fun _ => rfl) (fun i u acc H' Q' hu s hr q' => ?_) fun pb D2 H4 s_H4 hD2 hla2 hr4 => ?_
    · have hv := (hB3.keep s) u (List.mem_of_getElem? hu)
      obtain ⟨dy, e⟩ := hv.c1 (ok.kk u (List.mem_of_getElem? hu))
      walk_at "rd"
      refine ⟨u.1, u.2, rfl, hv, ok.kk u (List.mem_of_getElem? hu), fun t Hx n_t s_Hx e_t => q' _ _ s_Hx ?_⟩
      rw [take_map2 _ hu]
      exact (hr.keep s_Hx).snoc e_t
    have s45 := same_new (o := .lst pb) hD2
    have eD2 : (upd H4 D2 (.lst pb)) D2 = some (.lst pb) := upd_same
    generalize upd H4 D2 (.lst pb) = H5 at s45 eD2
    walk_at "rd"
    refine rd_tupB2 (sqL_of eD2) fun tb H6 n_tb s_H6 e_tb => ?_
    have s36 := (s_H4.trans s45).trans s_H6
    have s06 := s03.trans s36
    have hr6 := (hr4.keep s45).keep s_H6
    have h46 := s06 _ _ h4
    have hS6 := hS.keep s06
    have hA6 := s06 _ _ hA
    walk_at "rd"
    refine rd_ilB ?_ <;> walk_at "rd"
    refine lcQn walk_list (by omega) (fun H' s => (s.seq (sqL_of h46))) (fun acc us H' => RowsAt H' acc (us.map fun u => veV u.2)) .nil (fun _ => rfl) (fun i u acc H' Q' hu s hr q' => ?_) fun ps D3 H7 s_H7 hD3 hla3 hr7 => ?_
    · have hv := (hS6.keep s) u (List.mem_of_getElem? hu)
      obtain ⟨dy, e⟩ := hv.c2 (ok.sk u (List.mem_of_getElem? hu))
      walk_at "rd"
      refine ⟨u.1, u.2, rfl, hv, ok.sk u (List.mem_of_getElem? hu), fun t Hx n_t s_Hx e_t => q' _ _ s_Hx ?_⟩
      rw [take_map2 _ hu]
      exact (hr.keep s_Hx).snoc e_t
    have s78 := same_new (o := .lst ps) hD3
    have eD3 : (upd H7 D3 (.lst ps)) D3 = some (.lst ps) := upd_same
    generalize upd H7 D3 (.lst ps) = H8 at s78 eD3
    walk_at "rd"
    refine rd_tupB2 (sqL_of eD3) fun ts H9 n_ts s_H9 e_ts => ?_
    have s69 := (s_H7.trans s78).trans s_H9
    have s09 := s06.trans s69
    have hA9 := s09 _ _ hA
    have h19 := s09 _ _ h1
    walk_at "rd"
    refine rd_tupB2 (sqL_of h19) fun tp Ha n_tp s_Ha e_tp => ?_
    walk_at "rd"
    refine rd_tupB fun t Hb n_t s_Hb e_t => ?_ <;> walk_at "rd"
    have s9b := s_Ha.trans s_Hb
    have s3b := (s36.trans s69).trans s9b
    have s6b := s69.trans s9b
    exact q t tp tc tb ts pc pb ps Hb (s09.trans s9b) e_t (s_Hb _ _ e_tp) (s3b _ _ e_tc) (hr3.keep s3b) (s6b _ _ e_tb) (hr6.keep s6b) (s9b _ _ e_ts) (((hr7.keep s78).keep s_H9).keep s9b)
theorem WoAt.kb {T : Tx K mg} {H H' : Hp} {a p : Addr} {w : Wd} {L : List Addr} {xs : List V} (h : WoAt T H a w L) (k : KeepB p H H') (hp : H p = some (.lst xs)) (n : p ∉ L) : WoAt T H' a w L := by
  obtain ⟨ok, dx, lp, lc, lb, ls, rfl, h1, h2, h3, h4, h5, h6, h7, h8⟩ := h
  simp only [List.mem_cons, List.not_mem_nil, or_false, not_or] at n
  refine ⟨ok, dx, lp, lc, lb, ls, rfl, k _ _ h1 (ne_of h1 hp nofun), k _ _ h2 (Ne.symm n.1), k _ _ h3 (Ne.symm n.2.1), k _ _ h4 (Ne.symm n.2.2.1), k _ _ h5 (Ne.symm n.2.2.2), fun u hu => ?_, fun u hu => ?_, fun u hu => ?_⟩
  · obtain ⟨dy, e⟩ := h6 u hu
    exact ⟨dy, k _ _ e (ne_of e hp nofun)⟩
  · obtain ⟨hk, dy, e⟩ := h7 u hu
    exact ⟨hk, dy, k _ _ e (ne_of e hp nofun)⟩
  · obtain ⟨hk, dy, e⟩ := h8 u hu
    exact ⟨hk, dy, k _ _ e (ne_of e hp nofun)⟩

theorem veV_len {v : Ve} : (veV v).length ≤ 6 := by
  unfold veV
  split <;> simp
/-! a world's rows as data -/
def vD : V → PyData
  | .int i => .int i
  | .str z => .str z
  | _ => .none
def okN : V → Prop
  | .int i => i.natAbs ≤ 1000000000000
  | .str z => nameS z = true
  | _ => False
theorem okN.dp {K : PySem.W.Frag} {H : Hp} {v : V} (h : okN v) : Dp K H v (vD v) := by
  cases v with
  | int i => exact .int i
  | str z => exact .str z
  | _ => exact h.elim
theorem okN.sm {v : V} (h : okN v) : Sm 0 2000 (vD v) := by
  cases v with
  | int i => exact Sm.int (Nat.le_trans (show i.natAbs ≤ 1000000000000 from h) (by decide))
  | str z => exact Sm.str (name_ok h) (by have := name_len h; omega)
  | _ => exact h.elim
theorem okN_dps {K : PySem.W.Frag} {H : Hp} : ∀ {r : List V}, (∀ x ∈ r, okN x) → DpAll K H r (r.map vD)
  | [], _ => .nil
  | x :: r, h => .cons (h x List.mem_cons_self).dp (okN_dps fun y hy => h y (List.mem_cons_of_mem _ hy))
def rwD (r : List V) : PyData := .tuple (r.map vD)
theorem rows_dps {K : PySem.W.Frag} {H : Hp} {ps : List V} {rs : List (List V)} (h : RowsAt H ps rs) (k : ∀ r ∈ rs, ∀ x ∈ r, okN x) : DpAll K H ps (rs.map rwD) := by
  induction h with
  | nil => exact .nil
  | cons h _ ih => exact .cons (.tup (sqT_of h) (okN_dps (k _ List.mem_cons_self))) (ih fun r hr => k r (List.mem_cons_of_mem _ hr))
theorem row_sm {r : List V} (h : ∀ x ∈ r, okN x) (l : r.length ≤ 10) : Sm 1 20024 (rwD r) := Sm.tup (n := 0) (w := 2000) (m := 10) (fun d hd => by
  obtain ⟨x, hx, rfl⟩ := List.mem_map.mp hd
  exact (h x hx).sm) (by rw [List.length_map]; exact l)
theorem rows_sm {rs : List (List V)} (h : ∀ r ∈ rs, r.length ≤ 10 ∧ ∀ x ∈ r, okN x) (l : rs.length ≤ 12) : Sm 2 240316 (.tuple (rs.map rwD)) := Sm.tup (n := 1) (w := 20024) (m := 12) (fun d hd => by
  obtain ⟨r, hr, rfl⟩ := List.mem_map.mp hd
  exact row_sm (h r hr).2 (h r hr).1) (by rw [List.length_map]; exact l)
def tdD (d : Td) : PyData := .tuple [.int d.begin, .tuple ((strsV d.ports).map vD), .tuple ((d.chans.map chV).map rwD), .tuple ((d.brks.map veV).map rwD), .tuple ((d.ships.map veV).map rwD)]
theorem ch_n {c : Ch} (h : chOk c ∧ nameS c.name = true ∧ nameS c.one = true ∧ nameS c.other = true ∧ c.one ≠ c.other) : (chV c).length ≤ 10 ∧ ∀ x ∈ chV c, okN x := ⟨by simp [chV], fun x hx => by
  obtain ⟨h1, h2, h3, h4, _⟩ := h
  unfold chOk at h1
  unfold chV at hx
  simp only [List.mem_cons, List.not_mem_nil, or_false] at hx
  rcases hx with rfl | rfl | rfl | rfl | rfl | rfl | rfl | rfl <;> first | assumption | (show Int.natAbs _ ≤ _; omega)⟩
theorem ve_n {v : Ve} (h : veOk v ∧ veNames v) : (veV v).length ≤ 10 ∧ ∀ x ∈ veV v, okN x := ⟨Nat.le_trans veV_len (by decide), fun x hx => by
  obtain ⟨⟨_, h1, h2, h3, h4, h5, h6, h7, h8⟩, n1, n2, n3⟩ := h
  unfold veV at hx
  split at hx <;> simp only [List.mem_cons, List.not_mem_nil, or_false] at hx
  · rcases hx with rfl | rfl | rfl | rfl | rfl <;> first | assumption | (show Int.natAbs _ ≤ _; omega)
  · rcases hx with rfl | rfl | rfl | rfl | rfl | rfl <;> first | assumption | (show Int.natAbs _ ≤ _; omega)
  · rcases hx with rfl | rfl | rfl | rfl | rfl | rfl <;> first | assumption | (show Int.natAbs _ ≤ _; omega)⟩
theorem TdOk.n {d : Td} (ok : TdOk d) : (∀ x ∈ strsV d.ports, okN x) ∧ (∀ r ∈ d.chans.map chV, r.length ≤ 10 ∧ ∀ x ∈ r, okN x) ∧ (∀ r ∈ d.brks.map veV, r.length ≤ 10 ∧ ∀ x ∈ r, okN x) ∧ (∀ r ∈ d.ships.map veV, r.length ≤ 10 ∧ ∀ x ∈ r, okN x) := by
  refine ⟨fun x hx => ?_, fun r hr => ?_, fun r hr => ?_, fun r hr => ?_⟩
  · unfold strsV at hx
    obtain ⟨z, hz, rfl⟩ := List.mem_map.mp hx
    exact ok.pn z hz
  · obtain ⟨c, hc, rfl⟩ := List.mem_map.mp hr
    exact ch_n (ok.co c hc)
  · obtain ⟨c, hc, rfl⟩ := List.mem_map.mp hr
    exact ve_n (ok.ko c (List.mem_append_left _ hc))
  · obtain ⟨c, hc, rfl⟩ := List.mem_map.mp hr
    exact ve_n (ok.ko c (List.mem_append_right _ hc))
theorem TdAt.dp {K : PySem.W.Frag} {H : Hp} {t : Addr} {d : Td} (h : TdAt H t d) (ok : TdOk d) : DpE K H (.ref t) (tdD d) := by
  obtain ⟨tp, tc, tk, ts, pc, pk, ps, ht, htp, htc, rc, htk, rk, hts, rs⟩ := h
  obtain ⟨n1, n2, n3, n4⟩ := ok.n
  exact .dp (.tup (sqT_of ht) (.cons (.int _) (.cons (.tup (sqT_of htp) (okN_dps n1)) (.cons (.tup (sqT_of htc) (rows_dps rc fun r hr => (n2 r hr).2)) (.cons (.tup (sqT_of htk) (rows_dps rk fun r hr => (n3 r hr).2)) (.cons (.tup (sqT_of hts) (rows_dps rs fun r hr => (n4 r hr).2)) .nil))))))
theorem TdOk.okD {d : Td} (ok : TdOk d) : okD (tdD d) := by
  obtain ⟨n1, n2, n3, n4⟩ := ok.n
  have b0 := ok.b0
  have b1 := ok.b1
  have p8 := ok.p8
  have c12 := ok.c12
  have k4 := ok.k4
  have s6 := ok.s6
  refine (Sm.tup (n := 2) (w := 240316) (m := 5) (ds := [.int d.begin, .tuple ((strsV d.ports).map vD), .tuple ((d.chans.map chV).map rwD), .tuple ((d.brks.map veV).map rwD), .tuple ((d.ships.map veV).map rwD)]) (fun x hx => ?_) (Nat.le_refl 5)).ok
  simp only [List.mem_cons, List.not_mem_nil, or_false] at hx
  rcases hx with rfl | rfl | rfl | rfl | rfl
  · exact (Sm.int (by omega)).mono (by decide) (by decide)
  · exact (row_sm n1 (by rw [strs_len]; omega)).mono (by decide) (by decide)
  · exact rows_sm n2 (by rw [List.length_map]; omega)
  · exact rows_sm n3 (by rw [List.length_map]; omega)
  · exact rows_sm n4 (by rw [List.length_map]; omega)

def sp_channel_anew (T : Tx K mg) : Sp := fun vs H Q _ => ∃ t c, vs = [.ref t] ∧ H t = some (.tup (chV c)) ∧ chOk c ∧ chNames c ∧ ∀ x H', Nn H x → Same H H' → ChanAt T H' x c → Q (.ref x) H'
theorem ok_channel_anew (T : Tx K mg) : FnOk P w K mg base CX0 6 T.a_channel_anew T.d_channel_anew ["row"] (sp_channel_anew T) := by
  refine T.F_channel_anew.ok sc_channel_anew (fun vs H Q E h => ?_) (fun cdv A outer s H vs Q E hr h => ?_)
  · obtain ⟨t, c, rfl, _⟩ := h
    rfl
  · refine ⟨_, (pss_one (ps_ret (pe_make T.mk_Channel (ok_Channel___init__ T) (hr.mono (by decide)) rfl T.g_Channel T.b_Channel___init__ .nil passX0 (pa_cons (pe_ix (ixTK (K := K) rfl) (pv 0) pe_int (fun _ _ => rfl)) (pa_cons (pe_ix (ixTK (K := K) rfl) (pv 0) pe_int (fun _ _ => rfl)) (pa_cons (pe_ix (ixTK (K := K) rfl) (pv 0) pe_int (fun _ _ => rfl)) (pa_cons (pe_ix (ixTK (K := K) rfl) (pv 0) pe_int (fun _ _ => rfl)) (pa_cons (pe_ix (ixTK (K := K) rfl) (pv 0) pe_int (fun _ _ => rfl)) (pa_cons (pe_ix (ixTK (K := K) rfl) (pv 0) pe_int (fun _ _ => rfl)) (pa_cons (pe_ix (ixTK (K := K) rfl) (pv 0) pe_int (fun _ _ => rfl)) (pa_cons (pe_ix (ixTK (K := K) rfl) (pv 0) pe_int (fun _ _ => rfl)) pa_nil))))))))))), ?_⟩
    obtain ⟨t, c, rfl, ht, ok, hn, q⟩ := h
    unfold chV at ht
    walk_at "rd"
    refine rd_mkChan T c ok hn fun x H2 n_x s2 hx => ?_
    walk_at "rd"
    exact q x H2 n_x s2 hx
def sp_breaker_anew (T : Tx K mg) : Sp := fun vs H Q _ => ∃ t v, vs = [.ref t] ∧ H t = some (.tup (veV v)) ∧ v.kind = 1 ∧ veOk v ∧ veNames v ∧ ∀ x H', Nn H x → Same H H' → VeAt T H' x v → Q (.ref x) H'
theorem ok_breaker_anew (T : Tx K mg) : FnOk P w K mg base CX0 7 T.a_breaker_anew T.d_breaker_anew ["row"] (sp_breaker_anew T) := by
  refine T.F_breaker_anew.ok sc_breaker_anew (fun vs H Q E h => ?_) (fun cdv A outer s H vs Q E hr h => ?_)
  · obtain ⟨t, v, rfl, _⟩ := h
    rfl
  · refine ⟨_, (pss_one (ps_ret (pe_make T.mk_Breaker (ok_Breaker___init__ T) (hr.mono (by decide)) rfl T.g_Breaker T.b_Breaker___init__ .nil passX0 (pa_cons (pe_ix (ixTK (K := K) rfl) (pv 0) pe_int (fun _ _ => rfl)) (pa_cons (pe_ix (ixTK (K := K) rfl) (pv 0) pe_int (fun _ _ => rfl)) (pa_cons (pe_ix (ixTK (K := K) rfl) (pv 0) pe_int (fun _ _ => rfl)) (pa_cons (pe_ix (ixTK (K := K) rfl) (pv 0) pe_int (fun _ _ => rfl)) (pa_cons (pe_ix (ixTK (K := K) rfl) (pv 0) pe_int (fun _ _ => rfl)) (pa_cons (pe_ix (ixTK (K := K) rfl) (pv 0) pe_int (fun _ _ => rfl)) pa_nil))))))))), ?_⟩
    obtain ⟨t, v, rfl, ht, hk, ok, hn, q⟩ := h
    rw [veV_1 hk] at ht
    walk_at "rd"
    rw [show [V.str v.name, V.str v.port, V.int v.hour, V.int v.strength, V.int v.draught, V.int v.cut] ++ [] = veV v from (veV_1 hk).symm]
    refine rd_mkBr T v hk ok hn fun x H2 n_x s2 hx => ?_
    walk_at "rd"
    exact q x H2 n_x s2 hx
def sp_ship_anew (T : Tx K mg) : Sp := fun vs H Q _ => ∃ t v, vs = [.ref t] ∧ H t = some (.tup (veV v)) ∧ v.kind = 2 ∧ veOk v ∧ veNames v ∧ ∀ x H', Nn H x → Same H H' → VeAt T H' x v → Q (.ref x) H'
theorem ok_ship_anew (T : Tx K mg) : FnOk P w K mg base CX0 7 T.a_ship_anew T.d_ship_anew ["row"] (sp_ship_anew T) := by
  refine T.F_ship_anew.ok sc_ship_anew (fun vs H Q E h => ?_) (fun cdv A outer s H vs Q E hr h => ?_)
  · obtain ⟨t, v, rfl, _⟩ := h
    rfl
  · refine ⟨_, (pss_one (ps_ret (pe_make T.mk_Ship (ok_Ship___init__ T) (hr.mono (by decide)) rfl T.g_Ship T.b_Ship___init__ .nil passX0 (pa_cons (pe_ix (ixTK (K := K) rfl) (pv 0) pe_int (fun _ _ => rfl)) (pa_cons (pe_ix (ixTK (K := K) rfl) (pv 0) pe_int (fun _ _ => rfl)) (pa_cons (pe_ix (ixTK (K := K) rfl) (pv 0) pe_int (fun _ _ => rfl)) (pa_cons (pe_ix (ixTK (K := K) rfl) (pv 0) pe_int (fun _ _ => rfl)) (pa_cons (pe_ix (ixTK (K := K) rfl) (pv 0) pe_int (fun _ _ => rfl)) (pa_cons (pe_ix (ixTK (K := K) rfl) (pv 0) pe_int (fun _ _ => rfl)) pa_nil))))))))), ?_⟩
    obtain ⟨t, v, rfl, ht, hk, ok, hn, q⟩ := h
    rw [veV_2 hk] at ht
    walk_at "rd"
    rw [show [V.str v.name, V.str v.port, V.str v.goal, V.int v.hour, V.int v.strength, V.int v.draught] ++ [] = veV v from (veV_2 hk).symm]
    refine rd_mkSh T v hk ok hn fun x H2 n_x s2 hx => ?_
    walk_at "rd"
    exact q x H2 n_x s2 hx
/-- rows of a world, each of them a list or a tuple -/
def TdQ (H : Hp) (t : Addr) (w : Td) : Prop := ∃ tp tc tk ts pc pk ps, H t = some (.tup [.int w.begin, .ref tp, .ref tc, .ref tk, .ref ts]) ∧ SeqOf H tp (strsV w.ports) ∧ SeqOf H tc pc ∧ RowsAt H pc (w.chans.map chV) ∧ SeqOf H tk pk ∧ RowsAt H pk (w.brks.map veV) ∧ SeqOf H ts ps ∧ RowsAt H ps (w.ships.map veV)
def sp_world_anew (T : Tx K mg) : Sp := fun vs H Q _ => ∃ t d, vs = [.ref t] ∧ TdQ H t d ∧ TdOk d ∧ ∀ x w L H', Nn H x → (∀ y ∈ L, H y = none) → Same H H' → WdOf w d → WoAt T H' x w L → Q (.ref x) H'
theorem ok_world_anew (T : Tx K mg) : FnOk P w K mg base CX0 8 T.a_world_anew T.d_world_anew ["told"] (sp_world_anew T) := by
  refine T.F_world_anew.ok sc_world_anew (fun vs H Q E h => ?_) (fun cdv A outer s H vs Q E hr h => ?_)
  · obtain ⟨t, d, rfl, _⟩ := h
    rfl
  · refine ⟨_, (pss_cons (ps_asg (pv 0) (pg_tup rfl (pgs_cons (pg_name (i := 1) sc_world_anew.nd rfl (Or.inl rfl)) (pgs_cons (pg_name (i := 2) sc_world_anew.nd rfl (Or.inl rfl)) (pgs_cons (pg_name (i := 3) sc_world_anew.nd rfl (Or.inl rfl)) (pgs_cons (pg_name (i := 4) sc_world_anew.nd rfl (Or.inl rfl)) (pgs_cons (pg_name (i := 5) sc_world_anew.nd rfl (Or.inl rfl)) pgs_nil)))))))
        (pss_cons (ps_setLc (i := 6) (own := [("row", 7)]) (g := gName 7) (tt := tYes) rfl sc_world_anew.nd rfl rfl (sw_true rfl rfl rfl (by decide +kernel)) (pi_seqK (K := K) rfl (pv 3)) (blkOk_by (own := [("row", 7)]) (N := N_world_anew) (sc := defScope s_world_anew) (by decide +kernel)) (fun _ _ _ _ _ => (pg_name (i := 7) sc_world_anew.nd rfl (Or.inl rfl))) (fun _ _ _ _ _ => pts_nil) (fun _ _ _ _ _ => (pe_frm (pe_call (ok_channel_anew T) (hr.mono (by decide)) (by rfl) T.g_channel_anew T.F_channel_anew.kp T.b_channel_anew .nil pass0 (pa_cons (pv 7) pa_nil)))))
        (pss_one (ps_ret (pe_make T.mk_World (ok_World___init__ T) (hr.mono (by decide)) rfl T.g_World T.b_World___init__ .nil passX0 (pa_cons (pv 1) (pa_cons (pv 2) (pa_cons (pv 6) (pa_cons (pe_lc (own := [("row", 7)]) (g := gName 7) (tt := tYes) rfl sc_world_anew.nd (pi_seqK (K := K) rfl (pv 4)) (blkOk_by (own := [("row", 7)]) (N := N_world_anew) (sc := defScope s_world_anew) (by decide +kernel)) (fun _ _ _ _ _ => (pg_name (i := 7) sc_world_anew.nd rfl (Or.inl rfl))) (fun _ _ _ _ _ => pts_nil) (fun _ _ _ _ _ => (pe_frm (pe_call (ok_breaker_anew T) (hr.mono (by decide)) (by rfl) T.g_breaker_anew T.F_breaker_anew.kp T.b_breaker_anew .nil pass0 (pa_cons (pv 7) pa_nil))))) (pa_cons (pe_lc (own := [("row", 7)]) (g := gName 7) (tt := tYes) rfl sc_world_anew.nd (pi_seqK (K := K) rfl (pv 5)) (blkOk_by (own := [("row", 7)]) (N := N_world_anew) (sc := defScope s_world_anew) (by decide +kernel)) (fun _ _ _ _ _ => (pg_name (i := 7) sc_world_anew.nd rfl (Or.inl rfl))) (fun _ _ _ _ _ => pts_nil) (fun _ _ _ _ _ => (pe_frm (pe_call (ok_ship_anew T) (hr.mono (by decide)) (by rfl) T.g_ship_anew T.F_ship_anew.kp T.b_ship_anew .nil pass0 (pa_cons (pv 7) pa_nil))))) pa_nil)))))))))), ?_⟩
    obtain ⟨t, d, rfl, ⟨lp, lc, lk, ls, pc, pk, ps, ht, hlp, hlc, rc, hlk, rk, hls, rs⟩, ok, q⟩ := h
    obtain ⟨wc, ec, mc, hc⟩ := rows_refs rc
    obtain ⟨wk, ek, mk, hk⟩ := rows_refs rk
    obtain ⟨ws, es, ms, hs⟩ := rows_refs rs
    subst ec ek es
    have c12 := ok.c12
    have k4 := ok.k4
    have s6 := ok.s6
    have lwc : wc.length ≤ 12 := by rw [← List.length_map (f := fun u : Addr × Ch => u.2), mc]; exact c12
    have lwk : wk.length ≤ 4 := by rw [← List.length_map (f := fun u : Addr × Ve => u.2), mk]; exact k4
    have lws : ws.length ≤ 6 := by rw [← List.length_map (f := fun u : Addr × Ve => u.2), ms]; exact s6
    walk_at "rd"
    refine rd_gtup (sqT_of ht) rfl ?_
    walk_at "rd"
    refine rd_iq hlc.a fun J G wkk hG => ?_
    refine lcQn (ws := wc) wkk (by omega) (fun H' s => hG _ fun o e => s _ _ e) (NewCh T) ⟨[], rfl, rfl, nofun⟩ (fun _ => rfl) (fun i u acc H' Q' hu s pp q' => ?_) (fun acc D1 H1 s_H1 hD1 hla pp => ?_)
    · have mu := ok.co u.2 (mc ▸ List.mem_map_of_mem (f := fun u : Addr × Ch => u.2) (List.mem_of_getElem? hu))
      walk_at "rd"
      refine ⟨u.1, u.2, rfl, s _ _ (hc u (List.mem_of_getElem? hu)), mu.1, mu.2, fun x H2 n_x s2 hx => ?_⟩
      exact q' _ _ s2 (pp.step hu s2 hx)
    obtain ⟨cs, rfl, e1, hC⟩ := pp
    have s1 := same_new (o := .lst (refsOf cs)) hD1
    have e_D1 : (upd H1 D1 (.lst (refsOf cs))) D1 = some (.lst (refsOf cs)) := upd_same
    generalize upd H1 D1 (.lst (refsOf cs)) = H2 at s1 e_D1
    have hC := hC.keep s1
    have s02 := s_H1.trans s1
    walk_at "rd"
    refine rd_iq (hlk.keep s02).a fun J G wkk hG => ?_
    refine lcQn (ws := wk) wkk (by omega) (fun H' s => hG _ fun o e => s _ _ e) (NewVe T) ⟨[], rfl, rfl, nofun⟩ (fun _ => rfl) (fun i u acc H' Q' hu s pp q' => ?_) (fun acc D2 H3 s_H3 hD2 hla pp => ?_)
    · have mm : u.2 ∈ d.brks := mk ▸ List.mem_map_of_mem (f := fun u : Addr × Ve => u.2) (List.mem_of_getElem? hu)
      have mu := ok.ko u.2 (List.mem_append_left _ mm)
      walk_at "rd"
      refine ⟨u.1, u.2, rfl, s _ _ (s02 _ _ (hk u (List.mem_of_getElem? hu))), ok.kk _ mm, mu.1, mu.2, fun x H2 n_x s2 hx => ?_⟩
      exact q' _ _ s2 (pp.step hu s2 hx)
    obtain ⟨ks, rfl, e2, hK⟩ := pp
    have s3 := same_new (o := .lst (refsOf ks)) hD2
    have e_D2 : (upd H3 D2 (.lst (refsOf ks))) D2 = some (.lst (refsOf ks)) := upd_same
    generalize upd H3 D2 (.lst (refsOf ks)) = H4 at s3 e_D2
    have hK := hK.keep s3
    have s24 := s_H3.trans s3
    have hC := hC.keep s24
    have e_D1 := s24 _ _ e_D1
    have s04 := s02.trans s24
    walk_at "rd"
    refine rd_iq (hls.keep s04).a fun J G wkk hG => ?_
    refine lcQn (ws := ws) wkk (by omega) (fun H' s => hG _ fun o e => s _ _ e) (NewVe T) ⟨[], rfl, rfl, nofun⟩ (fun _ => rfl) (fun i u acc H' Q' hu s pp q' => ?_) (fun acc D3 H5 s_H5 hD3 hla pp => ?_)
    · have mm : u.2 ∈ d.ships := ms ▸ List.mem_map_of_mem (f := fun u : Addr × Ve => u.2) (List.mem_of_getElem? hu)
      have mu := ok.ko u.2 (List.mem_append_right _ mm)
      walk_at "rd"
      refine ⟨u.1, u.2, rfl, s _ _ (s04 _ _ (hs u (List.mem_of_getElem? hu))), ok.sk _ mm, mu.1, mu.2, fun x H2 n_x s2 hx => ?_⟩
      exact q' _ _ s2 (pp.step hu s2 hx)
    obtain ⟨ss, rfl, e3, hS⟩ := pp
    have s5 := same_new (o := .lst (refsOf ss)) hD3
    have e_D3 : (upd H5 D3 (.lst (refsOf ss))) D3 = some (.lst (refsOf ss)) := upd_same
    generalize upd H5 D3 (.lst (refsOf ss)) = H6 at s5 e_D3
    have s46 := s_H5.trans s5
    have s06 := s04.trans s46
    walk_at "rd"
    refine rd_mkWorldT T ok (hlp.keep s06) (.inl (s46 _ _ e_D1)) (.inl (s46 _ _ e_D2)) (.inl e_D3) (e1.trans mc) (e2.trans mk) (e3.trans ms) (hC.keep s46) (hK.keep s46) (hS.keep s5) fun x w L H7 n_x hL s_H7 hw _ _ _ hW => ?_
    walk_at "rd"
    exact q x w L H7 ⟨none_sm0 s06 n_x.e⟩ (fun y hy => none_sm0 s06 (hL y hy)) (s06.trans s_H7) hw hW

theorem WoAt.td {T : Tx K mg} {H' : Hp} {w : Wd} {d : Td} {t tp tc tb ts : Addr} {pc pb ps : List V} (h : WdOf w d) (ht : H' t = some (.tup [.int w.begin, .ref tp, .ref tc, .ref tb, .ref ts])) (htp : H' tp = some (.tup (strsV w.ports)))
    (htc : H' tc = some (.tup pc)) (rc : RowsAt H' pc (w.chans.map fun u => chV u.2)) (htb : H' tb = some (.tup pb)) (rb : RowsAt H' pb (w.brks.map fun u => veV u.2)) (hts : H' ts = some (.tup ps)) (rs : RowsAt H' ps (w.ships.map fun u => veV u.2)) : TdAt H' t d := by
  refine ⟨tp, tc, tb, ts, pc, pb, ps, by rw [← h.b]; exact ht, by rw [← h.p]; exact htp, htc, ?_, htb, ?_, hts, ?_⟩
  · rw [← h.c, List.map_map]
    exact rc
  · rw [← h.k, List.map_map]
    exact rb
  · rw [← h.s, List.map_map]
    exact rs
def sp_later_world (T : Tx K mg) : Sp := fun vs H Q E => ∃ a w L d m, vs = [.ref a, .int m] ∧ WoAt T H a w L ∧ WdOf w d ∧ TdOk d ∧
  (0 ≤ m → (∀ y ∈ hoursD d, y + m ≤ 1000000) → ∀ x w' L' H', Nn H x → (∀ y ∈ L', H y = none) → Same H H' → WdOf w' (laterD d m) → WoAt T H' x w' L' → Q (.ref x) H') ∧
  ((m < 0 ∨ ∃ y ∈ hoursD d, 1000000 < y + m) → ∀ x H', Same H H' → H' x = some (.xd [("found", .int m)]) → E (.ref T.a_NoNumber) (some x) H')
theorem ok_later_world (T : Tx K mg) : FnOk P w K mg base (L2.CX P w) 9 T.a_later_world T.d_later_world ["world", "many"] (sp_later_world T) := by
  refine T.F_later_world.okX sc_later_world (fun vs H Q E h => ?_) (fun cdv A outer s H vs Q E hr h => ?_)
  · obtain ⟨a, w, L, d, m, rfl, _⟩ := h
    rfl
  · refine ⟨_, (pss_cons (ps_asg (pe_meth0 (pv 0) T.cl_World T.me_World_told (ok_World_told T) (hr.mono (by decide)) T.b_World_told .nil pass0) (pg_tup rfl (pgs_cons (pg_name (i := 2) sc_later_world.nd rfl (Or.inl rfl)) (pgs_cons (pg_name (i := 3) sc_later_world.nd rfl (Or.inl rfl)) (pgs_cons (pg_name (i := 4) sc_later_world.nd rfl (Or.inl rfl)) (pgs_cons (pg_name (i := 5) sc_later_world.nd rfl (Or.inl rfl)) (pgs_cons (pg_name (i := 6) sc_later_world.nd rfl (Or.inl rfl)) pgs_nil)))))))
        (pss_cons (ps_set (i := 7) sc_later_world.nd rfl (Or.inl rfl) (pe_op op_cat (pe_op op_cat (pe_lst (pa_cons (pv 2) pa_nil)) (pe_lc (own := [("row", 8)]) (g := gName 8) (tt := tYes) rfl sc_later_world.nd (pi_tupK (K := K) rfl (pv 5)) (blkOk_by (own := [("row", 8)]) (N := N_later_world) (sc := defScope s_later_world) (by decide +kernel)) (fun _ _ _ _ _ => (pg_name (i := 8) sc_later_world.nd rfl (Or.inl rfl))) (fun _ _ _ _ _ => pts_nil) (fun _ _ _ _ _ => (pe_frm (pe_ix (ixTK (K := K) rfl) (pv 8) pe_int (fun _ _ => rfl)))))) (pe_lc (own := [("row", 8)]) (g := gName 8) (tt := tYes) rfl sc_later_world.nd (pi_tupK (K := K) rfl (pv 6)) (blkOk_by (own := [("row", 8)]) (N := N_later_world) (sc := defScope s_later_world) (by decide +kernel)) (fun _ _ _ _ _ => (pg_name (i := 8) sc_later_world.nd rfl (Or.inl rfl))) (fun _ _ _ _ _ => pts_nil) (fun _ _ _ _ _ => (pe_frm (pe_ix (ixTK (K := K) rfl) (pv 8) pe_int (fun _ _ => rfl)))))))
        (pss_cons (ps_if (pt_not (pt_val (pe_call (ok_is_within T) (hr.mono (by decide)) (by rfl) T.g_is_within T.F_is_within.kp T.b_is_within .nil pass0 (pa_cons (pv 1) (pa_cons pe_int (pa_cons (pe_op op_sub (C8.pe_gc rfl T.c_MOST_HOUR) (pe_callB (maxIK (K := K) rfl rfl) (by rfl) T.m_max (by decide +kernel) (pa_cons (pv 7) pa_nil))) pa_nil))))))
        (pss_one (ps_raiseX rfl (takes_of rfl rfl rfl rfl) T.ox_NoNumber T.ix_NoNumber T.tx_NoNumber (ok_NoNumber___init__ T) (hr.mono (by decide)) T.b_NoNumber___init__ rfl T.g_NoNumber (pa_cons (pv 1) pa_nil)))
        pss_nil)
        (pss_one (ps_ret (pe_call (ok_world_anew T) (hr.mono (by decide)) (by rfl) T.g_world_anew T.F_world_anew.kp T.b_world_anew .nil pass0 (pa_cons (pe_tup (pa_cons (pe_op op_add (pv 2) (pv 1)) (pa_cons (pv 3) (pa_cons (pv 4) (pa_cons (pe_lc (own := [("row", 8)]) (g := gName 8) (tt := tYes) rfl sc_later_world.nd (pi_tupK (K := K) rfl (pv 5)) (blkOk_by (own := [("row", 8)]) (N := N_later_world) (sc := defScope s_later_world) (by decide +kernel)) (fun _ _ _ _ _ => (pg_name (i := 8) sc_later_world.nd rfl (Or.inl rfl))) (fun _ _ _ _ _ => pts_nil) (fun _ _ _ _ _ => (pe_frm (pe_op (catAK (K := K) rfl) (pe_op (catAK (K := K) rfl) (pe_slice (slTK (K := K) rfl) (pv 8) po_none (po_some pe_int)) (pe_tup (pa_cons (pe_op op_add (pe_ix (ixTK (K := K) rfl) (pv 8) pe_int (fun _ _ => rfl)) (pv 1)) pa_nil))) (pe_slice (slTK (K := K) rfl) (pv 8) (po_some pe_int) po_none))))) (pa_cons (pe_lc (own := [("row", 8)]) (g := gName 8) (tt := tYes) rfl sc_later_world.nd (pi_tupK (K := K) rfl (pv 6)) (blkOk_by (own := [("row", 8)]) (N := N_later_world) (sc := defScope s_later_world) (by decide +kernel)) (fun _ _ _ _ _ => (pg_name (i := 8) sc_later_world.nd rfl (Or.inl rfl))) (fun _ _ _ _ _ => pts_nil) (fun _ _ _ _ _ => (pe_frm (pe_op (catAK (K := K) rfl) (pe_op (catAK (K := K) rfl) (pe_slice (slTK (K := K) rfl) (pv 8) po_none (po_some pe_int)) (pe_tup (pa_cons (pe_op op_add (pe_ix (ixTK (K := K) rfl) (pv 8) pe_int (fun _ _ => rfl)) (pv 1)) pa_nil))) (pe_slice (slTK (K := K) rfl) (pv 8) (po_some pe_int) po_none))))) pa_nil)))))) pa_nil))))))), ?_⟩
    obtain ⟨a, w, L, d, m, rfl, hW, hwd, ok, q1, q2⟩ := h
    obtain ⟨_, _, _, _, _, _, rfl, hA, _, _, _, _, _, _, _⟩ := id hW
    walk_at "rd"
    refine ⟨a, w, _, rfl, hW, fun t tp tc tb ts pc pb ps H1 s1 ht htp htc rc htb rb hts rs => ?_⟩
    obtain ⟨tp, tc, tb, ts, pc, pb, ps, ht, htp, htc, rc, htb, rb, hts, rs⟩ := WoAt.td (T := T) hwd ht htp htc rc htb rb hts rs
    have k4 := ok.k4
    have s6 := ok.s6
    have lpb : pb.length ≤ 4 := by rw [rb.len, List.length_map]; exact k4
    have lps : ps.length ≤ 6 := by rw [rs.len, List.length_map]; exact s6
    refine rd_gtup (sqT_of ht) rfl ?_
    walk_at "rd"
    refine rd_lstB fun l1 H2 n_l1 s_H2 e_l1 => ?_ <;> walk_at "rd"
    refine rd_it (sqT_of (s_H2 _ _ htb)) ?_
    refine lc_fn (fun v : Ve => V.int v.hour) walk_tup (rb.keep s_H2) (by omega) (fun H' s => sqT_of (s _ _ (s_H2 _ _ htb))) (fun _ => rfl) (fun t c H' Q' hc ht' q' => ?_) (fun D1 H3 n_D1 s_H3 e_D1 => ?_)
    · rw [veV_1 (ok.kk c hc)] at ht'
      walk_at "rd"
      exact q'
    refine rd_catB (fun l2 H4 n_l2 s_H4 e_l2 => ?_) (s_H3 _ _ e_l1) e_D1 (by rw [List.length_map, List.length_singleton]; omega)
    have s14 := (s_H2.trans s_H3).trans s_H4
    walk_at "rd"
    refine rd_it (sqT_of (s14 _ _ hts)) ?_
    refine lc_fn (fun v : Ve => V.int v.hour) walk_tup (rs.keep s14) (by omega) (fun H' s => sqT_of (s _ _ (s14 _ _ hts))) (fun _ => rfl) (fun t c H' Q' hc ht' q' => ?_) (fun D2 H5 n_D2 s_H5 e_D2 => ?_)
    · rw [veV_2 (ok.sk c hc)] at ht'
      walk_at "rd"
      exact q'
    refine rd_catB (fun l3 H6 n_l3 s_H6 e_l3 => ?_) (s_H5 _ _ e_l2) e_D2 (by rw [List.length_append, List.length_map, List.length_map, List.length_singleton]; omega)
    have s16 := s14.trans (s_H5.trans s_H6)
    have e_l3 : H6 l3 = some (.lst ((hoursD d).map V.int)) := by
      rw [e_l3, cols_int, cols_int]
      unfold hoursD
      rw [List.map_cons, List.map_append]
      rfl
    walk_at "rd"
    refine rd_maxI (sqL_of e_l3) (by unfold hoursD; rw [List.length_cons]; omega) fun mx hmx hmy => ?_
    walk_at "rd"
    refine ⟨_, 0, 1000000 - mx, rfl, trivial, ?_⟩
    have s06 := s1.trans s16
    rw [show withinV (.int m) 0 (1000000 - mx) = (decide (0 ≤ m) && decide (m ≤ 1000000 - mx)) from rfl]
    by_cases hm : 0 ≤ m ∧ m ≤ 1000000 - mx
    · rw [decide_eq_true hm.1, decide_eq_true hm.2]
      walk_at "rd"
      refine iteTd rfl ?_
      have hall : ∀ y ∈ hoursD d, y + m ≤ 1000000 := fun y hy => by
        have := hmy y hy
        omega
      have ok2 := laterOk ok hm.1 hall
      have htb6 := s16 _ _ htb
      have hts6 := s16 _ _ hts
      walk_at "rd"
      refine rd_it (sqT_of htb6) ?_
      refine lc_rw (fun v : Ve => veV (hourD m v)) walk_tup (rb.keep s16) (by omega) (fun H' s => sqT_of (s _ _ htb6)) (fun _ => rfl) (fun t c H' Q' hc s ht' q' => ?_) (fun D3 pb2 H7 n_D3 s_H7 e_D3 rb2 => ?_)
      · have hk := ok.kk c hc
        rw [veV_1 hk] at ht'
        rw [veV_1 (show (hourD m c).kind = 1 from hk)] at q'
        walk_at "rd"
        refine rd_slB (ys := [.str c.name, .str c.port]) (fun p1 Ha s_Ha e_p1 => ?_) ht'
        have ht2 := s_Ha _ _ ht'
        walk_at "rd"
        refine rd_tupB fun p2 Hb n_p2 s_Hb e_p2 => ?_ <;> walk_at "rd"
        refine rd_catX (fun p3 Hc s_Hc e_p3 => ?_) (s_Hb _ _ e_p1) e_p2
        walk_at "rd"
        refine rd_slB (ys := [.int c.strength, .int c.draught, .int c.cut]) (fun p4 Hd s_Hd e_p4 => ?_) (s_Hc _ _ (s_Hb _ _ ht2))
        walk_at "rd"
        refine rd_catX (fun p5 He s_He e_p5 => ?_) (s_Hd _ _ e_p3) e_p4
        exact q' p5 He ((((s_Ha.trans s_Hb).trans s_Hc).trans s_Hd).trans s_He) e_p5
      have hts7 := s_H7 _ _ hts6
      walk_at "rd"
      refine rd_it (sqT_of hts7) ?_
      refine lc_rw (fun v : Ve => veV (hourD m v)) walk_tup ((rs.keep s16).keep s_H7) (by omega) (fun H' s => sqT_of (s _ _ hts7)) (fun _ => rfl) (fun t c H' Q' hc s ht' q' => ?_) (fun D4 ps2 H8 n_D4 s_H8 e_D4 rs2 => ?_)
      · have hk := ok.sk c hc
        rw [veV_2 hk] at ht'
        rw [veV_2 (show (hourD m c).kind = 2 from hk)] at q'
        walk_at "rd"
        refine rd_slB (ys := [.str c.name, .str c.port, .str c.goal]) (fun p1 Ha s_Ha e_p1 => ?_) ht'
        have ht2 := s_Ha _ _ ht'
        walk_at "rd"
        refine rd_tupB fun p2 Hb n_p2 s_Hb e_p2 => ?_ <;> walk_at "rd"
        refine rd_catX (fun p3 Hc s_Hc e_p3 => ?_) (s_Hb _ _ e_p1) e_p2
        walk_at "rd"
        refine rd_slB (ys := [.int c.strength, .int c.draught]) (fun p4 Hd s_Hd e_p4 => ?_) (s_Hc _ _ (s_Hb _ _ ht2))
        walk_at "rd"
        refine rd_catX (fun p5 He s_He e_p5 => ?_) (s_Hd _ _ e_p3) e_p4
        exact q' p5 He ((((s_Ha.trans s_Hb).trans s_Hc).trans s_Hd).trans s_He) e_p5
      walk_at "rd"
      refine rd_tupB fun t5 H9 n_t5 s_H9 e_t5 => ?_ <;> walk_at "rd"
      have s69 := (s_H7.trans s_H8).trans s_H9
      have s19 := s16.trans s69
      refine ⟨t5, laterD d m, rfl, ⟨tp, tc, D3, D4, pc, pb2, ps2, e_t5, .inr (s19 _ _ htp), .inr (s19 _ _ htc), rc.keep s19, .inl (s_H9 _ _ (s_H8 _ _ e_D3)), ?_, .inl (s_H9 _ _ e_D4), ?_⟩, ok2, fun x w' L' Ha n_x hL s_Ha hwd' hW' => ?_⟩
      · show RowsAt H9 pb2 ((d.brks.map (hourD m)).map veV)
        rw [List.map_map]
        exact (rb2.keep s_H8).keep s_H9
      · show RowsAt H9 ps2 ((d.ships.map (hourD m)).map veV)
        rw [List.map_map]
        exact rs2.keep s_H9
      · have s09 := s1.trans s19
        walk_at "rd"
        exact q1 hm.1 hall x w' L' Ha ⟨none_sm0 s09 n_x.e⟩ (fun y hy => none_sm0 s09 (hL y hy)) (s09.trans s_Ha) hwd' hW'
    · have : (decide (0 ≤ m) && decide (m ≤ 1000000 - mx)) = false := by
        rw [Bool.and_eq_false_iff, decide_eq_false_iff_not, decide_eq_false_iff_not]
        omega
      rw [this]
      walk_at "rd"
      refine rd_raise1 fun x hx => ?_
      refine q2 ?_ x _ (s06.trans (same_new hx)) upd_same
      by_cases h0 : m < 0
      · exact .inl h0
      · exact .inr ⟨mx, hmx, by omega⟩
/-- a comprehension over pairs, each a tuple of a list, its element a new tuple -/
theorem lcRow2t {α : Type} {K : PySem.W.Frag} {σ : L2.St} {H : Hp} {Q : VK} {J : It} {G : Hp → Prop} {te : TE} {vs : List Nat} {k1 k2 : Nat} {ps : List V} {es : List α} {fx fy : α → V} (g : α → List V) (w : Walk J ps.length G (YAt ps)) (hr : RowsAt H ps (es.map fun e => [fx e, fy e])) (hz : ps.length ≤ 100000)
    (hG : ∀ H', Same H H' → G H') (hw : ∀ x y, wipe (((wipe σ vs).set k1 (some x)).set k2 (some y)) vs = wipe σ vs)
    (he : ∀ e ∈ es, ∀ H' (Q' : VK), Same H H' → (∀ x H2, Same H' H2 → H2 x = some (.tup (g e)) → Q' (.ref x) H2) → te (((wipe σ vs).set k1 (some (fx e))).set k2 (some (fy e))) H' Q')
    (hq : ∀ D ps' H', Nn H D → Same H H' → H' D = some (.lst ps') → RowsAt H' ps' (es.map g) → Q (.ref D) H') : LcGo J (gTup K 2 (gCons (gName k1) (gCons (gName k2) gNil))) tYes (tFrm te) vs σ H Q := by
  have hl : ps.length = es.length := by
    have := hr.len
    rwa [List.length_map] at this
  refine lcgoG w hz (fun i x => ps[i]? = some x) (fun i H x H' _ _ y => y) (fun i acc H' => Same H H' ∧ RowsAt H' acc ((es.take i).map g)) ⟨Same.refl _, .nil⟩ (fun i acc H' D _ p hD => hG _ (p.1.trans (same_new hD))) ?_ ?_
  · rintro i x acc H' D hi hla ⟨s, pp⟩ hD hx
    obtain ⟨t, r, rfl, hre, ht⟩ := hr.get hx
    rw [List.getElem?_map] at hre
    obtain ⟨e, hee, rfl⟩ := Option.map_eq_some_iff.mp hre
    have ht' := same_new (o := .lst acc) hD _ _ (s _ _ ht)
    refine ⟨_, true, hw (fx e) (fy e), fun P q => ?_, fun P q => q, nofun, fun _ Qc q => he e (List.mem_of_getElem? hee) H' Qc s fun x H2 s2 ex => q _ _ ⟨s.trans s2, ?_⟩⟩
    · exact ⟨t, _, rfl, sqT_of ht', rfl, _, _, rfl, _, _, rfl, rfl, q⟩
    · rw [List.take_add_one, hee, List.map_append]
      exact (pp.keep s2).snoc ex
  · rintro acc H' D hla ⟨s, pp⟩ hD
    rw [hl, List.take_length] at pp
    have s2 := same_new (o := .lst acc) hD
    exact hq D acc _ ⟨none_sm0 s hD⟩ (s.trans s2) upd_same (pp.keep s2)
def sp_later_table (T : Tx K mg) : Sp := fun vs H Q E => ∃ a w L v d m, vs = [.ref a, v, .int m] ∧ WoAt T H a w L ∧ Px K H v d ∧ isTabD w.begin (vsN w) (csN w) d = true ∧ (∀ r ∈ tabOf d, r.2.length ≤ 1000) ∧
  (0 ≤ m → m ≤ 1000000 → ∀ p rs H', Nn H p → (∀ r ∈ rs, Nn H r.1) → (rs.map (·.1)).Nodup → Same H H' → TbL H' p rs → rs.map (·.2) = (told (vsN w) (tabOf d)).map (shiftR m) → Q (.ref p) H') ∧
  ((m < 0 ∨ 1000000 < m) → ∀ x H', Same H H' → H' x = some (.xd [("found", .int m)]) → E (.ref T.a_NoNumber) (some x) H')
theorem ok_later_table (T : Tx K mg) : FnOk P w K mg base (L2.CX P w) 7 T.a_later_table T.d_later_table ["world", "table", "many"] (sp_later_table T) := by
  refine T.F_later_table.okX sc_later_table (fun vs H Q E h => ?_) (fun cdv A outer s H vs Q E hr h => ?_)
  · obtain ⟨a, w, L, v, d, m, rfl, _⟩ := h
    rfl
  · refine ⟨_, (pss_cons (ps_set (i := 3) sc_later_table.nd rfl (Or.inl rfl) (pe_callS (ok_table_told T) (hr.mono (by decide)) (by rfl) T.g_table_told T.F_table_told.kp T.b_table_told (fun σ => passAt (takes_of rfl rfl rfl rfl) σ) (pa_cons (pv 0) (pa_cons (pv 1) pa_nil))))
        (pss_cons (ps_if (pt_not (pt_val (pe_call (ok_is_within T) (hr.mono (by decide)) (by rfl) T.g_is_within T.F_is_within.kp T.b_is_within .nil pass0 (pa_cons (pv 2) (pa_cons pe_int (pa_cons (C8.pe_gc rfl T.c_MOST_HOUR) pa_nil))))))
        (pss_one (ps_raiseX rfl (takes_of rfl rfl rfl rfl) T.ox_NoNumber T.ix_NoNumber T.tx_NoNumber (ok_NoNumber___init__ T) (hr.mono (by decide)) T.b_NoNumber___init__ rfl T.g_NoNumber (pa_cons (pv 2) pa_nil)))
        pss_nil)
        (pss_cons (ps_set (i := 4) sc_later_table.nd rfl (Or.inl rfl) pe_dnewK)
        (pss_cons (ps_lock (ps_for (passes_of rfl) rfl (pi_items (pv 3)) (pg_tup rfl (pgs_cons (pg_name (i := 5) sc_later_table.nd rfl (Or.inl rfl)) (pgs_cons (pg_name (i := 6) sc_later_table.nd rfl (Or.inl rfl)) pgs_nil)))
        (pss_one (ps_dput (hu_of hr) (pv 4) (pv 5) (pe_lc (own := [("hour", 7), ("channel", 8)]) (g := (gTup K 2 (gCons (gName 7) (gCons (gName 8) gNil)))) (tt := tYes) rfl sc_later_table.nd (pi_listK (K := K) rfl (pv 6)) (blkOk_by (own := [("hour", 7), ("channel", 8)]) (N := N_later_table) (sc := defScope s_later_table) (by decide +kernel)) (fun _ _ _ _ _ => (pg_tup rfl (pgs_cons (pg_name (i := 7) sc_later_table.nd rfl (Or.inl rfl)) (pgs_cons (pg_name (i := 8) sc_later_table.nd rfl (Or.inl rfl)) pgs_nil)))) (fun _ _ _ _ _ => pts_nil) (fun _ _ _ _ _ => (pe_frm (pe_tup (pa_cons (pe_op op_add (pv 7) (pv 2)) (pa_cons (pv 8) pa_nil)))))) rfl))))
        (pss_one (ps_ret (pv 4))))))), ?_⟩
    obtain ⟨a, w, L, v, d, m, rfl, hW, hP, hT, hm, q1, q2⟩ := h
    walk_at "rd"
    refine ⟨a, w, L, v, d, rfl, hW, hP, fun _ p rs H1 n_p n_rs nd s1 hp ers => ?_, fun e => absurd (hT.symm.trans e) nofun⟩
    have ok := hW.1
    have hl : ∀ r ∈ rs, r.2.2.length ≤ 1000 := fun r hr => hm _ (lookup_mem (tld_ok (ers ▸ List.mem_map_of_mem hr)).1)
    have hrl : rs.length ≤ 10 := by
      have h1 := congrArg List.length ers
      rw [List.length_map] at h1
      have h2 := told_len (t := tabOf d) (vs := vsN w)
      have zk := ok.k4
      have zs := ok.s6
      have : (vsN w).length = w.brks.length + w.ships.length := by unfold vsN; rw [List.length_map, List.length_append]
      omega
    have ndn : (rs.map (·.2.1)).Nodup := by
      have : rs.map (·.2.1) = (rs.map (·.2)).map (·.1) := by rw [List.map_map]; rfl
      rw [this, ers]
      exact told_nodup ok.vd
    walk_at "rd"
    refine ⟨_, 0, 1000000, rfl, trivial, ?_⟩
    rw [show withinV (.int m) 0 1000000 = (decide (0 ≤ m) && decide (m ≤ 1000000)) from rfl]
    by_cases hm2 : 0 ≤ m ∧ m ≤ 1000000
    rotate_left
    · have : (decide (0 ≤ m) && decide (m ≤ 1000000)) = false := by
        rw [Bool.and_eq_false_iff, decide_eq_false_iff_not, decide_eq_false_iff_not]
        omega
      rw [this]
      walk_at "rd"
      refine rd_raise1 fun x hx => ?_
      exact q2 (by omega) x _ (s1.trans (same_new hx)) upd_same
    rw [decide_eq_true hm2.1, decide_eq_true hm2.2]
    walk_at "rd"
    refine iteTd rfl ?_
    walk_at "rd"
    refine rd_dnewB fun p2 H2 n_p2 s_H2 e_p2 => ?_ <;> walk_at "rd"
    walk_at "rd"
    have hp2 := s_H2 _ _ hp.1
    have pp2 : p ≠ p2 := ne_of_none hp.1 n_p2.e
    refine rd_lock hp2 trivial fun od H3 e3 hf => ?_
    have k3 : ∀ b o, H2 b = some o → b ≠ p → H3 b = some o := fun b o h n => by rw [e3, upd_ne n]; exact h
    have e_p2 := k3 _ _ e_p2 pp2.symm
    have hrs : ∀ r ∈ rs, RlAt H3 r.1 r.2.2 := fun r hr => by
      obtain ⟨ps, z1, z2⟩ := hp.2 r hr
      exact ⟨ps, k3 _ _ (s_H2 _ _ z1) (ne_of z1 hp.1 nofun), z2.same fun b xs h => k3 _ _ (s_H2 _ _ h) (ne_of h hp.1 nofun)⟩
    have s02 := s1.trans s_H2
    have fr : ∀ {H' : Hp} {x : Addr}, KeepB p2 H3 H' → H' x = none → Nn H x := fun k hx => ⟨by
      cases z : H _ with
      | none => rfl
      | some o =>
        have zp := ne_of_none z n_p.e
        have zp2 := ne_of_none (s1 _ _ z) n_p2.e
        exact absurd ((k _ _ (k3 _ _ (s02 _ _ z) zp) zp2).symm.trans hx) nofun⟩
    walk_at "rd"
    refine rd_itm hf ?_
    refine forgo walk_items (fun i σ' H' => ∃ us : List Rl, TbL H' p2 us ∧ us.map (·.2) = ((rs.take i).map (·.2)).map (shiftR m) ∧ (us.map (·.1)).Nodup ∧ (∀ r ∈ us, Nn H r.1) ∧ us.length = i ∧ KeepB p2 H3 H' ∧ ∃ x5 x6, σ' = [some (.ref a), some v, some (.int m), some (.ref p), some (.ref p2), x5, x6, none, none]) ⟨[], ⟨e_p2, fun _ h => nomatch h⟩, rfl, List.nodup_nil, (fun _ h => nomatch h), rfl, KeepB.refl _ _, none, none, rfl⟩ (fun i σ' H' _ z => by
      obtain ⟨_, _, _, _, _, _, k, _⟩ := z
      exact k _ _ hf pp2) ?_ ?_
    · rintro i x σ' Ha Hb hi ⟨us, ⟨ht, hus⟩, eus, ndu, nus, lus, ka, x5, x6, rfl⟩ ⟨tt, u, v', rfl, hTn, rfl, hu, hv⟩
      obtain ⟨kv, hkv, ek⟩ := Option.map_eq_some_iff.mp hu
      have hv : (kvL rs)[i]?.map Prod.snd = some v' := hv
      rw [hkv] at hv
      have hv := Option.some.inj hv
      unfold kvL at hkv
      rw [List.getElem?_map] at hkv
      obtain ⟨r, hr, rfl⟩ := Option.map_eq_some_iff.mp hkv
      simp only [kV] at ek hv
      subst ek hv
      have sT : Same Ha (upd Ha tt (.tup [.str r.2.1, .ref r.1])) := same_new hTn
      have eT : (upd Ha tt (.tup [.str r.2.1, .ref r.1])) tt = some (.tup [.str r.2.1, .ref r.1]) := upd_same
      generalize upd Ha tt (.tup [.str r.2.1, .ref r.1]) = Hb at sT eT
      have kb := ka.trans (Same.keepB sT)
      have mr := List.mem_of_getElem? hr
      obtain ⟨ps, z1, z2⟩ := hrs r mr
      have rp2 : r.1 ≠ p2 := ne_of z1 e_p2 nofun
      have z1 := kb _ _ z1 rp2
      have z2 : RowsAt Hb ps (r.2.2.map enV) := z2.same fun b xs h => kb _ _ h (ne_of h e_p2 nofun)
      have hps : ps.length ≤ 1000 := by
        have := z2.len
        rw [List.length_map] at this
        have := hl r mr
        omega
      refine rd_gtup (sqT_of eT) rfl ?_
      walk_at "rd"
      refine rd_ilB ?_ <;> walk_at "rd"
      refine lcRow2t (es := r.2.2) (fx := fun e => V.int e.1) (fy := fun e => V.str e.2) (fun e => enV (e.1 + m, e.2)) walk_list z2 (by omega) (fun H' s => s.seq (sqL_of z1)) (fun _ _ => rfl) (fun e he H' Q' s q' => ?_) fun D ps' H4 n_D s_H4 e_D r_D => ?_
      · walk_at "rd"
        refine rd_tupB fun t2 H5 n_t2 s_H5 e_t2 => ?_ <;> walk_at "rd"
        exact q' t2 H5 s_H5 e_t2
      have ht4 := s_H4 _ _ (sT _ _ ht)
      have nin : r.2.1 ∉ us.map (·.2.1) := fun mm => by
        have e1 : us.map (·.2.1) = (rs.take i).map (·.2.1) := by
          have := congrArg (List.map (·.1)) eus
          rw [List.map_map, List.map_map, List.map_map] at this
          exact this
        rw [e1] at mm
        have nd2 := ndn
        rw [← List.take_append_drop (i + 1) rs, List.map_append, List.nodup_append] at nd2
        rw [List.take_add_one, hr, List.map_append, List.nodup_append] at nd2
        exact nd2.1.2.2 _ mm _ (List.mem_singleton_self _) rfl
      walk_at "rd"
      refine rd_dptS ht4 (by rw [kvL_len]; rw [kvL_len] at hi; omega) ?_
      rw [kvL_put (l := D) (es := r.2.2.map fun e => (e.1 + m, e.2)) nin]
      have Dp2 : D ≠ p2 := ne_of e_D ht4 nofun
      have kp : ∀ {c : Addr} {o : HO}, H4 c = some o → c ≠ p2 → upd H4 p2 (.dK (kvL (us ++ [(D, r.2.1, r.2.2.map fun e => (e.1 + m, e.2))]))) c = some o := fun h n => by rw [upd_ne n]; exact h
      have kpt : ∀ c xs, H4 c = some (.tup xs) → upd H4 p2 (.dK (kvL (us ++ [(D, r.2.1, r.2.2.map fun e => (e.1 + m, e.2))]))) c = some (.tup xs) := fun c xs h => kp h (ne_of h ht4 nofun)
      walk_at "rd"
      refine ⟨us ++ [(D, r.2.1, r.2.2.map fun e => (e.1 + m, e.2))], ⟨upd_same, fun r' hr' => ?_⟩, ?_, ?_, fun r' hr' => ?_, by rw [List.length_append]; show us.length + 1 = i + 1; omega, fun c o hc hn' => kp (s_H4 _ _ (kb _ _ hc hn')) hn', _, _, rfl⟩
      · rcases List.mem_append.mp hr' with hr' | hr'
        · obtain ⟨ps', y1, y2⟩ := hus r' hr'
          exact ⟨ps', kp (s_H4 _ _ (sT _ _ y1)) (ne_of y1 ht nofun), ((y2.keep sT).keep s_H4).same kpt⟩
        · rw [List.mem_singleton.mp hr']
          refine ⟨ps', kp e_D Dp2, ?_⟩
          show RowsAt _ ps' ((r.2.2.map fun e => (e.1 + m, e.2)).map enV)
          rw [List.map_map]
          exact r_D.same kpt
      · rw [List.map_append, eus, List.take_add_one, hr, List.map_append, List.map_append]
        rfl
      · rw [List.map_append, List.nodup_append]
        refine ⟨ndu, List.nodup_cons.mpr ⟨nofun, List.nodup_nil⟩, fun x hx y hy e' => ?_⟩
        obtain ⟨r', hr', rfl⟩ := List.mem_map.mp hx
        rw [List.mem_singleton.mp hy] at e'
        obtain ⟨ps', y1, _⟩ := hus r' hr'
        have := n_D.e
        rw [show D = r'.1 from e'.symm, sT _ _ y1] at this
        cases this
      · rcases List.mem_append.mp hr' with hr' | hr'
        · exact nus r' hr'
        · rw [List.mem_singleton.mp hr']
          exact fr kb n_D.e
    · rintro σ' Ha ⟨us, ht, eus, ndu, nus, lus, ka, x5, x6, rfl⟩
      rw [kvL_len, List.take_length, ers] at eus
      refine LkE.nx (ka _ _ hf pp2) ?_
      have s2a : Same H1 (upd Ha p (.dK (kvL rs))) := fun b o h => by
        by_cases z : b = p
        · subst z
          rw [upd_same, ← hp.1, h]
        · rw [upd_ne z]
          exact ka _ _ (k3 _ _ (s_H2 _ _ h) z) (ne_of_none h n_p2.e)
      have htz : TbL (upd Ha p (.dK (kvL rs))) p2 us := by
        have fz := ka _ _ hf pp2
        refine ⟨by rw [upd_ne pp2.symm]; exact ht.1, fun r hr => ?_⟩
        obtain ⟨ps, y1, y2⟩ := ht.2 r hr
        exact ⟨ps, by rw [upd_ne (ne_of y1 fz nofun)]; exact y1, y2.same fun b xs h => by rw [upd_ne (ne_of h fz nofun)]; exact h⟩
      generalize upd Ha p (.dK (kvL rs)) = Hz at s2a htz
      walk_at "rd"
      exact q1 hm2.1 hm2.2 p2 us Hz ⟨none_sm0 s1 n_p2.e⟩ nus ndu (s1.trans s2a) htz eus

def sp_law_cell (K : PySem.W.Frag) : Sp := fun vs H Q _ => ∃ (l : Addr) (ns : List Int) (k : Nat), vs = [.ref l, .int (k : Int)] ∧ SqL K H l (ns.map V.int) ∧ ∀ z : Int, (z ∈ ns ∨ (0 ≤ z ∧ z ≤ 15485863 * (k : Int) + 1000)) → Q (.int z) H
theorem ok_law_cell (T : Tx K mg) : FnOk P w K mg base CX0 1 T.a_law_cell T.d_law_cell ["_law_script", "_law_k"] (sp_law_cell K) := by
  refine T.F_law_cell.ok sc_law_cell (fun vs H Q E h => ?_) (fun cdv A outer s H vs Q E hr h => ?_)
  · obtain ⟨l, ns, k, rfl, _⟩ := h
    rfl
  · refine ⟨_, (pss_cons (ps_if (pt_cmpR op_lt (pv 1) (pe_callB (lenK (K := K) rfl) (by rfl) T.m_len (by decide +kernel) (pa_cons (pv 0) pa_nil)) (nomark _))
        (pss_one (ps_ret (pe_ix (ixK (K := K) rfl) (pv 0) (pv 1) (fun _ _ => rfl))))
        pss_nil)
        (pss_one (ps_ret (pe_op op_add (pe_op op_mul pe_int (pv 1)) pe_int)))), ?_⟩
    obtain ⟨l, ns, k, rfl, hS, q⟩ := h
    walk_at "rd"
    refine rd_iteD (fun hc => ?_) (fun hc => ?_)
    · rw [List.length_map] at hc
      have hk : k < ns.length := by omega
      walk_at "rd"
      refine rd_ixL hS (atI_nat (j := k) (v := .int ns[k]) ?_) ?_
      · rw [List.getElem?_map, List.getElem?_eq_getElem hk]
        rfl
      · exact q _ (.inl (List.getElem_mem hk))
    · walk_at "rd"
      walk_at "rd"
      exact q _ (.inr ⟨by omega, by omega⟩)
theorem rd_law_cell {Q : VK} {E : XK} {H : Hp} {l : Addr} {ns : List Int} {j : Int} (q : ∀ z : Int, Q (.int z) H) (hS : SqL K H l (ns.map V.int) := by walk_at "sl") (hj : 0 ≤ j := by omega) : sp_law_cell K [.ref l, .int j] H Q E := ⟨l, ns, j.toNat, by rw [Int.toNat_of_nonneg hj], hS, fun z _ => q z⟩
def sp_law_box (K : PySem.W.Frag) : Sp := fun vs H Q _ => ∃ z : Int, vs = [.int z] ∧ ∀ (p : Addr) (H' : Hp), H p = none → Same H H' → BoxAt H' p 0 → Q (.ref p) H'
theorem ok_law_box (T : Tx K mg) : FnOk P w K mg base CX0 1 T.a_law_box T.d_law_box ["_law_cell_here"] (sp_law_box K) := by
  refine T.F_law_box.ok sc_law_box (fun vs H Q E h => ?_) (fun cdv A outer s H vs Q E hr h => ?_)
  · obtain ⟨z, rfl, _⟩ := h
    rfl
  · refine ⟨_, (pss_one (ps_ret (pe_lst (pa_cons (pe_callB (max2 rfl) (by rfl) T.m_max (by decide +kernel) (pa_cons pe_int (pa_cons (pe_op op_sub (pv 0) (pe_op op_pow pe_int pe_int)) pa_nil))) (pa_cons (pe_op op_mod (pv 0) pe_int) (pa_cons pe_int pa_nil)))))), ?_⟩
    obtain ⟨z, rfl, q⟩ := h
    walk_at "rd"
    refine rd_max2 fun m hm => ?_
    walk_at "rd"
    refine rd_I (by decide) ?_
    walk_at "rd"
    refine rd_lstA (by simp) fun p H1 hp s1 e1 => ?_
    refine q p _ hp s1 ⟨_, _, _, e1, ?_, ?_, ?_, Int.le_refl _, Int.le_refl _⟩
    · omega
    · exact Int.emod_nonneg _ (by decide)
    · exact Int.emod_lt_of_pos _ (by decide)
theorem rd_law_box {Q : VK} {E : XK} {H : Hp} {z : Int} (q : ∀ (p : Addr) (H' : Hp), Nn H p → Same H H' → BoxAt H' p 0 → Q (.ref p) H') : sp_law_box K [.int z] H Q E := ⟨z, rfl, fun p H' n => q p H' ⟨n⟩⟩

theorem box_one (b c : Int) (h1 : 0 ≤ b) (h2 : b < 2147483629) (h3 : 0 ≤ c) (h4 : c ≤ 1000001) : (b + 7919 * c + 101).natAbs < 2 ^ 64 := by omega
theorem box_two (o c : Int) (h1 : 0 ≤ o) (h2 : o < 2147483647) (h3 : 0 ≤ c) (h4 : c ≤ 1000001) : (o / 8 + 104729 * c * c + 3).natAbs < 2 ^ 64 := by
  have h5 : 104729 * c * c ≤ 104729 * 1000001 * 1000001 := Int.mul_le_mul (by omega) h4 h3 (by decide)
  have h6 : 0 ≤ 104729 * c * c := Int.mul_nonneg (by omega) h3
  have h7 : (104729 : Int) * 1000001 * 1000001 = 104729209458104729 := by decide
  omega
theorem pow5 (x : Int) : CPow x 5 ↔ x.natAbs < 2 ^ 64 := ⟨fun h => h.2.2, fun h => ⟨by decide, by decide, h⟩⟩
theorem pow3 (x : Int) : CPow x 3 ↔ x.natAbs < 2 ^ 64 := ⟨fun h => h.2.2, fun h => ⟨by decide, by decide, h⟩⟩
def sp_law_take (K : PySem.W.Frag) : Sp := fun vs H Q _ => ∃ (p : Addr) (m : Int) (n : Nat), vs = [.ref p, .int m] ∧ BoxAt H p n ∧ 0 < m ∧ m < 2 ^ 200 ∧ n ≤ 1000000 ∧ ∀ (r : Int) (H' : Hp), 0 ≤ r → r < m → BoxAt H' p (n + 1) → KeepB p H H' → Q (.int r) H'
theorem rd_take {K : PySem.W.Frag} {H : Hp} {Q : VK} {E : XK} {p : Addr} {m : Int} {n : Nat} (hB : BoxAt H p n) (hm : 0 < m) (hm2 : m < 2 ^ 200) (hn : n ≤ 1000000) (q : ∀ (r : Int) (H' : Hp), 0 ≤ r → r < m → BoxAt H' p (n + 1) → KeepB p H H' → Q (.int r) H') :
    sp_law_take K [.ref p, .int m] H Q E := ⟨p, m, n, rfl, hB, hm, hm2, hn, q⟩
theorem rd_takeB {K : PySem.W.Frag} {Q : VK} {E : XK} {H : Hp} {p : Addr} {m : Int} {n : Nat} (q : ∀ (r : Int) (H' : Hp), 0 ≤ r → r < m → BoxAt H' p (n + 1) → KeepB p H H' → Q (.int r) H') (hB : BoxAt H p n := by walk_at "bx") (hm : 0 < m := by walk_at "ar") (hm2 : m ≤ 10000000000000000000000000000000000000000 := by walk_at "ar") (hn : n ≤ 1000000 := by omega) :
    sp_law_take K [.ref p, .int m] H Q E := rd_take hB hm (Int.lt_of_le_of_lt hm2 (by decide)) hn q
theorem ok_law_take (T : Tx K mg) : FnOk P w K mg base CX0 1 T.a_law_take T.d_law_take ["_law_box_here", "_law_many"] (sp_law_take K) := by
  refine T.F_law_take.ok sc_law_take (fun vs H Q E h => ?_) (fun cdv A outer s H vs Q E hr h => ?_)
  · obtain ⟨p, m, n, rfl, _⟩ := h
    rfl
  · refine ⟨_, (pss_cons (ps_if (pt_cmpR op_gt (pe_ix (ixK (K := K) rfl) (pv 0) pe_int (fun _ _ => rfl)) pe_int (nomark _))
        (pss_cons (ps_set (i := 2) sc_law_take.nd rfl (Or.inl rfl) (pe_op op_mod (pe_ix (ixK (K := K) rfl) (pv 0) pe_int (fun _ _ => rfl)) (pv 1)))
        (pss_cons (ps_asg (pe_op op_fdivW (pe_ix (ixK (K := K) rfl) (pv 0) pe_int (fun _ _ => rfl)) (pv 1)) (pg_sub (pv 0) pe_int set_list))
        (pss_one (ps_ret (pv 2)))))
        pss_nil)
        (pss_cons (ps_asg (pe_op op_add (pe_ix (ixK (K := K) rfl) (pv 0) pe_int (fun _ _ => rfl)) pe_int) (pg_sub (pv 0) pe_int set_list))
        (pss_cons (ps_set (i := 3) sc_law_take.nd rfl (Or.inl rfl) (pe_op op_mod (pe_op op_pow (pe_op op_add (pe_op op_add (pe_ix (ixK (K := K) rfl) (pv 0) pe_int (fun _ _ => rfl)) (pe_op op_mul pe_int (pe_ix (ixK (K := K) rfl) (pv 0) pe_int (fun _ _ => rfl)))) pe_int) pe_int) pe_int))
        (pss_cons (ps_set (i := 4) sc_law_take.nd rfl (Or.inl rfl) (pe_op op_mod (pe_op op_pow (pe_op op_add (pe_op op_add (pe_op op_fdivW (pv 3) pe_int) (pe_op op_mul pe_int (pe_ix (ixK (K := K) rfl) (pv 0) pe_int (fun _ _ => rfl)))) pe_int) pe_int) pe_int))
        (pss_one (ps_ret (pe_op op_mod (pe_op op_add (pe_op op_fdivW (pv 3) pe_int) (pe_op op_mul pe_int (pe_op op_fdivW (pv 4) pe_int))) (pv 1)))))))), ?_⟩
    obtain ⟨p, m, n, rfl, ⟨a, b, c, hp, ha, hb, hb2, hc, hc2⟩, hm, hm2, hn, q⟩ := h
    walk_at "rd"
    refine rd_iteD (fun h0 => ?_) (fun h0 => ?_)
    · walk_at "rd"
      refine rd_I hm ?_
      walk_at "rd"
      refine rd_I ⟨hm, log2_small hm hm2⟩ ?_
      walk_at "rd"
      refine rd_setL hp (j := 0) rfl ?_
      walk_at "rd"
      refine q _ _ (Int.emod_nonneg _ (by omega)) (Int.emod_lt_of_pos _ hm) ⟨_, _, _, upd_same, Int.ediv_nonneg ha (by omega), hb, hb2, hc, by omega⟩ keepB_upd
    · walk_at "rd"
      refine rd_setL hp (j := 2) rfl ?_
      have hp2 : (upd H p (.lst ([V.int a, .int b, .int c].set 2 (.int (c + 1))))) p = some (.lst [V.int a, .int b, .int (c + 1)]) := upd_same
      have hk : KeepB p H (upd H p (.lst ([V.int a, .int b, .int c].set 2 (.int (c + 1))))) := keepB_upd
      generalize (upd H p (.lst ([V.int a, .int b, .int c].set 2 (.int (c + 1))))) = H2 at hp2 hk
      walk_at "rd"
      refine rd_I ((pow5 _).mpr (by omega)) ?_
      walk_at "rd"
      refine rd_modA (by decide) fun one h1 h2 => ?_
      walk_at "rd"
      refine rd_I ((pow3 _).mpr (by omega)) ?_
      walk_at "rd"
      refine rd_modA (by decide) fun other h3 h4 => ?_
      walk_at "rd"
      refine rd_modA hm fun r h5 h6 => ?_
      walk_at "rd"
      exact q r H2 h5 h6 ⟨_, _, _, hp2, ha, hb, hb2, by omega, by omega⟩ hk
def sp_law_names (K : PySem.W.Frag) : Sp := fun vs H Q _ => ∃ (p : Addr) (n m : Nat), vs = [.ref p, .int (m : Int)] ∧ BoxAt H p n ∧ n ≤ 90000 ∧ m ≤ 13 ∧
  ∀ (l : Addr) (ys : List Str) H', BoxAt H' p (n + 20) → KeepB p H H' → Nn H l → l ≠ p → H' l = some (.lst (ys.map V.str)) → ys.length = m → (∀ y ∈ ys, nameS y = true) → ys.Nodup → Q (.ref l) H'
theorem lcgo_rngH {σ : L2.St} {Q : VK} {te : TE} {vs : List Nat} {k : Nat} {f : Nat → V} {n : Nat} {H : Hp} (hz : n ≤ 100000) (hw : ∀ x, wipe ((wipe σ vs).set k (some x)) vs = wipe σ vs)
    (he : ∀ (i : Nat) (Q' : VK), i < n → Q' (f i) H → te ((wipe σ vs).set k (some (.int i))) H Q')
    (hq : ∀ D, H D = none → Q (.ref D) (upd H D (.lst ((List.range n).map f)))) : LcGo (Itr 0 n) (gName k) tYes (tFrm te) vs σ H Q := by
  refine lcgoF walk_range hz (fun i x => x = .int (i : Nat)) (fun i H x H' _ _ y => ⟨y.1, y.2.trans (congrArg V.int (Int.zero_add _))⟩) hw (fun i acc H' => H' = H ∧ acc = (List.range i).map f) ⟨rfl, rfl⟩ (fun _ _ _ _ _ _ _ => trivial) ?_ ?_
  · rintro i x acc H' Qc hin hla ⟨rfl, ha⟩ rfl hq'
    refine he i _ hin (hq' _ _ ⟨rfl, ?_⟩)
    rw [List.range_succ, List.map_append, ← ha]
    rfl
  · rintro acc H' D hla ⟨rfl, ha⟩ hD
    subst ha
    exact hq D hD
def wordsW : List Str := ["begin", "ports", "channel", "breaker", "ship", "a", "ab", "abc", "none", "port", "train", "hour", "ice"].map Str.ofString
theorem words_split : Txt.split (Str.ofString "begin ports channel breaker ship a ab abc none port train hour ice") (Str.ofString " ") = wordsW := by decide +kernel
theorem words_n : ∀ y ∈ wordsW, nameS y = true := by decide +kernel
theorem words_d : wordsW.Nodup := by decide +kernel
theorem words_l : wordsW.length = 13 := rfl
theorem ok_law_names (T : Tx K mg) : FnOk P w K mg base CX0 2 T.a_law_names T.d_law_names ["_law_box_here", "_law_many"] (sp_law_names K) := by
  refine T.F_law_names.ok sc_law_names (fun vs H Q E h => ?_) (fun cdv A outer s H vs Q E hr h => ?_)
  · obtain ⟨p, n, m, rfl, _⟩ := h
    rfl
  · refine ⟨_, (pss_cons (ps_set (i := 2) sc_law_names.nd rfl (Or.inr rfl) pe_str)
        (pss_cons (ps_set (i := 3) sc_law_names.nd rfl (Or.inl rfl) (pe_call (ok_law_take T) (hr.mono (by decide)) (by rfl) T.g_law_take T.F_law_take.kp T.b_law_take .nil pass0 (pa_cons (pv 0) (pa_cons pe_int pa_nil))))
        (pss_cons (ps_set (i := 4) sc_law_names.nd rfl (Or.inr rfl) (pe_call (ok_law_take T) (hr.mono (by decide)) (by rfl) T.g_law_take T.F_law_take.kp T.b_law_take .nil pass0 (pa_cons (pv 0) (pa_cons pe_int pa_nil))))
        (pss_cons (ps_set (i := 5) sc_law_names.nd rfl (Or.inr rfl) (pe_ix (ixLK (K := K) rfl) (pe_lst (pa_cons pe_int (pa_cons pe_int (pa_cons pe_int (pa_cons pe_int (pa_cons pe_int (pa_cons pe_int pa_nil))))))) (pe_call (ok_law_take T) (hr.mono (by decide)) (by rfl) T.g_law_take T.F_law_take.kp T.b_law_take .nil pass0 (pa_cons (pv 0) (pa_cons pe_int pa_nil))) (fun _ _ => rfl)))
        (pss_cons (ps_if (pt_cmpR op_eq (pv 3) pe_int (nomark _))
        (pss_cons (ps_set (i := 6) sc_law_names.nd rfl (Or.inr rfl) (pe_split pe_str pe_str))
        (pss_one (ps_ret (pe_lc (own := [("_law_k", 11)]) (g := gName 11) (tt := tYes) rfl sc_law_names.nd (pi_range1 (by rfl) T.m_range (pa_cons (pv 1) pa_nil)) (blkOk_by (own := [("_law_k", 11)]) (N := N_law_names) (sc := defScope s_law_names) (by decide +kernel)) (fun _ _ _ _ _ => (pg_name (i := 11) sc_law_names.nd rfl (Or.inl rfl))) (fun _ _ _ _ _ => pts_nil) (fun _ _ _ _ _ => (pe_frm (pe_ix (ixLK (K := K) rfl) (pv 6) (pe_op op_mod (pe_op op_add (pv 4) (pe_op op_mul (pv 5) (pv 11))) pe_int) (fun _ _ => rfl))))))))
        pss_nil)
        (pss_cons (ps_set (i := 7) sc_law_names.nd rfl (Or.inr rfl) (pe_joinK (K := K) rfl pe_str (pe_lc (own := [("_law_k", 11)]) (g := gName 11) (tt := tYes) rfl sc_law_names.nd (pi_range1 (by rfl) T.m_range (pa_cons pe_int pa_nil)) (blkOk_by (own := [("_law_k", 11)]) (N := N_law_names) (sc := defScope s_law_names) (by decide +kernel)) (fun _ _ _ _ _ => (pg_name (i := 11) sc_law_names.nd rfl (Or.inl rfl))) (fun _ _ _ _ _ => pts_nil) (fun _ _ _ _ _ => (pe_frm (pe_ix ix_str (pv 2) (pe_call (ok_law_take T) (hr.mono (by decide)) (by rfl) T.g_law_take T.F_law_take.kp T.b_law_take .nil pass0 (pa_cons (pv 0) (pa_cons pe_int pa_nil))) (fun _ _ => rfl)))))))
        (pss_cons (ps_if (pt_cmpR op_eq (pv 3) pe_int (nomark _))
        (pss_cons (ps_setLc (i := 8) (own := [("_law_k", 11)]) (g := gName 11) (tt := tYes) rfl sc_law_names.nd rfl rfl (sw_true rfl rfl rfl (by decide +kernel)) (pi_range1 (by rfl) T.m_range (pa_cons (pv 1) pa_nil)) (blkOk_by (own := [("_law_k", 11)]) (N := N_law_names) (sc := defScope s_law_names) (by decide +kernel)) (fun _ _ _ _ _ => (pg_name (i := 11) sc_law_names.nd rfl (Or.inl rfl))) (fun _ _ _ _ _ => pts_nil) (fun _ _ _ _ _ => (pe_frm (pe_op addS (pe_ix ix_str (pv 2) (pe_op op_mod (pe_op op_add (pv 4) (pe_op op_fdivW (pv 11) pe_int)) pe_int) (fun _ _ => rfl)) (pe_slice sl_str (pv 7) po_none (po_some (pe_op op_mod (pv 11) pe_int)))))))
        (pss_cons (ps_set (i := 9) sc_law_names.nd rfl (Or.inr rfl) (pe_call (ok_law_take T) (hr.mono (by decide)) (by rfl) T.g_law_take T.F_law_take.kp T.b_law_take .nil pass0 (pa_cons (pv 0) (pa_cons (pe_op op_add (pv 1) pe_int) pa_nil))))
        (pss_one (ps_ret (pe_op op_cat (pe_slice (slLK (K := K) rfl) (pv 8) (po_some (pv 9)) po_none) (pe_revLK (K := K) rfl (pe_slice (slLK (K := K) rfl) (pv 8) po_none (po_some (pv 9)))))))))
        pss_nil)
        (pss_cons (ps_set (i := 9) sc_law_names.nd rfl (Or.inr rfl) (pe_call (ok_law_take T) (hr.mono (by decide)) (by rfl) T.g_law_take T.F_law_take.kp T.b_law_take .nil pass0 (pa_cons (pv 0) (pa_cons pe_int pa_nil))))
        (pss_cons (ps_set (i := 10) sc_law_names.nd rfl (Or.inr rfl) (pe_callB (max2 rfl) (by rfl) T.m_max (by decide +kernel) (pa_cons (pv 9) (pa_cons (pe_call (ok_law_take T) (hr.mono (by decide)) (by rfl) T.g_law_take T.F_law_take.kp T.b_law_take .nil pass0 (pa_cons (pv 0) (pa_cons pe_int pa_nil))) pa_nil))))
        (pss_one (ps_ret (pe_lc (own := [("_law_k", 11)]) (g := gName 11) (tt := tYes) rfl sc_law_names.nd (pi_range1 (by rfl) T.m_range (pa_cons (pv 1) pa_nil)) (blkOk_by (own := [("_law_k", 11)]) (N := N_law_names) (sc := defScope s_law_names) (by decide +kernel)) (fun _ _ _ _ _ => (pg_name (i := 11) sc_law_names.nd rfl (Or.inl rfl))) (fun _ _ _ _ _ => pts_nil) (fun _ _ _ _ _ => (pe_frm (pe_op addS (pe_op addS (pe_slice sl_str (pv 7) po_none (po_some (pv 9))) (pe_ix ix_str (pv 2) (pe_op op_mod (pe_op op_add (pv 4) (pe_op op_mul (pv 5) (pv 11))) pe_int) (fun _ _ => rfl))) (pe_slice sl_str (pv 7) (po_some (pv 9)) (po_some (pv 10)))))))))))))))))), ?_⟩
    obtain ⟨p, n, m, rfl, hB, hn, hm, q⟩ := h
    walk_at "rd"
    refine rd_takeB fun way H1 way_0 way_1 b_H1 k_H1 => ?_ <;> walk_at "rd"
    refine rd_takeB fun first H2 first_0 first_1 b_H2 k_H2 => ?_ <;> walk_at "rd"
    refine rd_lstB fun l2 H3 n_l2 s_H3 e_l2 => ?_ <;> walk_at "rd"
    refine rd_takeB fun r3 H4 r3_0 r3_1 b_H4 k_H4 => ?_ <;> walk_at "rd"
    refine rd_ixAny1 (xs := [_, _, _, _, _, _]) (sqL_of (k_H4 _ _ e_l2 (b_H2.ne n_l2.e))) r3_0 (by simpa using r3_1) fun v hv => ?_
    obtain ⟨step, rfl, hst⟩ : ∃ step : Int, v = .int step ∧ (step = 1 ∨ step = 3 ∨ step = 5 ∨ step = 7 ∨ step = 9 ∨ step = 11) := by
      simp only [List.mem_cons, List.not_mem_nil, or_false] at hv
      rcases hv with rfl | rfl | rfl | rfl | rfl | rfl <;> exact ⟨_, rfl, by omega⟩
    have k04 : KeepB p H H4 := ((k_H1.trans k_H2).trans (Same.keepB s_H3)).trans k_H4
    obtain ⟨fn, rfl⟩ : ∃ fn : Nat, first = (fn : Int) := ⟨first.toNat, by omega⟩
    obtain ⟨sn, hsn⟩ : ∃ sn : Nat, step = (sn : Int) := ⟨step.toNat, by omega⟩
    subst hsn
    have hfl : fn < 26 := by omega
    walk_at "rd"
    refine rd_iteD (fun c1 => ?_) (fun c1 => ?_) <;> walk_at "rd"
    · walk_at "rd"
      refine rd_split (by decide +kernel) (by decide +kernel) fun lw H5 n_lw s_H5 e_lw => ?_
      rw [words_split] at e_lw
      walk_at "rd"
      refine rd_r1 (by omega) (by omega) ?_
      let f : Nat → Str := fun i => wordsW[(fn + sn * i) % 13]'(by rw [words_l]; exact Nat.mod_lt _ (by decide))
      refine lcgo_rngH (f := fun i => .str (f i)) (by omega) (fun _ => rfl) (fun i Q' hi q' => ?_) (fun D hD => ?_)
      · walk_at "rd"
        refine rd_I (.inr ⟨by omega, by omega⟩) ?_
        walk_at "rd"
        refine rd_I (show (0 : Int) < 13 by decide) ?_
        have e : ((fn : Int) + (sn : Int) * (i : Int)) % 13 = (((fn + sn * i) % 13 : Nat) : Int) := by
          rw [Int.natCast_emod, Int.natCast_add, Int.natCast_mul]
          rfl
        rw [e]
        refine rd_ixL1 (xs := wordsW.map V.str) (sqL_of e_lw) (atI_nat (v := .str (f i)) ?_) q'
        rw [List.getElem?_map, List.getElem?_eq_getElem (by rw [words_l]; exact Nat.mod_lt _ (by decide))]
        rfl
      · refine q D ((List.range m).map f) _ (((b_H4.keep s_H5).mono (by omega)).new ((b_H4.keep s_H5).ne hD).symm) ((k04.trans (Same.keepB s_H5)).trans (Same.keepB (same_new hD))) ⟨kb_free (k04.trans (Same.keepB s_H5)) (b_H4.keep s_H5) hD⟩ ((b_H4.keep s_H5).ne hD) ?_ (by rw [List.length_map, List.length_range]) (fun y hy => ?_) (nodup_map fun i j hi hj hij e => ?_)
        · rw [upd_same, List.map_map, Int.toNat_natCast]
          rfl
        · obtain ⟨i, hi, rfl⟩ := List.mem_map.mp hy
          exact words_n _ (List.getElem_mem _)
        · have e2 := (List.getElem_inj words_d).mp e
          have hst' : sn = 1 ∨ sn = 3 ∨ sn = 5 ∨ sn = 7 ∨ sn = 9 ∨ sn = 11 := by omega
          rcases hst' with rfl | rfl | rfl | rfl | rfl | rfl <;> omega
    · walk_at "rd"
      refine rd_r1 (by omega) (by omega) ?_
      refine lcgoF walk_range (by omega) (fun i x => True) (fun i H x H' _ _ y => ⟨y.1, trivial⟩) (fun _ => rfl) (fun i acc H' => BoxAt H' p (n + 3 + i) ∧ KeepB p H4 H' ∧ ∃ cs : List Nat, acc = (cs.map sg).map V.str ∧ ∀ c ∈ cs, isLet c = true) ⟨b_H4, KeepB.refl p H4, [], rfl, fun _ h => nomatch h⟩ (fun _ _ _ _ _ _ _ => trivial) ?_ ?_
      · rintro i x acc Ha Qc hi hla ⟨hBa, ka, cs, rfl, hcs⟩ - hq
        walk_at "rd"
        refine rd_take hBa (by decide) (by decide) (by omega) fun r Hc r0 r1 hBc kc => ?_
        refine rd_ixSany (by decide +kernel) r0 (by rw [lett_len]; exact r1) fun c hc => ?_
        refine hq _ _ ⟨hBc, ka.trans kc, cs ++ [c], by rw [List.map_append, List.map_append]; rfl, fun y hy => ?_⟩
        rcases List.mem_append.mp hy with hy | hy
        · exact hcs y hy
        · rw [List.mem_singleton.mp hy, ← isLet_in]
          exact decide_eq_true hc
      rintro acc H7' D hla ⟨hB7, k7, cs, rfl, hcs⟩ hD
      have hB7 := hB7.new (o := .lst ((cs.map sg).map V.str)) (hB7.ne hD).symm
      have k7 : KeepB p H4 (upd H7' D (.lst ((cs.map sg).map V.str))) := k7.trans (Same.keepB (same_new hD))
      have hD7 : (upd H7' D (.lst ((cs.map sg).map V.str))) D = some (.lst ((cs.map sg).map V.str)) := upd_same
      generalize upd H7' D (.lst ((cs.map sg).map V.str)) = H7 at hB7 k7 hD7
      rw [List.length_map, List.length_map] at hla
      have hla : cs.length = 7 := hla
      refine rd_join1 (sqL_of hD7) (fun y hy => ?_) (by rw [List.length_map]; omega) fun z hz hz2 => ?_
      · obtain ⟨c, _, rfl⟩ := List.mem_map.mp hy
        rfl
      have hzl : z.cps.toList = cs := by rw [hz, join_sg]
      have hzn : z.length = 7 := by rw [len_list, hzl, hla]
      have bH7 : BoxAt H7 p (n + 10) := hB7.mono (by show n + 3 + 7 ≤ n + 10; omega)
      have k07 := k04.trans k7
      clear hB7 hD7
      walk_at "rd"
      refine rd_iteD (fun c2 => ?_) (fun c2 => ?_) <;> walk_at "rd"
      · walk_at "rd"
        refine rd_r1 (by omega) (by omega) ?_
        let f : Nat → Str := fun i => sg (97 + (fn + i / 8) % 26) ++ cutS z none (some ((i % 8 : Nat) : Int))
        have fl : ∀ i, (f i).cps.toList = (97 + (fn + i / 8) % 26) :: cs.take (i % 8) := fun i => by
          show (sg (97 + (fn + i / 8) % 26) ++ cutS z none (some ((i % 8 : Nat) : Int))).cps.toList = _
          rw [toList_app, cut_to, hzl]
          rfl
        have fn' : ∀ i, (f i).cps.toList.length = 1 + i % 8 := fun i => by
          rw [fl, List.length_cons, List.length_take, hla]
          omega
        refine lcgo_rngH (f := fun i => .str (f i)) (by omega) (fun _ => rfl) (fun i Q' hi q' => ?_) (fun D hD => ?_)
        · walk_at "rd"
          refine rd_I (show (0 : Int) < 26 by decide) ?_
          have e : ((fn : Int) + (i : Int) / 8) % 26 = (((fn + i / 8) % 26 : Nat) : Int) := by omega
          rw [e]
          refine rd_ixS1 (by decide +kernel) (lett_at (Nat.mod_lt _ (by decide))) ?_
          walk_at "rd"
          refine rd_I (show (0 : Int) < 8 by decide) ?_
          have e2 : (i : Int) % 8 = ((i % 8 : Nat) : Int) := by omega
          rw [e2]
          walk_at "rd"
          have l1 := cutS_length z none (some ((i % 8 : Nat) : Int))
          refine rd_addS (a := sg (97 + (fn + i / 8) % 26)) (b := cutS z none (some ((i % 8 : Nat) : Int))) (by show 1 + (cutS z none (some ((i % 8 : Nat) : Int))).length ≤ 100000; omega) ?_
          exact q'
        have ff : ∀ y ∈ (List.range m).map f, nameS y = true := fun y hy => by
          obtain ⟨i, hi, rfl⟩ := List.mem_map.mp hy
          have := fn' i
          refine name_of (by omega) (by omega) fun c hc => ?_
          rw [fl] at hc
          rcases List.mem_cons.mp hc with rfl | hc
          · exact isLet_at _ (Nat.mod_lt _ (by decide))
          · exact hcs c (List.mem_of_mem_take hc)
        have fd : ((List.range m).map f).Nodup := nodup_map fun i j hi hj hij e => by
          have e1 := fn' i
          have e2 := fn' j
          have e3 := fl i
          have e4 := fl j
          rw [e] at e1 e3
          have e5 := List.head_eq_of_cons_eq (e3.symm.trans e4)
          omega
        have sD := same_new (o := .lst ((List.range m).map fun i => V.str (f i))) hD
        have eD : (upd H7 D (.lst ((List.range m).map fun i => V.str (f i)))) D = some (.lst (((List.range m).map f).map V.str)) := by rw [upd_same, List.map_map]; rfl
        have nD : D ≠ p := bH7.ne hD
        have bD := bH7.keep sD
        rw [show (m : Int).toNat = m from Int.toNat_natCast m] at *
        generalize upd H7 D (.lst ((List.range m).map fun i => V.str (f i))) = H8 at sD eD bD
        have lfs : ((List.range m).map f).length = m := by rw [List.length_map, List.length_range]
        generalize (List.range m).map f = fs at ff fd eD lfs
        walk_at "rd"
        refine rd_take bD (by omega) (by omega) (by omega) fun a1 H9 a1_0 a1_1 b_H9 k_H9 => ?_
        walk_at "rd"
        obtain ⟨an, rfl⟩ : ∃ an : Nat, a1 = (an : Int) := ⟨a1.toNat, by omega⟩
        have eD9 := k_H9 _ _ eD nD
        refine rd_slL (sqL_of eD9) fun p1 Ha n_p1 s_Ha e_p1 => ?_
        rw [cutV_from] at e_p1
        walk_at "rd"
        refine rd_slL (sqL_of (s_Ha _ _ eD9)) fun p2 Hb n_p2 s_Hb e_p2 => ?_
        rw [cutV_to] at e_p2
        walk_at "rd"
        refine rd_revB (fun p3 Hc n_p3 s_Hc e_p3 => ?_) (sqL_of e_p2)
        walk_at "rd"
        refine rd_catB (fun l Hd n_l s_Hd e_l => ?_) (s_Hc _ _ (s_Hb _ _ e_p1)) e_p3 (by rw [List.length_drop, List.length_reverse, List.length_take, List.length_map]; omega)
        have k0c : KeepB p H Hc := ((k07.trans (Same.keepB sD)).trans k_H9).trans (Same.keepB ((s_Ha.trans s_Hb).trans s_Hc))
        have bHc : BoxAt Hc p (n + 10 + 1) := ((b_H9.keep s_Ha).keep s_Hb).keep s_Hc
        have pm : (fs.drop an ++ (fs.take an).reverse).Perm fs := by
          refine (List.Perm.append_left _ (List.reverse_perm _)).trans (List.perm_append_comm.trans ?_)
          rw [List.take_append_drop]
        refine q l (fs.drop an ++ (fs.take an).reverse) Hd ((bHc.keep s_Hd).mono (by omega)) (k0c.trans (Same.keepB s_Hd)) ⟨kb_free k0c bHc n_l.e⟩ (bHc.ne n_l.e) ?_ (by rw [pm.length_eq, lfs]) (fun y hy => ff y (pm.mem_iff.mp hy)) (pm.nodup_iff.mpr fd)
        rw [e_l, List.map_append, List.map_reverse, List.map_drop, List.map_take]
      · walk_at "rd"
        refine rd_takeB fun a1 H8 a1_0 a1_1 b_H8 k_H8 => ?_ <;> walk_at "rd"
        refine rd_takeB fun r9 H9 r9_0 r9_1 b_H9 k_H9 => ?_ <;> walk_at "rd"
        refine rd_max2 fun lg hlg => ?_ <;> walk_at "rd"
        obtain ⟨an, rfl⟩ : ∃ an : Nat, a1 = (an : Int) := ⟨a1.toNat, by omega⟩
        obtain ⟨ln, rfl⟩ : ∃ ln : Nat, lg = (ln : Int) := ⟨lg.toNat, by omega⟩
        have h1 : an ≤ ln := by omega
        have h2 : ln ≤ 7 := by omega
        refine rd_r1 (by omega) (by omega) ?_
        let f : Nat → Str := fun i => (cutS z none (some (an : Int)) ++ sg (97 + (fn + sn * i) % 26)) ++ cutS z (some (an : Int)) (some (ln : Int))
        have fl : ∀ i, (f i).cps.toList = (cs.take an ++ [97 + (fn + sn * i) % 26]) ++ (cs.take ln).drop an := fun i => by
          show ((cutS z none (some (an : Int)) ++ sg (97 + (fn + sn * i) % 26)) ++ cutS z (some (an : Int)) (some (ln : Int))).cps.toList = _
          rw [toList_app, toList_app, cut_to, cut_ft, hzl]
          rfl
        have fn' : ∀ i, (f i).cps.toList.length = 1 + ln := fun i => by
          rw [fl, List.length_append, List.length_append, List.length_drop, List.length_take, List.length_take, hla]
          show min an 7 + 1 + (min ln 7 - an) = _
          omega
        have k09 := (k07.trans k_H8).trans k_H9
        refine lcgo_rngH (f := fun i => .str (f i)) (by omega) (fun _ => rfl) (fun i Q' hi q' => ?_) (fun D hD => ?_)
        · walk_at "rd"
          refine rd_I (.inr ⟨by omega, by omega⟩) ?_
          walk_at "rd"
          refine rd_I (show (0 : Int) < 26 by decide) ?_
          have e : ((fn : Int) + (sn : Int) * (i : Int)) % 26 = (((fn + sn * i) % 26 : Nat) : Int) := by
            rw [Int.natCast_emod, Int.natCast_add, Int.natCast_mul]
            rfl
          rw [e]
          refine rd_ixS1 (by decide +kernel) (lett_at (Nat.mod_lt _ (by decide))) ?_
          have l1 := cutS_length z none (some (an : Int))
          have l2 := cutS_length z (some (an : Int)) (some (ln : Int))
          refine rd_addS (a := cutS z none (some (an : Int))) (b := sg (97 + (fn + sn * i) % 26)) (by show (cutS z none (some (an : Int))).length + 1 ≤ 100000; omega) ?_
          walk_at "rd"
          refine rd_addS (a := cutS z none (some (an : Int)) ++ sg (97 + (fn + sn * i) % 26)) (by rw [PySem.Str.length_append]; show (cutS z none (some (an : Int))).length + 1 + (cutS z (some (an : Int)) (some (ln : Int))).length ≤ 100000; omega) ?_
          exact q'
        · refine q D ((List.range m).map f) _ ((b_H9.mono (by omega)).new (b_H9.ne hD).symm) (k09.trans (Same.keepB (same_new hD))) ⟨kb_free k09 b_H9 hD⟩ (b_H9.ne hD) ?_ (by rw [List.length_map, List.length_range]) (fun y hy => ?_) (nodup_map fun i j hi hj hij e => ?_)
          · rw [upd_same, List.map_map, Int.toNat_natCast]
            rfl
          · obtain ⟨i, hi, rfl⟩ := List.mem_map.mp hy
            have := fn' i
            refine name_of (by omega) (by omega) fun c hc => ?_
            rw [fl] at hc
            rcases List.mem_append.mp hc with hc | hc
            · rcases List.mem_append.mp hc with hc | hc
              · exact hcs c (List.mem_of_mem_take hc)
              · rw [List.mem_singleton.mp hc]
                exact isLet_at _ (Nat.mod_lt _ (by decide))
            · exact hcs c (List.mem_of_mem_take (List.mem_of_mem_drop hc))
          · have e1 := fl i
            have e2 := fl j
            rw [e, e2, List.append_cancel_right_eq, List.append_cancel_left_eq] at e1
            have e3 : (fn + sn * j) % 26 = (fn + sn * i) % 26 := by
              have := List.head_eq_of_cons_eq e1
              omega
            have hst' : sn = 1 ∨ sn = 3 ∨ sn = 5 ∨ sn = 7 ∨ sn = 9 ∨ sn = 11 := by omega
            rcases hst' with rfl | rfl | rfl | rfl | rfl | rfl <;> omega
def sp_law_number (K : PySem.W.Frag) : Sp := fun vs H Q _ => ∃ (p : Addr) (n : Nat) (lo hi : Int), vs = [.ref p, .int lo, .int hi] ∧ BoxAt H p n ∧ n ≤ 100000 ∧ 0 ≤ lo ∧ lo ≤ hi ∧ hi ≤ 1000000000000000000 ∧
  ∀ r H', lo ≤ r → r ≤ hi → BoxAt H' p (n + 2) → KeepB p H H' → Q (.int r) H'
theorem ok_law_number (T : Tx K mg) : FnOk P w K mg base CX0 2 T.a_law_number T.d_law_number ["_law_box_here", "_law_low", "_law_high"] (sp_law_number K) := by
  refine T.F_law_number.ok sc_law_number (fun vs H Q E h => ?_) (fun cdv A outer s H vs Q E hr h => ?_)
  · obtain ⟨p, n, lo, hi, rfl, _⟩ := h
    rfl
  · refine ⟨_, (pss_cons (ps_set (i := 3) sc_law_number.nd rfl (Or.inl rfl) (pe_call (ok_law_take T) (hr.mono (by decide)) (by rfl) T.g_law_take T.F_law_take.kp T.b_law_take .nil pass0 (pa_cons (pv 0) (pa_cons pe_int pa_nil))))
        (pss_cons (ps_set (i := 4) sc_law_number.nd rfl (Or.inl rfl) (pe_op op_add (pv 1) (pe_call (ok_law_take T) (hr.mono (by decide)) (by rfl) T.g_law_take T.F_law_take.kp T.b_law_take .nil pass0 (pa_cons (pv 0) (pa_cons (pe_op op_add (pe_op op_sub (pv 2) (pv 1)) pe_int) pa_nil)))))
        (pss_one (ps_ret (pe_ix (ixLK (K := K) rfl) (pe_lst (pa_cons (pv 1) (pa_cons (pv 2) (pa_cons (pv 4) (pa_cons (pv 4) (pa_cons (pe_op op_add (pv 1) (pe_op op_mod (pe_op op_mod (pe_op op_sub (pv 4) (pv 1)) pe_int) (pe_op op_add (pe_op op_sub (pv 2) (pv 1)) pe_int))) pa_nil)))))) (pv 3) (fun _ _ => rfl)))))), ?_⟩
    obtain ⟨p, n, lo, hi, rfl, hB, hn, h0, h1, h2, q⟩ := h
    walk_at "rd"
    refine rd_takeB fun w H1 w_0 w_1 b_H1 k_H1 => ?_ <;> walk_at "rd"
    refine rd_takeB fun x H2 x_0 x_1 b_H2 k_H2 => ?_ <;> walk_at "rd"
    refine rd_modA (by decide) fun r3 r3_0 r3_1 => ?_ <;> walk_at "rd"
    refine rd_modA (by omega) fun r4 r4_0 r4_1 => ?_ <;> walk_at "rd"
    refine rd_lstB fun l H3 n_l s_H3 e_l => ?_ <;> walk_at "rd"
    refine rd_ixAny1 (xs := [_, _, _, _, _]) (sqL_of e_l) w_0 (by simpa using w_1) fun v hv => ?_
    obtain ⟨r, rfl, a0, a1⟩ : ∃ r : Int, v = .int r ∧ lo ≤ r ∧ r ≤ hi := by
      simp only [List.mem_cons, List.not_mem_nil, or_false] at hv
      rcases hv with rfl | rfl | rfl | rfl | rfl <;> exact ⟨_, rfl, by omega, by omega⟩
    exact q r H3 a0 a1 (b_H2.keep s_H3) ((k_H1.trans k_H2).trans (Same.keepB s_H3))
theorem rd_number {K : PySem.W.Frag} {Q : VK} {E : XK} {H : Hp} {p : Addr} {n : Nat} {lo hi : Int} (q : ∀ r H', lo ≤ r → r ≤ hi → BoxAt H' p (n + 2) → KeepB p H H' → Q (.int r) H') (hB : BoxAt H p n := by walk_at "bx") (hn : n ≤ 100000 := by omega) (h0 : 0 ≤ lo := by walk_at "ar") (h1 : lo ≤ hi := by walk_at "ar") (h2 : hi ≤ 1000000000000000000 := by walk_at "ar") :
    sp_law_number K [.ref p, .int lo, .int hi] H Q E := ⟨p, n, lo, hi, rfl, hB, hn, h0, h1, h2, q⟩
theorem atI_strs {ys : List Str} {k : Int} (h0 : 0 ≤ k) (h1 : k < (ys.length : Int)) : ∃ z, z ∈ ys ∧ ys[k.toNat]? = some z ∧ atI (ys.map V.str) k = some (.str z) := by
  obtain ⟨j, rfl⟩ : ∃ j : Nat, k = (j : Int) := ⟨k.toNat, by omega⟩
  have hj : j < ys.length := by omega
  have e := List.getElem?_eq_getElem hj
  refine ⟨ys[j], List.getElem_mem hj, by rw [Int.toNat_natCast]; exact e, atI_nat ?_⟩
  rw [List.getElem?_map, e]
  rfl
theorem nodup_ne {ys : List Str} (nd : ys.Nodup) {i j : Nat} {a b : Str} (h1 : ys[i]? = some a) (h2 : ys[j]? = some b) (n : i ≠ j) : a ≠ b := fun e => by
  obtain ⟨l1, e1⟩ := List.getElem?_eq_some_iff.mp h1
  obtain ⟨l2, e2⟩ := List.getElem?_eq_some_iff.mp h2
  exact n ((List.getElem_inj nd).mp (e1.trans (e.trans e2.symm)))
theorem emod_cases {a m : Int} (h0 : 0 ≤ a) (hm : 0 < m) (h : a < 2 * m) : a % m = a ∨ a % m = a - m := by
  by_cases c : a < m
  · exact .inl (Int.emod_eq_of_lt h0 c)
  · right
    rw [← Int.sub_emod_right, Int.emod_eq_of_lt (by omega) (by omega)]
def sp_law_channel (K : PySem.W.Frag) : Sp := fun vs H Q _ => ∃ (p l : Addr) (n : Nat) (nm : Str) (ys : List Str), vs = [.ref p, .str nm, .ref l] ∧ BoxAt H p n ∧ n ≤ 90000 ∧ l ≠ p ∧ H l = some (.lst (ys.map V.str)) ∧ 2 ≤ ys.length ∧ ys.length ≤ 26 ∧ ys.Nodup ∧
  ∀ (c : Ch) (t : Addr) H', c.name = nm → c.one ∈ ys → c.other ∈ ys → c.one ≠ c.other → chOk c → BoxAt H' p (n + 15) → KeepB p H H' → H' t = some (.tup (chV c)) → Q (.ref t) H'
theorem ok_law_channel (T : Tx K mg) : FnOk P w K mg base CX0 3 T.a_law_channel T.d_law_channel ["_law_box_here", "_law_name", "_law_ports"] (sp_law_channel K) := by
  refine T.F_law_channel.ok sc_law_channel (fun vs H Q E h => ?_) (fun cdv A outer s H vs Q E hr h => ?_)
  · obtain ⟨p, l, n, nm, ys, rfl, _⟩ := h
    rfl
  · refine ⟨_, (pss_cons (ps_set (i := 3) sc_law_channel.nd rfl (Or.inl rfl) (pe_call (ok_law_take T) (hr.mono (by decide)) (by rfl) T.g_law_take T.F_law_take.kp T.b_law_take .nil pass0 (pa_cons (pv 0) (pa_cons (pe_callB (lenK (K := K) rfl) (by rfl) T.m_len (by decide +kernel) (pa_cons (pv 2) pa_nil)) pa_nil))))
        (pss_cons (ps_set (i := 4) sc_law_channel.nd rfl (Or.inl rfl) (pe_op op_mod (pe_op op_add (pe_op op_add (pv 3) pe_int) (pe_call (ok_law_take T) (hr.mono (by decide)) (by rfl) T.g_law_take T.F_law_take.kp T.b_law_take .nil pass0 (pa_cons (pv 0) (pa_cons (pe_op op_sub (pe_callB (lenK (K := K) rfl) (by rfl) T.m_len (by decide +kernel) (pa_cons (pv 2) pa_nil)) pe_int) pa_nil)))) (pe_callB (lenK (K := K) rfl) (by rfl) T.m_len (by decide +kernel) (pa_cons (pv 2) pa_nil))))
        (pss_cons (ps_set (i := 5) sc_law_channel.nd rfl (Or.inl rfl) (pe_call (ok_law_number T) (hr.mono (by decide)) (by rfl) T.g_law_number T.F_law_number.kp T.b_law_number .nil pass0 (pa_cons (pv 0) (pa_cons pe_int (pa_cons (pe_op op_pow pe_int pe_int) pa_nil)))))
        (pss_cons (ps_set (i := 6) sc_law_channel.nd rfl (Or.inl rfl) (pe_tup (pa_cons (pv 1) (pa_cons (pe_ix (ixK (K := K) rfl) (pv 2) (pv 3) (fun _ _ => rfl)) (pa_cons (pe_ix (ixK (K := K) rfl) (pv 2) (pv 4) (fun _ _ => rfl)) (pa_cons (pe_call (ok_law_number T) (hr.mono (by decide)) (by rfl) T.g_law_number T.F_law_number.kp T.b_law_number .nil pass0 (pa_cons (pv 0) (pa_cons pe_int (pa_cons pe_int pa_nil)))) (pa_cons (pe_call (ok_law_number T) (hr.mono (by decide)) (by rfl) T.g_law_number T.F_law_number.kp T.b_law_number .nil pass0 (pa_cons (pv 0) (pa_cons pe_int (pa_cons pe_int pa_nil)))) (pa_cons (pv 5) pa_nil))))))))
        (pss_one (ps_ret (pe_op (catAK (K := K) rfl) (pv 6) (pe_tup (pa_cons (pe_call (ok_law_number T) (hr.mono (by decide)) (by rfl) T.g_law_number T.F_law_number.kp T.b_law_number .nil pass0 (pa_cons (pv 0) (pa_cons pe_int (pa_cons pe_int pa_nil)))) (pa_cons (pe_call (ok_law_number T) (hr.mono (by decide)) (by rfl) T.g_law_number T.F_law_number.kp T.b_law_number .nil pass0 (pa_cons (pv 0) (pa_cons (pv 5) (pa_cons (pe_op op_pow pe_int pe_int) pa_nil)))) pa_nil)))))))))), ?_⟩
    obtain ⟨p, l, n, nm, ys, rfl, hB, hn, npl, hl, hy1, hy2, nd, q⟩ := h
    walk_at "rd"
    refine rd_takeB fun r1 H1 r1_0 r1_1 b_H1 k_H1 => ?_ <;> walk_at "rd"
    refine rd_takeB fun r2 H2 r2_0 r2_1 b_H2 k_H2 => ?_ <;> walk_at "rd"
    rw [List.length_map] at r1_1 r2_1
    rw [List.length_map]
    refine rd_I (by omega) ?_
    have em := emod_cases (a := r1 + 1 + r2) (m := (ys.length : Int)) (by omega) (by omega) (by omega)
    have j0 := Int.emod_nonneg (r1 + 1 + r2) (show (ys.length : Int) ≠ 0 by omega)
    have j1 := Int.emod_lt_of_pos (r1 + 1 + r2) (show 0 < (ys.length : Int) by omega)
    generalize (r1 + 1 + r2) % (ys.length : Int) = j at em j0 j1
    obtain ⟨za, ma, ga, aa⟩ := atI_strs r1_0 r1_1
    obtain ⟨zb, mb, gb, ab⟩ := atI_strs j0 j1
    have nab := nodup_ne nd ga gb (by omega)
    walk_at "rd"
    refine rd_number (lo := 0) (hi := 1000000) fun f H3 f_0 f_1 b_H3 k_H3 => ?_ <;> walk_at "rd"
    have k03 := (k_H1.trans k_H2).trans k_H3
    have hl3 := k03 _ _ hl npl
    refine rd_ixL (sqL_of hl3) aa ?_
    walk_at "rd"
    refine rd_ixL (sqL_of hl3) ab ?_
    walk_at "rd"
    refine rd_number (lo := 1) (hi := 1000) fun h H4 h_0 h_1 b_H4 k_H4 => ?_ <;> walk_at "rd"
    refine rd_number (lo := 0) (hi := 1000) fun d H5 d_0 d_1 b_H5 k_H5 => ?_ <;> walk_at "rd"
    refine rd_tupB fun t6 H6 n_t6 s_H6 e_t6 => ?_ <;> walk_at "rd"
    refine rd_number (lo := 0) (hi := 1000) fun g H7 g_0 g_1 b_H7 k_H7 => ?_ <;> walk_at "rd"
    refine rd_number (lo := f) (hi := 1000000) fun m H8 m_0 m_1 b_H8 k_H8 => ?_ <;> walk_at "rd"
    refine rd_tupB fun t9 H9 n_t9 s_H9 e_t9 => ?_ <;> walk_at "rd"
    refine rd_catX (fun t Ha s_Ha e_t => ?_) (s_H9 _ _ (k_H8 _ _ (k_H7 _ _ e_t6 ?_) ?_)) e_t9
    · exact q ⟨nm, za, zb, h, d, f, g, m⟩ t Ha rfl ma mb nab ⟨f_0, f_1, h_0, h_1, d_0, d_1, g_0, g_1, m_0, m_1⟩ (((b_H8.keep s_H9).keep s_Ha).mono (by omega)) (((((((k03.trans k_H4).trans k_H5).trans (Same.keepB s_H6)).trans k_H7).trans k_H8).trans (Same.keepB (s_H9.trans s_Ha)))) e_t
    · exact b_H5.ne n_t6.e
    · exact b_H5.ne n_t6.e
def sp_law_breaker (K : PySem.W.Frag) : Sp := fun vs H Q _ => ∃ (p l : Addr) (n : Nat) (nm : Str) (ys : List Str), vs = [.ref p, .str nm, .ref l] ∧ BoxAt H p n ∧ n ≤ 90000 ∧ l ≠ p ∧ H l = some (.lst (ys.map V.str)) ∧ 1 ≤ ys.length ∧ ys.length ≤ 26 ∧
  ∀ (v : Ve) (t : Addr) H', v.kind = 1 → v.name = nm → v.port ∈ ys → v.goal ∈ ys → veOk v → BoxAt H' p (n + 15) → KeepB p H H' → H' t = some (.tup (veV v)) → Q (.ref t) H'
theorem ok_law_breaker (T : Tx K mg) : FnOk P w K mg base CX0 3 T.a_law_breaker T.d_law_breaker ["_law_box_here", "_law_name", "_law_ports"] (sp_law_breaker K) := by
  refine T.F_law_breaker.ok sc_law_breaker (fun vs H Q E h => ?_) (fun cdv A outer s H vs Q E hr h => ?_)
  · obtain ⟨p, l, n, nm, ys, rfl, _⟩ := h
    rfl
  · refine ⟨_, (pss_cons (ps_set (i := 3) sc_law_breaker.nd rfl (Or.inl rfl) (pe_tup (pa_cons (pv 1) (pa_cons (pe_ix (ixK (K := K) rfl) (pv 2) (pe_call (ok_law_take T) (hr.mono (by decide)) (by rfl) T.g_law_take T.F_law_take.kp T.b_law_take .nil pass0 (pa_cons (pv 0) (pa_cons (pe_callB (lenK (K := K) rfl) (by rfl) T.m_len (by decide +kernel) (pa_cons (pv 2) pa_nil)) pa_nil))) (fun _ _ => rfl)) (pa_cons (pe_call (ok_law_number T) (hr.mono (by decide)) (by rfl) T.g_law_number T.F_law_number.kp T.b_law_number .nil pass0 (pa_cons (pv 0) (pa_cons pe_int (pa_cons (pe_op op_pow pe_int pe_int) pa_nil)))) (pa_cons (pe_call (ok_law_number T) (hr.mono (by decide)) (by rfl) T.g_law_number T.F_law_number.kp T.b_law_number .nil pass0 (pa_cons (pv 0) (pa_cons pe_int (pa_cons (pe_op op_pow pe_int pe_int) pa_nil)))) pa_nil))))))
        (pss_one (ps_ret (pe_op (catAK (K := K) rfl) (pv 3) (pe_tup (pa_cons (pe_call (ok_law_number T) (hr.mono (by decide)) (by rfl) T.g_law_number T.F_law_number.kp T.b_law_number .nil pass0 (pa_cons (pv 0) (pa_cons pe_int (pa_cons pe_int pa_nil)))) (pa_cons (pe_call (ok_law_number T) (hr.mono (by decide)) (by rfl) T.g_law_number T.F_law_number.kp T.b_law_number .nil pass0 (pa_cons (pv 0) (pa_cons pe_int (pa_cons (pe_op op_pow pe_int pe_int) pa_nil)))) pa_nil))))))), ?_⟩
    obtain ⟨p, l, n, nm, ys, rfl, hB, hn, npl, hl, hy1, hy2, q⟩ := h
    walk_at "rd"
    refine rd_takeB fun r1 H1 r1_0 r1_1 b_H1 k_H1 => ?_ <;> walk_at "rd"
    rw [List.length_map] at r1_1
    obtain ⟨za, ma, ga, aa⟩ := atI_strs r1_0 r1_1
    refine rd_ixL (sqL_of (k_H1 _ _ hl npl)) aa ?_
    walk_at "rd"
    refine rd_number (lo := 0) (hi := 1000000) fun h1 H2 h1_0 h1_1 b_H2 k_H2 => ?_ <;> walk_at "rd"
    refine rd_number (lo := 0) (hi := 1000000) fun h2 H3 h2_0 h2_1 b_H3 k_H3 => ?_ <;> walk_at "rd"
    refine rd_tupB fun t4 H4 n_t4 s_H4 e_t4 => ?_ <;> walk_at "rd"
    refine rd_number (lo := 0) (hi := 1000) fun h3 H5 h3_0 h3_1 b_H5 k_H5 => ?_ <;> walk_at "rd"
    refine rd_number (lo := 1) (hi := 1000000) fun h4 H6 h4_0 h4_1 b_H6 k_H6 => ?_ <;> walk_at "rd"
    refine rd_tupB fun t7 H7 n_t7 s_H7 e_t7 => ?_ <;> walk_at "rd"
    refine rd_catX (fun t H8 s_H8 e_t => ?_) (s_H7 _ _ (k_H6 _ _ (k_H5 _ _ e_t4 (b_H3.ne n_t4.e)) (b_H3.ne n_t4.e))) e_t7
    exact q ⟨1, nm, za, za, h1, h2, h3, h4⟩ t H8 rfl rfl ma ma ⟨(by decide : 1 < 3), h1_0, h1_1, h2_0, h2_1, h3_0, h3_1, h4_0, h4_1⟩ (((b_H6.keep s_H7).keep s_H8).mono (by omega)) ((((((k_H1.trans k_H2).trans k_H3).trans (Same.keepB s_H4)).trans k_H5).trans k_H6).trans (Same.keepB (s_H7.trans s_H8))) e_t
def sp_law_ship (K : PySem.W.Frag) : Sp := fun vs H Q _ => ∃ (p l : Addr) (n : Nat) (nm : Str) (ys : List Str), vs = [.ref p, .str nm, .ref l] ∧ BoxAt H p n ∧ n ≤ 90000 ∧ l ≠ p ∧ H l = some (.lst (ys.map V.str)) ∧ 1 ≤ ys.length ∧ ys.length ≤ 26 ∧
  ∀ (v : Ve) (t : Addr) H', v.kind = 2 → v.name = nm → v.port ∈ ys → v.goal ∈ ys → veOk v → BoxAt H' p (n + 15) → KeepB p H H' → H' t = some (.tup (veV v)) → Q (.ref t) H'
theorem ok_law_ship (T : Tx K mg) : FnOk P w K mg base CX0 3 T.a_law_ship T.d_law_ship ["_law_box_here", "_law_name", "_law_ports"] (sp_law_ship K) := by
  refine T.F_law_ship.ok sc_law_ship (fun vs H Q E h => ?_) (fun cdv A outer s H vs Q E hr h => ?_)
  · obtain ⟨p, l, n, nm, ys, rfl, _⟩ := h
    rfl
  · refine ⟨_, (pss_cons (ps_set (i := 3) sc_law_ship.nd rfl (Or.inl rfl) (pe_tup (pa_cons (pv 1) (pa_cons (pe_ix (ixK (K := K) rfl) (pv 2) (pe_call (ok_law_take T) (hr.mono (by decide)) (by rfl) T.g_law_take T.F_law_take.kp T.b_law_take .nil pass0 (pa_cons (pv 0) (pa_cons (pe_callB (lenK (K := K) rfl) (by rfl) T.m_len (by decide +kernel) (pa_cons (pv 2) pa_nil)) pa_nil))) (fun _ _ => rfl)) (pa_cons (pe_ix (ixK (K := K) rfl) (pv 2) (pe_call (ok_law_take T) (hr.mono (by decide)) (by rfl) T.g_law_take T.F_law_take.kp T.b_law_take .nil pass0 (pa_cons (pv 0) (pa_cons (pe_callB (lenK (K := K) rfl) (by rfl) T.m_len (by decide +kernel) (pa_cons (pv 2) pa_nil)) pa_nil))) (fun _ _ => rfl)) pa_nil)))))
        (pss_cons (ps_set (i := 3) sc_law_ship.nd rfl (Or.inl rfl) (pe_op (catAK (K := K) rfl) (pv 3) (pe_tup (pa_cons (pe_call (ok_law_number T) (hr.mono (by decide)) (by rfl) T.g_law_number T.F_law_number.kp T.b_law_number .nil pass0 (pa_cons (pv 0) (pa_cons pe_int (pa_cons (pe_op op_pow pe_int pe_int) pa_nil)))) (pa_cons (pe_call (ok_law_number T) (hr.mono (by decide)) (by rfl) T.g_law_number T.F_law_number.kp T.b_law_number .nil pass0 (pa_cons (pv 0) (pa_cons pe_int (pa_cons (pe_op op_pow pe_int pe_int) pa_nil)))) pa_nil)))))
        (pss_one (ps_ret (pe_op (catAK (K := K) rfl) (pv 3) (pe_tup (pa_cons (pe_call (ok_law_number T) (hr.mono (by decide)) (by rfl) T.g_law_number T.F_law_number.kp T.b_law_number .nil pass0 (pa_cons (pv 0) (pa_cons pe_int (pa_cons pe_int pa_nil)))) pa_nil))))))), ?_⟩
    obtain ⟨p, l, n, nm, ys, rfl, hB, hn, npl, hl, hy1, hy2, q⟩ := h
    walk_at "rd"
    refine rd_takeB fun r1 H1 r1_0 r1_1 b_H1 k_H1 => ?_ <;> walk_at "rd"
    rw [List.length_map] at r1_1
    obtain ⟨za, ma, ga, aa⟩ := atI_strs r1_0 r1_1
    have hl1 := k_H1 _ _ hl npl
    refine rd_ixL (sqL_of hl1) aa ?_
    walk_at "rd"
    refine rd_takeB fun r2 H2 r2_0 r2_1 b_H2 k_H2 => ?_ <;> walk_at "rd"
    rw [List.length_map] at r2_1
    obtain ⟨zb, mb, gb, ab⟩ := atI_strs r2_0 r2_1
    refine rd_ixL (sqL_of (k_H2 _ _ hl1 npl)) ab ?_
    walk_at "rd"
    refine rd_tupB fun t3 H3 n_t3 s_H3 e_t3 => ?_ <;> walk_at "rd"
    refine rd_number (lo := 0) (hi := 1000000) fun h1 H4 h1_0 h1_1 b_H4 k_H4 => ?_ <;> walk_at "rd"
    refine rd_number (lo := 0) (hi := 1000000) fun h2 H5 h2_0 h2_1 b_H5 k_H5 => ?_ <;> walk_at "rd"
    refine rd_tupB fun t6 H6 n_t6 s_H6 e_t6 => ?_ <;> walk_at "rd"
    refine rd_catX (fun t7 H7 s_H7 e_t7 => ?_) (s_H6 _ _ (k_H5 _ _ (k_H4 _ _ e_t3 (b_H2.ne n_t3.e)) (b_H2.ne n_t3.e))) e_t6
    walk_at "rd"
    refine rd_number (lo := 0) (hi := 1000) fun h3 H8 h3_0 h3_1 b_H8 k_H8 => ?_ <;> walk_at "rd"
    refine rd_tupB fun t9 H9 n_t9 s_H9 e_t9 => ?_ <;> walk_at "rd"
    have n7 : t7 ≠ p := by
      intro z
      obtain ⟨_, _, _, e, _⟩ := (b_H5.keep s_H6).keep s_H7
      rw [z, e] at e_t7
      cases e_t7
    refine rd_catX (fun t Ha s_Ha e_t => ?_) (s_H9 _ _ (k_H8 _ _ e_t7 n7)) e_t9
    exact q ⟨2, nm, za, zb, h1, h2, h3, 1⟩ t Ha rfl rfl ma mb ⟨(by decide : 2 < 3), h1_0, h1_1, h2_0, h2_1, h3_0, h3_1, (show (1 : Int) ≤ 1 by decide), (show (1 : Int) ≤ 1000000 by decide)⟩ (((b_H8.keep s_H9).keep s_Ha).mono (by omega)) (((((((k_H1.trans k_H2).trans (Same.keepB s_H3)).trans k_H4).trans k_H5).trans (Same.keepB (s_H6.trans s_H7))).trans k_H8).trans (Same.keepB (s_H9.trans s_Ha))) e_t

/-- a comprehension over names whose element draws from the box and makes a row -/
theorem lcBox {α : Type} {σ : L2.St} {Q : VK} {te : TE} {vs : List Nat} {k : Nat} {K : PySem.W.Frag} {H : Hp} {l0 p : Addr} {ys : List Str} {n : Nat} (rowOf : α → List V) (nameOf : α → Str) (Good : α → Prop)
    (hl : H l0 = some (.lst (ys.map V.str))) (nlp : l0 ≠ p) (hB : BoxAt H p n) (hy : ys.length ≤ 100) (hw : ∀ x, wipe ((wipe σ vs).set k (some x)) vs = wipe σ vs)
    (he : ∀ y ∈ ys, ∀ H' (j : Nat) (Q' : VK), BoxAt H' p (n + 15 * j) → j ≤ 100 → KeepB p H H' → (∀ c t H2, nameOf c = y → Good c → BoxAt H2 p (n + 15 * j + 15) → KeepB p H' H2 → H2 t = some (.tup (rowOf c)) → Q' (.ref t) H2) → te ((wipe σ vs).set k (some (.str y))) H' Q')
    (hq : ∀ D acc (cs : List α) H', Nn H D → D ≠ p → BoxAt H' p (n + 15 * ys.length) → KeepB p H H' → H' D = some (.lst acc) → RowsAt H' acc (cs.map rowOf) → cs.map nameOf = ys → (∀ c ∈ cs, Good c) → Q (.ref D) H') : LcGo (Itl K l0) (gName k) tYes (tFrm te) vs σ H Q := by
  refine lcgoF (walk_list (xs := ys.map V.str)) (by rw [List.length_map]; omega) (fun i x => (ys.map V.str)[i]? = some x) (fun i H x H' _ _ y => y) hw
    (fun i acc H' => BoxAt H' p (n + 15 * i) ∧ KeepB p H H' ∧ ∃ cs : List α, RowsAt H' acc (cs.map rowOf) ∧ cs.map nameOf = ys.take i ∧ ∀ c ∈ cs, Good c) ⟨hB, KeepB.refl _ _, [], .nil, rfl, nofun⟩ (fun i acc H' D _ z hD => sqL_of (by rw [upd_ne (ne_of_none (z.2.1 _ _ hl nlp) hD)]; exact z.2.1 _ _ hl nlp)) ?_ ?_
  · rintro i x acc H' Qc hi hla ⟨b, kk, cs, r, en, g⟩ hx q'
    rw [List.length_map] at hi
    rw [List.getElem?_map] at hx
    obtain ⟨y, hy2, rfl⟩ := Option.map_eq_some_iff.mp hx
    refine he y (List.mem_of_getElem? hy2) H' i Qc b (by omega) kk fun c t H2 ec gc b2 k2 e => q' _ _ ⟨b2, kk.trans k2, cs ++ [c], ?_, ?_, fun d hd => ?_⟩
    · rw [List.map_append]
      exact (r.same (kb_tup k2 b)).snoc e
    · rw [List.map_append, en, List.take_add_one, hy2]
      show _ ++ [nameOf c] = _ ++ [y]
      rw [ec]
    · rcases List.mem_append.mp hd with h | h
      · exact g d h
      · rw [List.mem_singleton.mp h]
        exact gc
  · rintro acc H' D hla ⟨b, kk, cs, r, en, g⟩ hD
    rw [List.length_map] at b en
    rw [List.take_length] at en
    have s := same_new (o := .lst acc) hD
    exact hq D acc cs _ ⟨kb_free kk b hD⟩ (b.ne hD) (b.keep s) (kk.trans (Same.keepB s)) upd_same (r.keep s) en g
def sp_law_world (K : PySem.W.Frag) : Sp := fun vs H Q _ => ∃ (p l : Addr) (n : Nat) (a b c d : Int), vs = [.ref p, .ref l] ∧ BoxAt H p n ∧ n ≤ 1000 ∧ l ≠ p ∧ H l = some (.lst [.int a, .int b, .int c, .int d]) ∧ 1 ≤ a ∧ a ≤ 9 ∧ 0 ≤ b ∧ b ≤ 13 ∧ 0 ≤ c ∧ c ≤ 5 ∧ 0 ≤ d ∧ d ≤ 7 ∧
  ∀ (w : Td) (t : Addr) H', TdW w → (∀ c ∈ w.chans, chOk c) → (a ≤ 8 → b ≤ 12 → c ≤ 4 → d ≤ 6 → TdOk w) → TdAt H' t w → BoxAt H' p (n + 1000) → KeepB p H H' → Q (.ref t) H'
theorem ok_law_world (T : Tx K mg) : FnOk P w K mg base CX0 4 T.a_law_world T.d_law_world ["_law_box_here", "_law_sizes"] (sp_law_world K) := by
  refine T.F_law_world.ok sc_law_world (fun vs H Q E h => ?_) (fun cdv A outer s H vs Q E hr h => ?_)
  · obtain ⟨p, l, n, a, b, c, d, rfl, _⟩ := h
    rfl
  · refine ⟨_, (pss_cons (ps_set (i := 2) sc_law_world.nd rfl (Or.inr rfl) (pe_call (ok_law_names T) (hr.mono (by decide)) (by rfl) T.g_law_names T.F_law_names.kp T.b_law_names .nil pass0 (pa_cons (pv 0) (pa_cons (pe_ix (ixK (K := K) rfl) (pv 1) pe_int (fun _ _ => rfl)) pa_nil))))
        (pss_cons (ps_set (i := 3) sc_law_world.nd rfl (Or.inl rfl) (pe_call (ok_law_names T) (hr.mono (by decide)) (by rfl) T.g_law_names T.F_law_names.kp T.b_law_names .nil pass0 (pa_cons (pv 0) (pa_cons (pe_op op_mul (pe_ix (ixK (K := K) rfl) (pv 1) pe_int (fun _ _ => rfl)) (pe_callTy int1 (by rfl) T.m_int (by decide +kernel) (pa_cons (pe_cmpR op_gt (pe_ix (ixK (K := K) rfl) (pv 1) pe_int (fun _ _ => rfl)) pe_int (nomark _)) pa_nil))) pa_nil))))
        (pss_cons (ps_set (i := 4) sc_law_world.nd rfl (Or.inl rfl) (pe_call (ok_law_names T) (hr.mono (by decide)) (by rfl) T.g_law_names T.F_law_names.kp T.b_law_names .nil pass0 (pa_cons (pv 0) (pa_cons (pe_op op_add (pe_ix (ixK (K := K) rfl) (pv 1) pe_int (fun _ _ => rfl)) (pe_ix (ixK (K := K) rfl) (pv 1) pe_int (fun _ _ => rfl))) pa_nil))))
        (pss_cons (ps_set (i := 5) sc_law_world.nd rfl (Or.inl rfl) (pe_callTy (tupOfK (K := K) rfl) (by rfl) T.m_tuple (by decide +kernel) (pa_cons (pe_lc (own := [("_law_name", 8)]) (g := gName 8) (tt := tYes) rfl sc_law_world.nd (pi_listK (K := K) rfl (pv 3)) (blkOk_by (own := [("_law_name", 8)]) (N := N_law_world) (sc := defScope s_law_world) (by decide +kernel)) (fun _ _ _ _ _ => (pg_name (i := 8) sc_law_world.nd rfl (Or.inl rfl))) (fun _ _ _ _ _ => pts_nil) (fun _ _ _ _ _ => (pe_frm (pe_call (ok_law_channel T) (hr.mono (by decide)) (by rfl) T.g_law_channel T.F_law_channel.kp T.b_law_channel .nil pass0 (pa_cons (pv 0) (pa_cons (pv 8) (pa_cons (pv 2) pa_nil))))))) pa_nil)))
        (pss_cons (ps_set (i := 6) sc_law_world.nd rfl (Or.inl rfl) (pe_callTy (tupOfK (K := K) rfl) (by rfl) T.m_tuple (by decide +kernel) (pa_cons (pe_lc (own := [("_law_name", 8)]) (g := gName 8) (tt := tYes) rfl sc_law_world.nd (pi_listK (K := K) rfl (pe_slice (slLK (K := K) rfl) (pv 4) po_none (po_some (pe_ix (ixK (K := K) rfl) (pv 1) pe_int (fun _ _ => rfl))))) (blkOk_by (own := [("_law_name", 8)]) (N := N_law_world) (sc := defScope s_law_world) (by decide +kernel)) (fun _ _ _ _ _ => (pg_name (i := 8) sc_law_world.nd rfl (Or.inl rfl))) (fun _ _ _ _ _ => pts_nil) (fun _ _ _ _ _ => (pe_frm (pe_call (ok_law_breaker T) (hr.mono (by decide)) (by rfl) T.g_law_breaker T.F_law_breaker.kp T.b_law_breaker .nil pass0 (pa_cons (pv 0) (pa_cons (pv 8) (pa_cons (pv 2) pa_nil))))))) pa_nil)))
        (pss_cons (ps_set (i := 7) sc_law_world.nd rfl (Or.inl rfl) (pe_callTy (tupOfK (K := K) rfl) (by rfl) T.m_tuple (by decide +kernel) (pa_cons (pe_lc (own := [("_law_name", 8)]) (g := gName 8) (tt := tYes) rfl sc_law_world.nd (pi_listK (K := K) rfl (pe_slice (slLK (K := K) rfl) (pv 4) (po_some (pe_ix (ixK (K := K) rfl) (pv 1) pe_int (fun _ _ => rfl))) po_none)) (blkOk_by (own := [("_law_name", 8)]) (N := N_law_world) (sc := defScope s_law_world) (by decide +kernel)) (fun _ _ _ _ _ => (pg_name (i := 8) sc_law_world.nd rfl (Or.inl rfl))) (fun _ _ _ _ _ => pts_nil) (fun _ _ _ _ _ => (pe_frm (pe_call (ok_law_ship T) (hr.mono (by decide)) (by rfl) T.g_law_ship T.F_law_ship.kp T.b_law_ship .nil pass0 (pa_cons (pv 0) (pa_cons (pv 8) (pa_cons (pv 2) pa_nil))))))) pa_nil)))
        (pss_one (ps_ret (pe_tup (pa_cons (pe_call (ok_law_number T) (hr.mono (by decide)) (by rfl) T.g_law_number T.F_law_number.kp T.b_law_number .nil pass0 (pa_cons (pv 0) (pa_cons pe_int (pa_cons (pe_op op_pow pe_int pe_int) pa_nil)))) (pa_cons (pe_callTy (tupOfK (K := K) rfl) (by rfl) T.m_tuple (by decide +kernel) (pa_cons (pv 2) pa_nil)) (pa_cons (pv 5) (pa_cons (pv 6) (pa_cons (pv 7) pa_nil)))))))))))))), ?_⟩
    obtain ⟨p, l, n, a, b, c, d, rfl, hB, hn, nlp, hl, a1, a8, b0, b12, c0, c4, d0, d6, q⟩ := h
    walk_at "rd"
    obtain ⟨an, rfl⟩ : ∃ an : Nat, a = (an : Int) := ⟨a.toNat, by omega⟩
    refine ⟨p, n, an, rfl, hB, by omega, by omega, fun lp ps H1 b_H1 k_H1 n_lp ne_lp e_lp ps_l ps_n ps_d => ?_⟩
    have hl1 := k_H1 _ _ hl nlp
    walk_at "rd"
    obtain ⟨e, he, e0⟩ : ∃ e : Int, (if decide (1 < (an : Int)) = true then (1 : Int) else 0) = e ∧ ((e = 1 ∧ 2 ≤ an) ∨ e = 0) := by
      by_cases h : 1 < (an : Int)
      · exact ⟨1, by rw [decide_eq_true h]; rfl, .inl ⟨rfl, by omega⟩⟩
      · exact ⟨0, by rw [decide_eq_false h]; rfl, .inr rfl⟩
    obtain ⟨bn, hbn, hb12, hb2⟩ : ∃ bn : Nat, b * e = (bn : Int) ∧ (bn : Int) ≤ b ∧ (0 < bn → 2 ≤ an) := by
      rcases e0 with ⟨rfl, h⟩ | rfl
      · exact ⟨b.toNat, by omega, by omega, fun _ => h⟩
      · exact ⟨0, by omega, by omega, fun h => absurd h (by decide)⟩
    refine rd_intD he ?_
    refine rd_I (.inl ⟨by omega, by omega⟩) ?_
    rw [hbn]
    walk_at "rd"
    refine ⟨p, _, bn, rfl, b_H1, by omega, by omega, fun lc cs H2 b_H2 k_H2 n_lc ne_lc e_lc cs_l cs_n cs_d => ?_⟩
    have hl2 := k_H2 _ _ hl1 nlp
    have e_lp2 := k_H2 _ _ e_lp ne_lp
    walk_at "rd"
    obtain ⟨cn, rfl⟩ : ∃ cn : Nat, c = (cn : Int) := ⟨c.toNat, by omega⟩
    obtain ⟨dn, rfl⟩ : ∃ dn : Nat, d = (dn : Int) := ⟨d.toNat, by omega⟩
    refine ⟨p, _, cn + dn, rfl, b_H2, by omega, by omega, fun lv us H3 b_H3 k_H3 n_lv ne_lv e_lv us_l us_n us_d => ?_⟩
    have hl3 := k_H3 _ _ hl2 nlp
    have e_lp3 := k_H3 _ _ e_lp2 ne_lp
    have e_lc3 := k_H3 _ _ e_lc ne_lc
    walk_at "rd"
    refine rd_il (sqL_of e_lc3) ?_
    refine lcBox chV (·.name) (fun c => chOk c ∧ c.one ∈ ps ∧ c.other ∈ ps ∧ c.one ≠ c.other) e_lc3 ne_lc b_H3 (by omega) (fun _ => rfl) (fun y hy H' jj Q' b' hj k' q' => ?_) fun D1 acc1 chs H4 n_D1 ne_D1 b_H4 k_H4 e_D1 r1 en1 g1 => ?_
    · have : 0 < cs.length := List.length_pos_of_mem hy
      walk_at "rd"
      refine ⟨p, lp, _, y, ps, rfl, b', by omega, ne_lp, k' _ _ e_lp3 ne_lp, by omega, by omega, ps_d, fun ch t H2' c1 c2 c3 c4 c5 b2 k2 e => ?_⟩
      exact q' ch t H2' c1 ⟨c5, c2, c3, c4⟩ b2 k2 e
    rw [cs_l] at b_H4
    walk_at "rd"
    refine rd_tupB2 (sqL_of e_D1) fun tc H5 n_tc s_H5 e_tc => ?_
    have r1 := r1.keep s_H5
    have b_H5 := b_H4.keep s_H5
    have k35 : KeepB p H3 H5 := k_H4.trans (Same.keepB s_H5)
    have hl5 := k35 _ _ hl3 nlp
    have e_lp5 := k35 _ _ e_lp3 ne_lp
    have e_lv5 := k35 _ _ e_lv ne_lv
    walk_at "rd"
    refine rd_slL (sqL_of e_lv5) fun l6 H6 n_l6 s_H6 e_l6 => ?_
    rw [cutV_to, ← List.map_take] at e_l6
    have b_H6 := b_H5.keep s_H6
    have ne_l6 := b_H5.ne n_l6.e
    have hl6 := s_H6 _ _ hl5
    walk_at "rd"
    refine rd_il (sqL_of e_l6) ?_
    refine lcBox veV (·.name) (fun v => v.kind = 1 ∧ v.port ∈ ps ∧ v.goal ∈ ps ∧ veOk v) e_l6 ne_l6 b_H6 (by rw [List.length_take]; omega) (fun _ => rfl) (fun y hy H' jj Q' b' hj k' q' => ?_) fun D2 acc2 brs H7 n_D2 ne_D2 b_H7 k_H7 e_D2 r2 en2 g2 => ?_
    · walk_at "rd"
      refine ⟨p, lp, _, y, ps, rfl, b', by omega, ne_lp, k' _ _ (s_H6 _ _ e_lp5) ne_lp, by omega, by omega, fun v t H2' c1 c2 c3 c4 c5 b2 k2 e => ?_⟩
      exact q' v t H2' c2 ⟨c1, c3, c4, c5⟩ b2 k2 e
    rw [List.length_take] at b_H7
    walk_at "rd"
    refine rd_tupB2 (sqL_of e_D2) fun tk H8 n_tk s_H8 e_tk => ?_
    have r2 := r2.keep s_H8
    have b_H8 := b_H7.keep s_H8
    have k58 : KeepB p H5 H8 := ((Same.keepB s_H6).trans k_H7).trans (Same.keepB s_H8)
    have tup58 := kb_tup k58 b_H5
    have hl8 := k58 _ _ hl5 nlp
    have e_lp8 := k58 _ _ e_lp5 ne_lp
    have e_lv8 := k58 _ _ e_lv5 ne_lv
    have r1 := r1.same tup58
    have e_tc8 := tup58 _ _ e_tc
    walk_at "rd"
    refine rd_slL (sqL_of e_lv8) fun l9 H9 n_l9 s_H9 e_l9 => ?_
    rw [cutV_from, ← List.map_drop] at e_l9
    have b_H9 := b_H8.keep s_H9
    have ne_l9 := b_H8.ne n_l9.e
    walk_at "rd"
    refine rd_il (sqL_of e_l9) ?_
    refine lcBox veV (·.name) (fun v => v.kind = 2 ∧ v.port ∈ ps ∧ v.goal ∈ ps ∧ veOk v) e_l9 ne_l9 b_H9 (by rw [List.length_drop]; omega) (fun _ => rfl) (fun y hy H' jj Q' b' hj k' q' => ?_) fun D3 acc3 shs Ha n_D3 ne_D3 b_Ha k_Ha e_D3 r3 en3 g3 => ?_
    · walk_at "rd"
      refine ⟨p, lp, _, y, ps, rfl, b', by omega, ne_lp, k' _ _ (s_H9 _ _ e_lp8) ne_lp, by omega, by omega, fun v t H2' c1 c2 c3 c4 c5 b2 k2 e => ?_⟩
      exact q' v t H2' c2 ⟨c1, c3, c4, c5⟩ b2 k2 e
    rw [List.length_drop] at b_Ha
    walk_at "rd"
    refine rd_tupB2 (sqL_of e_D3) fun ts Hb n_ts s_Hb e_ts => ?_
    have r3 := r3.keep s_Hb
    have b_Hb := b_Ha.keep s_Hb
    have k8b : KeepB p H8 Hb := ((Same.keepB s_H9).trans k_Ha).trans (Same.keepB s_Hb)
    have tup8b := kb_tup k8b b_H8
    have r1 := r1.same tup8b
    have r2 := r2.same tup8b
    have e_tcb := tup8b _ _ e_tc8
    have e_tkb := tup8b _ _ e_tk
    have e_lpb := k8b _ _ e_lp8 ne_lp
    walk_at "rd"
    refine rd_number (lo := 0) (hi := 1000000) fun bg Hc bg0 bg1 b_Hc k_Hc => ?_
    have tupbc := kb_tup k_Hc b_Hb
    have r1 := r1.same tupbc
    have r2 := r2.same tupbc
    have r3 := r3.same tupbc
    have e_tcc := tupbc _ _ e_tcb
    have e_tkc := tupbc _ _ e_tkb
    have e_tsc := tupbc _ _ e_ts
    have e_lpc := k_Hc _ _ e_lpb ne_lp
    walk_at "rd"
    refine rd_tupB2 (sqL_of e_lpc) fun tp Hd n_tp s_Hd e_tp => ?_
    walk_at "rd"
    refine rd_tupB fun t He n_t s_He e_t => ?_ <;> walk_at "rd"
    have k0e : KeepB p H He := ((((((k_H1.trans k_H2).trans k_H3).trans k35).trans k58).trans k8b).trans k_Hc).trans (Same.keepB (s_Hd.trans s_He))
    have sce := s_Hd.trans s_He
    have l1 : chs.length = cs.length := by rw [← en1, List.length_map]
    have l2 : brs.length = min cn us.length := by rw [← List.length_take, ← en2, List.length_map]
    have l3 : shs.length = us.length - cn := by rw [← List.length_drop, ← en3, List.length_map]
    have eu : (brs ++ shs).map (·.name) = us := by rw [List.map_append, en2, en3, List.take_append_drop]
    have okc : ∀ c ∈ chs, chOk c ∧ nameS c.name = true ∧ nameS c.one = true ∧ nameS c.other = true ∧ c.one ≠ c.other := fun c hc => by
      obtain ⟨a1, a2, a3, a4⟩ := g1 c hc
      exact ⟨a1, cs_n _ (en1 ▸ List.mem_map_of_mem hc), ps_n _ a2, ps_n _ a3, a4⟩
    have okv : ∀ u ∈ brs ++ shs, veOk u ∧ veNames u := fun u hu => by
      have hn := us_n u.name (eu ▸ List.mem_map_of_mem (f := (·.name)) hu)
      rcases List.mem_append.mp hu with h | h
      · obtain ⟨_, a2, a3, a4⟩ := g2 u h
        exact ⟨a4, hn, ps_n _ a2, ps_n _ a3⟩
      · obtain ⟨_, a2, a3, a4⟩ := g3 u h
        exact ⟨a4, hn, ps_n _ a2, ps_n _ a3⟩
    have dc : (chs.map (·.name)).Nodup := by rw [en1]; exact cs_d
    have dv : ((brs ++ shs).map (·.name)).Nodup := by rw [eu]; exact us_d
    refine q ⟨bg, ps, chs, brs, shs⟩ t He ⟨bg0, by show bg < _; omega, by show 1 ≤ ps.length; omega, by show ps.length ≤ 9; omega, by show chs.length ≤ 13; omega, by show brs.length ≤ 5; omega, by show shs.length ≤ 7; omega, ps_n, fun c hc => ch_okR0 (okc c hc).1 ⟨(okc c hc).2.1, (okc c hc).2.2.1, (okc c hc).2.2.2.1⟩, fun u hu => ve_okR0 (okv u hu).1 (okv u hu).2, fun u hu => (g2 u hu).1, fun u hu => (g3 u hu).1⟩ (fun c hc => (okc c hc).1)
      (fun a8' b12' c4' d6' => ⟨bg0, bg1, by show 1 ≤ ps.length; omega, by show ps.length ≤ 8; omega, by show chs.length ≤ 12; omega, by show brs.length ≤ 4; omega, by show shs.length ≤ 6; omega, ps_n, ps_d, dc, dv, fun c hc => ⟨(g1 c hc).2.1, (g1 c hc).2.2.1⟩, fun u hu => (g2 u hu).2.1, fun u hu => ⟨(g3 u hu).2.1, (g3 u hu).2.2.1⟩, fun u hu => (g2 u hu).1, fun u hu => (g3 u hu).1, okc, okv⟩) ⟨tp, tc, tk, ts, acc1, acc2, acc3, e_t, s_He _ _ e_tp, sce _ _ e_tcc, r1.keep sce, sce _ _ e_tkc, r2.keep sce, sce _ _ e_tsc, r3.keep sce⟩ (((b_Hc.keep s_Hd).keep s_He).mono (by omega)) k0e
def sp_law_few (K : PySem.W.Frag) : Sp := fun vs H Q _ => ∃ (p : Addr) (n : Nat), vs = [.ref p] ∧ BoxAt H p n ∧ n ≤ 90000 ∧
  ∀ (l : Addr) (a b c d : Int) H', 1 ≤ a → a ≤ 8 → 0 ≤ b → b ≤ 12 → 0 ≤ c → c ≤ 4 → 0 ≤ d → d ≤ 6 → l ≠ p → H' l = some (.lst [.int a, .int b, .int c, .int d]) → BoxAt H' p (n + 5) → KeepB p H H' → Q (.ref l) H'
theorem ok_law_few (T : Tx K mg) : FnOk P w K mg base CX0 2 T.a_law_few T.d_law_few ["_law_box_here"] (sp_law_few K) := by
  refine T.F_law_few.ok sc_law_few (fun vs H Q E h => ?_) (fun cdv A outer s H vs Q E hr h => ?_)
  · obtain ⟨p, n, rfl, _⟩ := h
    rfl
  · refine ⟨_, (pss_cons (ps_set (i := 1) sc_law_few.nd rfl (Or.inl rfl) (pe_call (ok_law_take T) (hr.mono (by decide)) (by rfl) T.g_law_take T.F_law_take.kp T.b_law_take .nil pass0 (pa_cons (pv 0) (pa_cons pe_int pa_nil))))
        (pss_cons (ps_set (i := 2) sc_law_few.nd rfl (Or.inl rfl) (pe_lst (pa_cons (pe_op op_add pe_int (pe_call (ok_law_take T) (hr.mono (by decide)) (by rfl) T.g_law_take T.F_law_take.kp T.b_law_take .nil pass0 (pa_cons (pv 0) (pa_cons pe_int pa_nil)))) (pa_cons (pe_call (ok_law_take T) (hr.mono (by decide)) (by rfl) T.g_law_take T.F_law_take.kp T.b_law_take .nil pass0 (pa_cons (pv 0) (pa_cons pe_int pa_nil))) (pa_cons (pe_call (ok_law_take T) (hr.mono (by decide)) (by rfl) T.g_law_take T.F_law_take.kp T.b_law_take .nil pass0 (pa_cons (pv 0) (pa_cons pe_int pa_nil))) (pa_cons (pe_call (ok_law_take T) (hr.mono (by decide)) (by rfl) T.g_law_take T.F_law_take.kp T.b_law_take .nil pass0 (pa_cons (pv 0) (pa_cons pe_int pa_nil))) pa_nil))))))
        (pss_one (ps_ret (pe_ix (ixLK (K := K) rfl) (pe_lst (pa_cons (pe_lst (pa_cons pe_int (pa_cons pe_int (pa_cons pe_int (pa_cons pe_int pa_nil))))) (pa_cons (pe_lst (pa_cons pe_int (pa_cons pe_int (pa_cons pe_int (pa_cons pe_int pa_nil))))) (pa_cons (pv 2) (pa_cons (pv 2) (pa_cons (pv 2) (pa_cons (pv 2) pa_nil))))))) (pv 1) (fun _ _ => rfl)))))), ?_⟩
    obtain ⟨p, n, rfl, hB, hn, q⟩ := h
    walk_at "rd"
    refine rd_takeB fun r1 H1 r1_0 r1_1 b_H1 k_H1 => ?_ <;> walk_at "rd"
    walk_at "rd"
    refine rd_takeB fun r2 H2 r2_0 r2_1 b_H2 k_H2 => ?_ <;> walk_at "rd"
    refine rd_takeB fun r3 H3 r3_0 r3_1 b_H3 k_H3 => ?_ <;> walk_at "rd"
    refine rd_takeB fun r4 H4 r4_0 r4_1 b_H4 k_H4 => ?_ <;> walk_at "rd"
    refine rd_takeB fun r5 H5 r5_0 r5_1 b_H5 k_H5 => ?_ <;> walk_at "rd"
    refine rd_lstB fun l H6 n_l s_H6 e_l => ?_ <;> walk_at "rd"
    refine rd_lstB fun l1 H7 n_l1 s_H7 e_l1 => ?_ <;> walk_at "rd"
    refine rd_lstB fun l2 H8 n_l2 s_H8 e_l2 => ?_ <;> walk_at "rd"
    refine rd_lstB fun l3 H9 n_l3 s_H9 e_l3 => ?_ <;> walk_at "rd"
    have k5 := (((k_H1.trans k_H2).trans k_H3).trans k_H4).trans k_H5
    have s59 := ((s_H6.trans s_H7).trans s_H8).trans s_H9
    have k9 := k5.trans (Same.keepB s59)
    have b9 := b_H5.keep s59
    have lp := b_H5.ne n_l.e
    have l1p := (b_H5.keep s_H6).ne n_l1.e
    have l2p := ((b_H5.keep s_H6).keep s_H7).ne n_l2.e
    have e1 := ((s_H7.trans s_H8).trans s_H9) _ _ e_l
    have e2 := (s_H8.trans s_H9) _ _ e_l1
    have e3 := s_H9 _ _ e_l2
    refine rd_ixAny1 (xs := [_, _, _, _, _, _]) (sqL_of e_l3) r1_0 (by simpa using r1_1) fun v hv => ?_
    simp only [List.mem_cons, List.not_mem_nil, or_false] at hv
    have fin : ∀ u, u = V.ref l → Q u H9 := fun u h => by
      subst h
      exact q l _ _ _ _ H9 (by omega) (by omega) (by omega) (by omega) (by omega) (by omega) (by omega) (by omega) lp e1 b9 k9
    rcases hv with rfl | rfl | hv
    · exact q l1 8 12 4 6 H9 (by decide) (by decide) (by decide) (by decide) (by decide) (by decide) (by decide) (by decide) l1p e2 b9 k9
    · exact q l2 1 0 4 6 H9 (by decide) (by decide) (by decide) (by decide) (by decide) (by decide) (by decide) (by decide) l2p e3 b9 k9
    · exact fin _ (by rcases hv with rfl | rfl | rfl | rfl <;> rfl)
theorem lcgoMk {J : It} {n : Nat} {g : TG} {G : Hp → Prop} {Y : Nat → Hp → V → Hp → Prop} {te : TE} {vs : List Nat} {σ : L2.St} {Q : VK} {H1 : Hp} (w : Walk J n G Y) (hz : n ≤ 100000) (Yx : Nat → V → Prop) (hY : ∀ i H x H', i < n → G H → Y i H x H' → H' = H ∧ Yx i x)
    (Pv : Nat → List V → Hp → Prop) (h0 : Pv 0 [] H1) (hG : ∀ i acc H D, i ≤ n → Pv i acc H → H D = none → G (upd H D (.lst acc)))
    (hs : ∀ i x acc H HD, i < n → acc.length = i → Pv i acc H → Yx i x → Same H HD → ∃ σ2, (∀ P : L2.St → Hp → Prop, P σ2 HD → g x (wipe σ vs) HD P) ∧ wipe σ2 vs = wipe σ vs ∧ ∀ Qc : VK, (∀ y H', Pv (i + 1) (acc ++ [y]) H' → Qc y H') → te σ2 H Qc)
    (hd : ∀ acc H D, acc.length = n → Pv n acc H → H D = none → Q (.ref D) (upd H D (.lst acc))) : LcGo J g tYes (tFrm te) vs σ H1 Q := by
  refine fun D hD => lc_yes w (fun i acc H => ∃ H0, H = upd H0 D (.lst acc) ∧ H0 D = none ∧ Pv i acc H0) ⟨H1, rfl, hD, h0⟩ (fun i acc H hi ⟨H0, e, hn, p⟩ => e ▸ hG i acc H0 D hi p hn) ?_ ?_
  · rintro i x acc H H' hi hla hDa ⟨H0, rfl, hn, p⟩ y
    obtain ⟨rfl, yx⟩ := hY i _ x H' hi (hG i acc H0 D (Nat.le_of_lt hi) p hn) y
    obtain ⟨σ2, hg, hw, ht⟩ := hs i x acc H0 _ hi hla p yx (same_new hn)
    refine hg _ ⟨hw, D, acc, upd_same, ?_⟩
    rw [wo_upd hn]
    exact ht _ fun y H' p' hD' => lcK (acc := acc) upd_same hla hi hz ⟨H', by rw [upd_upd], hD', p'⟩
  · rintro acc H hla hDa ⟨H0, rfl, hn, p⟩
    exact hd acc H0 D hla p hn
/-- a comprehension over rows, its target a tuple of names, its element a new thing -/
theorem lcMk {α : Type} {σ : L2.St} {Q : VK} {te : TE} {vs : List Nat} {k : Nat} {tt2 : TGs} {K : PySem.W.Frag} {H : Hp} {a : Addr} {xs : List V} {cs : List α} (rowOf : α → List V) (hx : H a = some (.tup xs)) (r : RowsAt H xs (cs.map rowOf)) (hz : cs.length ≤ 1000) (At : Hp → Addr → α → Prop) (keep : ∀ H H' x c, Same H H' → At H x c → At H' x c)
    (hg : ∀ c ∈ cs, ∃ σ2, (∀ HD (P : L2.St → Hp → Prop), P σ2 HD → tt2 (rowOf c) (wipe σ vs) HD P) ∧ (rowOf c).length = k ∧ wipe σ2 vs = wipe σ vs ∧ ∀ H' (Q' : VK), Same H H' → (∀ x H2, Same H' H2 → At H2 x c → Q' (.ref x) H2) → te σ2 H' Q')
    (hq : ∀ D (ws : List (Addr × α)) H', Nn H D → Same H H' → H' D = some (.lst (refsOf ws)) → ws.map (·.2) = cs → (∀ u ∈ ws, At H' u.1 u.2) → Q (.ref D) H') : LcGo (Itt K a) (gTup K k tt2) tYes (tFrm te) vs σ H Q := by
  have hl : xs.length = cs.length := by rw [r.len, List.length_map]
  refine lcgoMk (walk_tup (xs := xs)) (by omega) (fun i x => xs[i]? = some x) (fun i H x H' _ _ y => y) (fun i acc H' => Same H H' ∧ ∃ ws : List (Addr × α), acc = refsOf ws ∧ ws.map (·.2) = cs.take i ∧ ∀ u ∈ ws, At H' u.1 u.2) ⟨Same.refl _, [], rfl, rfl, nofun⟩ (fun i acc H' D _ p hD => sqT_of ((p.1.trans (same_new hD)) _ _ hx)) ?_ ?_
  · rintro i x acc H' HD hi hla ⟨sH, ws, rfl, e1, e2⟩ hxi sD
    obtain ⟨t, rw1, rfl, hr, ht⟩ := r.get hxi
    rw [List.getElem?_map] at hr
    obtain ⟨c, hc, rfl⟩ := Option.map_eq_some_iff.mp hr
    obtain ⟨σ2, g1, g2, g3, g4⟩ := hg c (List.mem_of_getElem? hc)
    refine ⟨σ2, fun P h => ⟨t, _, rfl, sqT_of (sD _ _ (sH _ _ ht)), g2, g1 _ _ h⟩, g3, fun Qc q' => g4 _ _ sH fun x H2 s2 at2 => q' _ _ ⟨sH.trans s2, ws ++ [(x, c)], by rw [refs_app]; rfl, ?_, fun u hu => ?_⟩⟩
    · rw [List.map_append, e1, List.take_add_one, hc]
      rfl
    · rcases List.mem_append.mp hu with h | h
      · exact keep _ _ _ _ s2 (e2 u h)
      · rw [List.mem_singleton.mp h]
        exact at2
  · rintro acc H' D hla ⟨sH, ws, rfl, e1, e2⟩ hD
    rw [hl, List.take_length] at e1
    have s := same_new (o := .lst (refsOf ws)) hD
    exact hq D ws _ ⟨none_sm0 sH hD⟩ (sH.trans s) upd_same e1 fun u hu => keep _ _ _ _ s (e2 u hu)
theorem g8s {σ : L2.St} {H : Hp} {P : L2.St → Hp → Prop} {a b c d e f g h : V} (q : P ((((((((σ.set 4 (some a)).set 5 (some b)).set 6 (some c)).set 7 (some d)).set 8 (some e)).set 9 (some f)).set 10 (some g)).set 11 (some h)) H) :
    gCons (gName 4) (gCons (gName 5) (gCons (gName 6) (gCons (gName 7) (gCons (gName 8) (gCons (gName 9) (gCons (gName 10) (gCons (gName 11) gNil))))))) [a, b, c, d, e, f, g, h] σ H P := ⟨_, _, rfl, _, _, rfl, _, _, rfl, _, _, rfl, _, _, rfl, _, _, rfl, _, _, rfl, _, _, rfl, rfl, q⟩
theorem g6s {σ : L2.St} {H : Hp} {P : L2.St → Hp → Prop} {a b c d e f : V} (q : P ((((((σ.set 4 (some a)).set 5 (some b)).set 6 (some c)).set 7 (some d)).set 8 (some e)).set 9 (some f)) H) :
    gCons (gName 4) (gCons (gName 5) (gCons (gName 6) (gCons (gName 7) (gCons (gName 8) (gCons (gName 9) gNil))))) [a, b, c, d, e, f] σ H P := ⟨_, _, rfl, _, _, rfl, _, _, rfl, _, _, rfl, _, _, rfl, _, _, rfl, rfl, q⟩
def sp_law_made (T : Tx K mg) : Sp := fun vs H Q _ => ∃ (t : Addr) (d : Td), vs = [.ref t] ∧ TdOk d ∧ TdAt H t d ∧
  ∀ x w L H', Nn H x → Same H H' → WoAt T H' x w L → WdOf w d → (∀ y ∈ L, H y = none) → Q (.ref x) H'
theorem ok_law_made (T : Tx K mg) : FnOk P w K mg base CX0 7 T.a_law_made T.d_law_made ["_law_world_here"] (sp_law_made T) := by
  refine T.F_law_made.ok sc_law_made (fun vs H Q E h => ?_) (fun cdv A outer s H vs Q E hr h => ?_)
  · obtain ⟨t, d, rfl, _⟩ := h
    rfl
  · refine ⟨_, (pss_cons (ps_setLc (i := 1) (own := [("_law_a", 4), ("_law_b", 5), ("_law_c", 6), ("_law_d", 7), ("_law_e", 8), ("_law_f", 9), ("_law_g", 10), ("_law_h", 11)]) (g := (gTup K 8 (gCons (gName 4) (gCons (gName 5) (gCons (gName 6) (gCons (gName 7) (gCons (gName 8) (gCons (gName 9) (gCons (gName 10) (gCons (gName 11) gNil)))))))))) (tt := tYes) rfl sc_law_made.nd rfl rfl (sw_true rfl rfl rfl (by decide +kernel)) (pi_tupK (K := K) rfl (pe_ix (ixTK (K := K) rfl) (pv 0) pe_int (fun _ _ => rfl))) (blkOk_by (own := [("_law_a", 4), ("_law_b", 5), ("_law_c", 6), ("_law_d", 7), ("_law_e", 8), ("_law_f", 9), ("_law_g", 10), ("_law_h", 11)]) (N := N_law_made) (sc := defScope s_law_made) (by decide +kernel)) (fun _ _ _ _ _ => (pg_tup rfl (pgs_cons (pg_name (i := 4) sc_law_made.nd rfl (Or.inl rfl)) (pgs_cons (pg_name (i := 5) sc_law_made.nd rfl (Or.inl rfl)) (pgs_cons (pg_name (i := 6) sc_law_made.nd rfl (Or.inl rfl)) (pgs_cons (pg_name (i := 7) sc_law_made.nd rfl (Or.inl rfl)) (pgs_cons (pg_name (i := 8) sc_law_made.nd rfl (Or.inl rfl)) (pgs_cons (pg_name (i := 9) sc_law_made.nd rfl (Or.inl rfl)) (pgs_cons (pg_name (i := 10) sc_law_made.nd rfl (Or.inl rfl)) (pgs_cons (pg_name (i := 11) sc_law_made.nd rfl (Or.inl rfl)) pgs_nil)))))))))) (fun _ _ _ _ _ => pts_nil) (fun _ _ _ _ _ => (pe_frm (pe_make T.mk_Channel (ok_Channel___init__ T) (hr.mono (by decide)) rfl T.g_Channel T.b_Channel___init__ .nil passX0 (pa_cons (pv 4) (pa_cons (pv 5) (pa_cons (pv 6) (pa_cons (pv 7) (pa_cons (pv 8) (pa_cons (pv 9) (pa_cons (pv 10) (pa_cons (pv 11) pa_nil))))))))))))
        (pss_cons (ps_set (i := 2) sc_law_made.nd rfl (Or.inl rfl) (pe_callTy (tupOfK (K := K) rfl) (by rfl) T.m_tuple (by decide +kernel) (pa_cons (pe_lc (own := [("_law_a", 4), ("_law_b", 5), ("_law_c", 6), ("_law_d", 7), ("_law_e", 8), ("_law_f", 9)]) (g := (gTup K 6 (gCons (gName 4) (gCons (gName 5) (gCons (gName 6) (gCons (gName 7) (gCons (gName 8) (gCons (gName 9) gNil)))))))) (tt := tYes) rfl sc_law_made.nd (pi_tupK (K := K) rfl (pe_ix (ixTK (K := K) rfl) (pv 0) pe_int (fun _ _ => rfl))) (blkOk_by (own := [("_law_a", 4), ("_law_b", 5), ("_law_c", 6), ("_law_d", 7), ("_law_e", 8), ("_law_f", 9)]) (N := N_law_made) (sc := defScope s_law_made) (by decide +kernel)) (fun _ _ _ _ _ => (pg_tup rfl (pgs_cons (pg_name (i := 4) sc_law_made.nd rfl (Or.inl rfl)) (pgs_cons (pg_name (i := 5) sc_law_made.nd rfl (Or.inl rfl)) (pgs_cons (pg_name (i := 6) sc_law_made.nd rfl (Or.inl rfl)) (pgs_cons (pg_name (i := 7) sc_law_made.nd rfl (Or.inl rfl)) (pgs_cons (pg_name (i := 8) sc_law_made.nd rfl (Or.inl rfl)) (pgs_cons (pg_name (i := 9) sc_law_made.nd rfl (Or.inl rfl)) pgs_nil)))))))) (fun _ _ _ _ _ => pts_nil) (fun _ _ _ _ _ => (pe_frm (pe_make T.mk_Breaker (ok_Breaker___init__ T) (hr.mono (by decide)) rfl T.g_Breaker T.b_Breaker___init__ .nil passX0 (pa_cons (pv 4) (pa_cons (pv 5) (pa_cons (pv 6) (pa_cons (pv 7) (pa_cons (pv 8) (pa_cons (pv 9) pa_nil)))))))))) pa_nil)))
        (pss_cons (ps_setLc (i := 3) (own := [("_law_a", 4), ("_law_b", 5), ("_law_c", 6), ("_law_d", 7), ("_law_e", 8), ("_law_f", 9)]) (g := (gTup K 6 (gCons (gName 4) (gCons (gName 5) (gCons (gName 6) (gCons (gName 7) (gCons (gName 8) (gCons (gName 9) gNil)))))))) (tt := tYes) rfl sc_law_made.nd rfl rfl (sw_true rfl rfl rfl (by decide +kernel)) (pi_tupK (K := K) rfl (pe_ix (ixTK (K := K) rfl) (pv 0) pe_int (fun _ _ => rfl))) (blkOk_by (own := [("_law_a", 4), ("_law_b", 5), ("_law_c", 6), ("_law_d", 7), ("_law_e", 8), ("_law_f", 9)]) (N := N_law_made) (sc := defScope s_law_made) (by decide +kernel)) (fun _ _ _ _ _ => (pg_tup rfl (pgs_cons (pg_name (i := 4) sc_law_made.nd rfl (Or.inl rfl)) (pgs_cons (pg_name (i := 5) sc_law_made.nd rfl (Or.inl rfl)) (pgs_cons (pg_name (i := 6) sc_law_made.nd rfl (Or.inl rfl)) (pgs_cons (pg_name (i := 7) sc_law_made.nd rfl (Or.inl rfl)) (pgs_cons (pg_name (i := 8) sc_law_made.nd rfl (Or.inl rfl)) (pgs_cons (pg_name (i := 9) sc_law_made.nd rfl (Or.inl rfl)) pgs_nil)))))))) (fun _ _ _ _ _ => pts_nil) (fun _ _ _ _ _ => (pe_frm (pe_make T.mk_Ship (ok_Ship___init__ T) (hr.mono (by decide)) rfl T.g_Ship T.b_Ship___init__ .nil passX0 (pa_cons (pv 4) (pa_cons (pv 5) (pa_cons (pv 6) (pa_cons (pv 7) (pa_cons (pv 8) (pa_cons (pv 9) pa_nil))))))))))
        (pss_one (ps_ret (pe_make T.mk_World (ok_World___init__ T) (hr.mono (by decide)) rfl T.g_World T.b_World___init__ .nil passX0 (pa_cons (pe_ix (ixTK (K := K) rfl) (pv 0) pe_int (fun _ _ => rfl)) (pa_cons (pe_callTy (listOfK (K := K) rfl) (by rfl) T.m_list (by decide +kernel) (pa_cons (pe_ix (ixTK (K := K) rfl) (pv 0) pe_int (fun _ _ => rfl)) pa_nil)) (pa_cons (pv 1) (pa_cons (pv 2) (pa_cons (pv 3) pa_nil))))))))))), ?_⟩
    obtain ⟨t, d, rfl, ok, ⟨tp, tc, tk, ts, pc, pk, ps, ht, htp, htc, rc, htk, rk, hts, rs⟩, q⟩ := h
    walk_at "rd"
    refine rd_it (sqT_of htc) ?_
    refine lcMk chV htc rc (Nat.le_trans ok.c12 (by decide)) (fun H x c => ChanAt T H x c) (fun H H' x c s h => h.imp fun _ e => s _ _ e) (fun c hc => ?_) fun l1 cs H1 n_l1 s_H1 e_l1 m1 a1 => ?_
    · generalize hw : wipe _ _ = σ0
      have hs : σ0 = [some (.ref t), none, none, none, none, none, none, none, none, none, none, none] := by
        rw [← hw]
        kernel_rfl
      clear hw
      subst hs
      refine ⟨[some (.ref t), none, none, none, some (.str c.name), some (.str c.one), some (.str c.other), some (.int c.hours), some (.int c.depth), some (.int c.first), some (.int c.growth), some (.int c.most)], fun HD P h => g8s h, rfl, by kernel_rfl, fun H' Q' s q' => ?_⟩
      obtain ⟨c1, c2, c3, c4, c5⟩ := ok.co c hc
      walk_at "rd"
      refine rd_mkChan T c c1 ⟨c2, c3, c4, c5⟩ fun x H2 n s2 h => q' x H2 s2 h
    have htk1 := s_H1 _ _ htk
    have rk1 := rk.keep s_H1
    walk_at "rd"
    refine rd_it (sqT_of htk1) ?_
    refine lcMk veV htk1 rk1 (Nat.le_trans ok.k4 (by decide)) (fun H x c => VeAt T H x c) (fun H H' x c s h => h.keep s) (fun v hv => ?_) fun l2 ks H2 n_l2 s_H2 e_l2 m2 a2 => ?_
    · generalize hw : wipe _ _ = σ0
      have hs : σ0 = [some (.ref t), some (.ref l1), none, none, none, none, none, none, none, none, none, none] := by
        rw [← hw]
        kernel_rfl
      clear hw
      subst hs
      have hk := ok.kk v hv
      have eV := veV_1 hk
      obtain ⟨v1, v2⟩ := ok.ko v (List.mem_append_left _ hv)
      refine ⟨[some (.ref t), some (.ref l1), none, none, some (.str v.name), some (.str v.port), some (.int v.hour), some (.int v.strength), some (.int v.draught), some (.int v.cut), none, none], fun HD P h => by rw [eV]; exact g6s h, by rw [eV]; rfl, by kernel_rfl, fun H' Q' s q' => ?_⟩
      walk_at "rd"
      have z := rd_mkBr (H := H') (Q := Q') (E := E0) T v hk v1 v2 fun x H2 n s2 h => q' x H2 s2 h
      rw [eV] at z
      exact z
    walk_at "rd"
    refine rd_tupB2 (sqL_of e_l2) fun t3 H3 n_t3 s_H3 e_t3 => ?_
    have s03 := (s_H1.trans s_H2).trans s_H3
    have hts3 := s03 _ _ hts
    have rs3 := rs.keep s03
    walk_at "rd"
    refine rd_it (sqT_of hts3) ?_
    refine lcMk veV hts3 rs3 (Nat.le_trans ok.s6 (by decide)) (fun H x c => VeAt T H x c) (fun H H' x c s h => h.keep s) (fun v hv => ?_) fun l4 ss H4 n_l4 s_H4 e_l4 m4 a4 => ?_
    · generalize hw : wipe _ _ = σ0
      have hs : σ0 = [some (.ref t), some (.ref l1), some (.ref t3), none, none, none, none, none, none, none, none, none] := by
        rw [← hw]
        kernel_rfl
      clear hw
      subst hs
      have hk := ok.sk v hv
      have eV := veV_2 hk
      obtain ⟨v1, v2⟩ := ok.ko v (List.mem_append_right _ hv)
      refine ⟨[some (.ref t), some (.ref l1), some (.ref t3), none, some (.str v.name), some (.str v.port), some (.str v.goal), some (.int v.hour), some (.int v.strength), some (.int v.draught), none, none], fun HD P h => by rw [eV]; exact g6s h, by rw [eV]; rfl, by kernel_rfl, fun H' Q' s q' => ?_⟩
      walk_at "rd"
      have z := rd_mkSh (H := H') (Q := Q') (E := E0) T v hk v1 v2 fun x H2 n s2 h => q' x H2 s2 h
      rw [eV] at z
      exact z
    walk_at "rd"
    have s04 := s03.trans s_H4
    refine rd_listOf (sqA_t (s04 _ _ htp)) fun lp H5 n_lp s_H5 e_lp => ?_
    walk_at "rd"
    have s45 := s_H4.trans s_H5
    have s15 := ((s_H2.trans s_H3).trans s45)
    refine rd_mkWorldT T ok (.inl e_lp) (.inl (s15 _ _ e_l1)) (.inr (s45 _ _ e_t3)) (.inl (s_H5 _ _ e_l4)) m1 m2 m4 (fun u hu => (a1 u hu).imp fun _ e => s15 _ _ e) (fun u hu => ((a2 u hu).keep s_H3).keep s45) (fun u hu => (a4 u hu).keep s_H5) fun x w L H6 n_x hL s_H6 hwd _ _ _ hW => ?_
    have s05 := s04.trans s_H5
    exact q x w L H6 ⟨none_sm0 s05 n_x.e⟩ (s05.trans s_H6) hW hwd fun y hy => none_sm0 s05 (hL y hy)

/-- a comprehension over rows that keeps some, by draws -/
theorem lcTake {α : Type} {σ : L2.St} {H : Hp} {Q : VK} {J : It} {G : Hp → Prop} {te : TE} {tt : TT} {vs : List Nat} {k : Nat} {ps : List V} {cs : List α} {f : α → List V} {nm : α → Str} {p : Addr} {n : Nat} (w : Walk J ps.length G (YAt ps)) (hf : ∀ x, ∃ r, f x = .str (nm x) :: r) (hr : RowsAt H ps (cs.map f)) (hz : ps.length ≤ 1000) (hB : BoxAt H p n) (hG : ∀ H', KeepB p H H' → G H')
    (hw : ∀ x, wipe ((wipe σ vs).set k (some x)) vs = wipe σ vs)
    (ht : ∀ t H' m (P : Bool → Hp → Prop), BoxAt H' p m → m ≤ n + 1000 → (∀ b H2, BoxAt H2 p (m + 1) → KeepB p H' H2 → P b H2) → tt ((wipe σ vs).set k (some (.ref t))) H' P)
    (he : ∀ t c r H' (Q' : VK), c ∈ cs → H' t = some (.tup (.str (nm c) :: r)) → Q' (.str (nm c)) H' → te ((wipe σ vs).set k (some (.ref t))) H' Q')
    (q : ∀ D (us : List α) H', Nn H D → D ≠ p → BoxAt H' p (n + ps.length) → KeepB p H H' → us.Sublist cs → H' D = some (.lst (strsV (us.map nm))) → Q (.ref D) H') : LcGo J (gName k) tt (tFrm te) vs σ H Q := by
  refine fun D hD => ?_
  have Dp : D ≠ p := hB.ne hD
  refine lc_it w (fun i Hc => ∃ (us : List α) (H0 : Hp), us.length ≤ i ∧ Hc = upd H0 D (.lst (strsV (us.map nm))) ∧ H0 D = none ∧ KeepB p H H0 ∧ BoxAt H0 p (n + i) ∧ us.Sublist (cs.take i)) ⟨[], H, Nat.le_refl _, rfl, hD, KeepB.refl _ _, hB, List.Sublist.refl _⟩ (fun i Hc hi ⟨us, H0, _, e, hn, kk, _, _⟩ => e ▸ hG _ (kk.new hD)) ?_ ?_
  · rintro i x Hc Hd hi ⟨us, H0, hla, rfl, hn, kk, b0, sl⟩ ⟨e0, hx⟩
    subst e0
    obtain ⟨t, r, c, rfl, hc, htc⟩ := rows_0 hf hr hx
    refine ⟨hw _, ?_⟩
    refine ht t _ _ _ (b0.new Dp.symm) (by omega) fun b H3 b3 k3 => ?_
    have e3 : H3 D = some (.lst (strsV (us.map nm))) := k3 _ _ upd_same Dp
    have uw : upd (Wo D H3) D (.lst (strsV (us.map nm))) = H3 := by
      funext b
      by_cases e : b = D
      · subst e
        rw [upd_same, e3]
      · rw [upd_ne e, wo_ne e]
    have kW : KeepB p H (Wo D H3) := fun b o e np => by
      have n1 : b ≠ D := ne_of_none e hD
      rw [wo_ne n1]
      exact k3 _ _ (by rw [upd_ne n1]; exact kk _ _ e np) np
    have bW : BoxAt (Wo D H3) p (n + i + 1) := b3.wo Dp.symm
    have st : cs.take (i + 1) = cs.take i ++ [c] := by rw [List.take_add_one, hc]; rfl
    cases b with
    | false =>
      refine iteF ⟨us, Wo D H3, by omega, uw.symm, wo_same, kW, bW, ?_⟩
      rw [st]
      exact sl.trans (List.sublist_append_left _ _)
    | true =>
      have tp : t ≠ p := fun z => by
        obtain ⟨_, _, _, e2, _⟩ := hB
        rw [z, e2] at htc
        cases htc
      refine iteT ⟨D, strsV (us.map nm), e3, ?_⟩
      refine he t c r _ _ (List.mem_of_getElem? hc) (kW _ _ htc tp) fun hD4 => ?_
      have lz : (strsV (us.map nm)).length = us.length := by rw [strs_len, List.length_map]
      refine ⟨strsV (us.map nm), upd_same, Nat.lt_of_lt_of_le (show (strsV (us.map nm)).length < 100000 by omega) (by decide), us ++ [c], Wo D H3, by rw [List.length_append]; show us.length + 1 ≤ i + 1; omega, ?_, wo_same, kW, bW, ?_⟩
      · rw [upd_upd]
        congr 2
        unfold strsV
        rw [List.map_append, List.map_append]
        rfl
      · rw [st]
        exact sl.append (List.Sublist.refl _)
  · rintro Hc ⟨us, H0, hla, rfl, hn, kk, b0, sl⟩
    rw [hr.len, List.length_map, List.take_length] at sl
    exact q D us _ ⟨hD⟩ Dp (b0.new Dp.symm) (kk.new hD) sl upd_same
theorem RowsAt.take {H : Hp} {ps : List V} {rs : List (List V)} (h : RowsAt H ps rs) : ∀ n : Nat, RowsAt H (ps.take n) (rs.take n) := by
  induction h with
  | nil => intro n; rw [List.take_nil, List.take_nil]; exact .nil
  | cons e _ ih =>
    intro n
    cases n with
    | zero => exact .nil
    | succ n => exact .cons e (ih n)
def sp_law_table (K : PySem.W.Frag) : Sp := fun vs H Q _ => ∃ (p t : Addr) (n : Nat) (d : Td), vs = [.ref p, .ref t] ∧ BoxAt H p n ∧ n ≤ 80000 ∧ TdAt H t d ∧ TdOk d ∧
  ∀ x rs H', Nn H x → (∀ r ∈ rs, Nn H r.1) → TbQ H' x rs → GoodT d.begin (vsD d) (csD d) 12 (rs.map (·.2)) → (∀ r ∈ rs, ∀ e ∈ r.2.2, e.1 ≤ 2000000) → BoxAt H' p (n + 1000) → KeepB p H H' → Q (.ref x) H'
theorem ok_law_table (T : Tx K mg) : FnOk P w K mg base CX0 3 T.a_law_table T.d_law_table ["_law_box_here", "_law_world_here"] (sp_law_table K) := by
  refine T.F_law_table.ok sc_law_table (fun vs H Q E h => ?_) (fun cdv A outer s H vs Q E hr h => ?_)
  · obtain ⟨p, t, n, d, rfl, _⟩ := h
    rfl
  · refine ⟨_, (pss_cons (ps_setLc (i := 2) (own := [("_law_row", 11)]) (g := gName 11) rfl sc_law_table.nd rfl rfl (sw_true rfl rfl rfl (by decide +kernel)) (pi_tupK (K := K) rfl (pe_op (catAK (K := K) rfl) (pe_ix (ixTK (K := K) rfl) (pv 1) pe_int (fun _ _ => rfl)) (pe_ix (ixTK (K := K) rfl) (pv 1) pe_int (fun _ _ => rfl)))) (blkOk_by (own := [("_law_row", 11)]) (N := N_law_table) (sc := defScope s_law_table) (by decide +kernel)) (fun _ _ _ _ _ => (pg_name (i := 11) sc_law_table.nd rfl (Or.inl rfl))) (fun _ _ _ _ _ => (pts_one (pt_cmpR op_gt (pe_call (ok_law_take T) (hr.mono (by decide)) (by rfl) T.g_law_take T.F_law_take.kp T.b_law_take .nil pass0 (pa_cons (pv 0) (pa_cons pe_int pa_nil))) pe_int (nomark _)))) (fun _ _ _ _ _ => (pe_frm (pe_ix (ixTK (K := K) rfl) (pv 11) pe_int (fun _ _ => rfl)))))
        (pss_cons (ps_setLc (i := 3) (own := [("_law_row", 11)]) (g := gName 11) (tt := tYes) rfl sc_law_table.nd rfl rfl (sw_true rfl rfl rfl (by decide +kernel)) (pi_tupK (K := K) rfl (pe_ix (ixTK (K := K) rfl) (pv 1) pe_int (fun _ _ => rfl))) (blkOk_by (own := [("_law_row", 11)]) (N := N_law_table) (sc := defScope s_law_table) (by decide +kernel)) (fun _ _ _ _ _ => (pg_name (i := 11) sc_law_table.nd rfl (Or.inl rfl))) (fun _ _ _ _ _ => pts_nil) (fun _ _ _ _ _ => (pe_frm (pe_ix (ixTK (K := K) rfl) (pv 11) pe_int (fun _ _ => rfl)))))
        (pss_cons (ps_set (i := 4) sc_law_table.nd rfl (Or.inl rfl) pe_dnewK)
        (pss_cons (ps_for PassesOwn.never rfl (pi_listK (K := K) rfl (pv 2)) (pg_name (i := 5) sc_law_table.nd rfl (Or.inl rfl))
        (pss_cons (ps_set (i := 6) sc_law_table.nd rfl (Or.inl rfl) (pe_ix (ixTK (K := K) rfl) (pv 1) pe_int (fun _ _ => rfl)))
        (pss_cons (ps_set (i := 7) sc_law_table.nd rfl (Or.inl rfl) (pe_lst pa_nil))
        (pss_cons (ps_for PassesOwn.never rfl (pi_range1 (by rfl) T.m_range (pa_cons (pe_op op_mul (pe_call (ok_law_take T) (hr.mono (by decide)) (by rfl) T.g_law_take T.F_law_take.kp T.b_law_take .nil pass0 (pa_cons (pv 0) (pa_cons pe_int pa_nil))) (pe_callTy int1 (by rfl) T.m_int (by decide +kernel) (pa_cons (pe_cmpR (neW (K := K) rfl hr.units) (pv 3) (pe_lst pa_nil) (nomark _)) pa_nil))) pa_nil)) (pg_name (i := 8) sc_law_table.nd rfl (Or.inl rfl))
        (pss_cons (ps_set (i := 6) sc_law_table.nd rfl (Or.inl rfl) (pe_op op_add (pe_op op_add (pv 6) (pe_call (ok_law_number T) (hr.mono (by decide)) (by rfl) T.g_law_number T.F_law_number.kp T.b_law_number .nil pass0 (pa_cons (pv 0) (pa_cons pe_int (pa_cons pe_int pa_nil))))) (pe_callTy int1 (by rfl) T.m_int (by decide +kernel) (pa_cons (pe_cmpR op_gt (pv 8) pe_int (nomark _)) pa_nil))))
        (pss_one (ps_expr (pe_bm PySem.F.plainAttrs_list PySem.F.slot_list_append PySem.F.type_list_append mt_append (pv 7) (pa_cons (pe_tup (pa_cons (pv 6) (pa_cons (pe_ix (ixLK (K := K) rfl) (pv 3) (pe_call (ok_law_take T) (hr.mono (by decide)) (by rfl) T.g_law_take T.F_law_take.kp T.b_law_take .nil pass0 (pa_cons (pv 0) (pa_cons (pe_callB (lenK (K := K) rfl) (by rfl) T.m_len (by decide +kernel) (pa_cons (pv 3) pa_nil)) pa_nil))) (fun _ _ => rfl)) pa_nil))) pa_nil))))))
        (pss_one (ps_dput (hu_of hr) (pv 4) (pv 5) (pe_ix (ixLK (K := K) rfl) (pe_lst (pa_cons (pv 7) (pa_cons (pe_callTy (tupOfK (K := K) rfl) (by rfl) T.m_tuple (by decide +kernel) (pa_cons (pv 7) pa_nil)) pa_nil))) (pe_call (ok_law_take T) (hr.mono (by decide)) (by rfl) T.g_law_take T.F_law_take.kp T.b_law_take .nil pass0 (pa_cons (pv 0) (pa_cons pe_int pa_nil))) (fun _ _ => rfl)) rfl))))))
        (pss_cons (ps_set (i := 9) sc_law_table.nd rfl (Or.inl rfl) (LiI.pe_listItems rfl (pv 4) (by rfl) T.m_list (by decide +kernel)))
        (pss_cons (ps_set (i := 10) sc_law_table.nd rfl (Or.inl rfl) (pe_call (ok_law_take T) (hr.mono (by decide)) (by rfl) T.g_law_take T.F_law_take.kp T.b_law_take .nil pass0 (pa_cons (pv 0) (pa_cons (pe_op op_add (pe_callB (lenK (K := K) rfl) (by rfl) T.m_len (by decide +kernel) (pa_cons (pv 9) pa_nil)) pe_int) pa_nil))))
        (pss_one (ps_ret (pe_callTy (dictPK (K := K) rfl rfl) (by rfl) T.m_dict (by decide +kernel) (pa_cons (pe_op op_cat (pe_slice (slLK (K := K) rfl) (pv 9) (po_some (pv 10)) po_none) (pe_revLK (K := K) rfl (pe_slice (slLK (K := K) rfl) (pv 9) po_none (po_some (pv 10))))) pa_nil)))))))))), ?_⟩
    obtain ⟨p, t, n, d, rfl, hB, hn, ⟨tp, tc, tk, ts, pc, pk, ps, ht, htp, htc, rc, htk, rk, hts, rs0⟩, ok, q⟩ := h
    have k4 := ok.k4
    have s6 := ok.s6
    have c12 := ok.c12
    have lk4 : pk.length ≤ 4 := by rw [rk.len, List.length_map]; exact k4
    have ls6 : ps.length ≤ 6 := by rw [rs0.len, List.length_map]; exact s6
    have lc12 : pc.length ≤ 12 := by rw [rc.len, List.length_map]; exact c12
    walk_at "rd"
    refine rd_catX (fun t1 H1 s_H1 e_t1 => ?_) htk hts
    have b1 := hB.keep s_H1
    have t1p : t1 ≠ p := fun z => by
      obtain ⟨_, _, _, e2, _⟩ := b1
      rw [z, e2] at e_t1
      cases e_t1
    walk_at "rd"
    refine rd_it (sqT_of e_t1) ?_
    have rv : RowsAt H1 (pk ++ ps) ((d.brks ++ d.ships).map veV) := by
      rw [List.map_append]
      exact (rk.app rs0).keep s_H1
    refine lcTake walk_tup veV_0s rv (by rw [List.length_append]; omega) b1 (fun H' k => sqT_of (k _ _ e_t1 t1p)) (fun _ => rfl) (fun t' H' m P b' hm' q' => ?_) (fun t' c r H' Q' hc ht' q' => ?_) fun D us H2 n_D D_p b_H2 k_H2 sl e_D => ?_
    · walk_at "rd"
      refine rd_takeB (fun dr Hx dr_0 dr_1 b_Hx k_Hx => ?_) b'
      walk_at "rd"
      exact q' _ _ b_Hx k_Hx
    · walk_at "rd"
      exact q'
    have k02 : KeepB p H H2 := (Same.keepB s_H1).trans k_H2
    have ht2 := k02 _ _ ht (fun z => by
      obtain ⟨_, _, _, e2, _⟩ := hB
      rw [z, e2] at ht
      cases ht)
    have tup02 := kb_tup k02 hB
    have htc2 := tup02 _ _ htc
    walk_at "rd"
    refine rd_it (sqT_of htc2) ?_
    refine lc_names walk_tup chV_0s (rc.same tup02) (by omega) (fun H' s => sqT_of (s _ _ htc2)) (fun _ => rfl) (fun t c2 r H' Q' hc ht q' => ?_) (fun D2 H3 n_D2 s_H3 e_D2 => ?_)
    · walk_at "rd"
      exact q'
    have e_D2 : H3 D2 = some (.lst (strsV (csD d))) := e_D2
    have b_H3 := b_H2.keep s_H3
    walk_at "rd"
    refine rd_dnewB fun t0 H4 n_t0 s_H4 e_t0 => ?_ <;> walk_at "rd"
    have e_D4 := s_H4 _ _ (s_H3 _ _ e_D)
    have e_D24 := s_H4 _ _ e_D2
    have s24 := s_H3.trans s_H4
    have ht4 := s24 _ _ ht2
    have b4 := b_H3.keep s_H4
    have k04 : KeepB p H H4 := k02.trans (Same.keepB s24)
    have t0p : t0 ≠ p := b_H3.ne n_t0.e
    have D2p : D2 ≠ p := b_H2.ne n_D2.e
    have Dt0 : D ≠ t0 := ne_of_none (s_H3 _ _ e_D) n_t0.e
    have D2t0 : D2 ≠ t0 := ne_of_none e_D2 n_t0.e
    have lus : us.length ≤ 10 := by
      have := sl.length_le
      rw [List.length_append] at this
      omega
    have lbx : (pk ++ ps).length ≤ 10 := by rw [List.length_append]; omega
    have b4 := b4.mono (show n + (pk ++ ps).length ≤ n + 10 by omega)
    have ndU : (us.map (·.name)).Nodup := List.Pairwise.sublist (sl.map _) ok.vd
    have memU : ∀ z ∈ us.map (·.name), z ∈ vsD d := fun z hz => (sl.map _).subset hz
    have db0 := ok.b0
    have db1 := ok.b1
    have fr : ∀ {H' : Hp} {m : Nat} {x : Addr}, BoxAt H' p m → (∀ b o, H4 b = some o → b ≠ p → b ≠ t0 → H' b = some o) → H' x = none → Nn H x := fun {H' m x} b k h => ⟨by
      cases e : H x with
      | none => rfl
      | some o =>
        have np : x ≠ p := fun z => by
          obtain ⟨_, _, _, z2, _⟩ := b
          rw [z, z2] at h
          cases h
        have n0 : x ≠ t0 := fun z => by
          have := n_t0.e
          rw [← z, s_H3 _ _ (k02 _ _ e np)] at this
          cases this
        exact absurd ((k _ _ (k04 _ _ e np) np n0).symm.trans h) nofun⟩
    have k03 : KeepB p H H3 := k02.trans (Same.keepB s_H3)
    clear sl n_D k_H2 b_H2 b_H3 k02 tup02 rv e_t1 s_H1
    have lzs : (us.map (·.name)).length ≤ 10 := by rw [List.length_map]; exact lus
    generalize us.map (·.name) = zs at ndU memU e_D4 e_D lzs
    refine rd_ilB ?_ <;> walk_at "rd"
    refine forgo (walk_list (xs := strsV zs)) (fun i σ' H' => ∃ rs : List Rl, BoxAt H' p (n + 10 + 60 * i) ∧ (∀ b o, H4 b = some o → b ≠ p → b ≠ t0 → H' b = some o) ∧ TbQ H' t0 rs ∧ (∀ r ∈ rs, Nn H r.1) ∧ (∀ r ∈ rs, r.2.1 ∈ zs.take i) ∧ (rs.map (·.2.1)).Nodup ∧ rs.length ≤ i ∧ (∀ r ∈ rs, GoodE d.begin (csD d) r.2.2 ∧ r.2.2.length ≤ 12 ∧ ∀ e ∈ r.2.2, e.1 ≤ 2000000) ∧
      ∃ x5 x6 x7 x8, σ' = [some (.ref p), some (.ref t), some (.ref D), some (.ref D2), some (.ref t0), x5, x6, x7, x8, none, none, none]) ⟨[], b4, fun b o h _ _ => h, ⟨e_t0, (fun _ h => nomatch h)⟩, (fun _ h => nomatch h), (fun _ h => nomatch h), List.nodup_nil, Nat.le_refl _, (fun _ h => nomatch h), _, _, _, _, rfl⟩ (fun _ _ _ _ q => by
        obtain ⟨_, _, q, _⟩ := q
        exact sqL_of (q _ _ e_D4 D_p Dt0)) ?_ ?_
    · rintro i x σ' Hq Hx hi ⟨rs, bx, kx, ⟨ht0, hrs⟩, nrs, nus, ndn, lrs, good, x5, x6, x7, x8, rfl⟩ ⟨e0, hx⟩
      obtain rfl : Hx = Hq := e0
      rw [strs_len] at hi
      unfold strsV at hx
      rw [List.getElem?_map] at hx
      obtain ⟨z, hz, rfl⟩ := Option.map_eq_some_iff.mp hx
      have htp : t ≠ p := fun z => by
        obtain ⟨_, _, _, z2, _⟩ := b4
        rw [z, z2] at ht4
        cases ht4
      have ht0t : t ≠ t0 := ne_of ht4 e_t0 nofun
      have htx := kx _ _ ht4 htp ht0t
      have e_D2x := kx _ _ e_D24 D2p D2t0
      walk_at "rd"
      refine rd_lstB fun le Ha n_le s_Ha e_le => ?_ <;> walk_at "rd"
      walk_at "rd"
      refine rd_takeB fun tk Hb tk_0 tk_1 b_Hb k_Hb => ?_ <;> walk_at "rd"
      refine rd_lstB fun l9 Hc n_l9 s_Hc e_l9 => ?_ <;> walk_at "rd"
      have lep : le ≠ p := bx.ne n_le.e
      have e_D2c := s_Hc _ _ (k_Hb _ _ (s_Ha _ _ e_D2x) D2p)
      refine rd_neEmp (sqL_of e_D2c) (sqL_of e_l9) (ne_of_none (k_Hb _ _ (s_Ha _ _ e_D2x) D2p) n_l9.e) ?_
      obtain ⟨g, hg, g01, g1⟩ : ∃ g : Int, (if (!(strsV (csD d)).isEmpty) = true then 1 else 0) = g ∧ (g = 0 ∨ g = 1) ∧ (g = 1 → 1 ≤ (csD d).length) := by
        cases hc : csD d with
        | nil => exact ⟨0, rfl, .inl rfl, nofun⟩
        | cons _ _ => exact ⟨1, rfl, .inr rfl, fun _ => by rw [List.length_cons]; omega⟩
      walk_at "rd"
      refine rd_intD hg ?_
      refine rd_I (.inl ⟨by omega, by omega⟩) ?_
      obtain ⟨mn, hmn, mn12, mnc⟩ : ∃ mn : Nat, tk * g = (mn : Int) ∧ mn ≤ 12 ∧ (0 < mn → 1 ≤ (csD d).length) := by
        rcases g01 with rfl | rfl
        · exact ⟨0, by omega, by omega, fun h => absurd h (by decide)⟩
        · exact ⟨tk.toNat, by omega, by omega, fun _ => g1 rfl⟩
      rw [hmn]
      walk_at "rd"
      refine rd_r1 (by omega) (by omega) ?_
      have e_lec := s_Hc _ _ (k_Hb _ _ e_le lep)
      have kxc : KeepB p Hx Hc := ((Same.keepB s_Ha).trans k_Hb).trans (Same.keepB s_Hc)
      have bc := b_Hb.keep s_Hc
      refine forgo walk_range (fun k σ' H' => ∃ (es : List En) (ho : Int) (x8 : Option V), BoxAt H' p (n + 10 + 60 * i + 1 + 3 * k) ∧ (∀ b o, Hc b = some o → b ≠ p → b ≠ le → H' b = some o) ∧ RlAt H' le es ∧ es.length = k ∧ GoodE d.begin (csD d) es ∧ (∀ e ∈ es, e.1 ≤ ho) ∧ d.begin ≤ ho ∧ ho ≤ 1000000 + 100 * (k : Int) ∧
        σ' = [some (.ref p), some (.ref t), some (.ref D), some (.ref D2), some (.ref t0), some (.str z), some (.int ho), some (.ref le), x8, none, none, none]) ⟨[], d.begin, _, bc.mono (by omega), fun b o h _ _ => h, ⟨[], e_lec, .nil⟩, rfl, ⟨(fun _ h => nomatch h), List.Pairwise.nil⟩, (fun _ h => nomatch h), Int.le_refl _, by omega, rfl⟩ (fun _ _ _ _ _ => trivial) ?_ ?_
      · rintro k x σ' Hr Hy hk ⟨es, ho, x8, by_, ky, ⟨pe, e_ley, re⟩, el, ge, lte, hb0, hb1, rfl⟩ ⟨hHi, rfl⟩
        obtain rfl : Hy = Hr := hHi
        have mc := mnc (by omega)
        have D2le : D2 ≠ le := ne_of_none (kx _ _ e_D24 D2p D2t0) n_le.e
        have e_D2y := ky _ _ e_D2c D2p D2le
        walk_at "rd"
        refine rd_number (lo := 0) (hi := 99) fun nu Hd nu0 nu1 b_Hd k_Hd => ?_
        walk_at "rd"
        obtain ⟨g2, hg2, g20, g21, g22⟩ : ∃ g2 : Int, (if decide (0 < 0 + (k : Int)) = true then (1 : Int) else 0) = g2 ∧ 0 ≤ g2 ∧ g2 ≤ 1 ∧ (0 < k → g2 = 1) := by
          by_cases h : 0 < 0 + (k : Int)
          · exact ⟨1, by rw [decide_eq_true h]; rfl, by decide, by decide, fun _ => rfl⟩
          · exact ⟨0, by rw [decide_eq_false h]; rfl, by decide, by decide, fun h2 => absurd h2 (by omega)⟩
        refine rd_intD hg2 ?_
        walk_at "rd"
        have e_led := k_Hd _ _ e_ley lep
        refine rd_tyL (sqL_of e_led) ?_
        have e_D2d := k_Hd _ _ e_D2y D2p
        walk_at "rd"
        refine rd_takeB (hm := by rw [strs_len]; omega) (hm2 := Int.le_trans (show _ ≤ (1000 : Int) by rw [strs_len]; unfold csD; rw [List.length_map]; omega) (by decide)) fun ci Hf ci_0 ci_1 b_Hf k_Hf => ?_
        walk_at "rd"
        refine rd_ixAny1 (sqL_of (k_Hf _ _ e_D2d D2p)) ci_0 ci_1 fun v hv => ?_
        unfold strsV at hv
        obtain ⟨c, hc, rfl⟩ := List.mem_map.mp hv
        walk_at "rd"
        refine rd_tupB fun t2 Hg n_t2 s_Hg e_t2 => ?_ <;> walk_at "rd"
        have e_le3 := s_Hg _ _ (k_Hf _ _ e_led lep)
        have kyg : KeepB p Hy Hg := (k_Hd.trans k_Hf).trans (Same.keepB s_Hg)
        have re3 : RowsAt Hg pe (es.map enV) := re.same (kb_tup kyg by_)
        have lpe : pe.length = es.length := by rw [re.len, List.length_map]
        refine rd_append e_le3 (by omega) ?_
        refine ⟨es ++ [(ho + nu + g2, c)], ho + nu + g2, _, ((b_Hf.keep s_Hg).new lep.symm).mono (by omega), fun b o h np nl => ?_, ⟨pe ++ [.ref t2], upd_same, ?_⟩, by rw [List.length_append]; show es.length + 1 = k + 1; omega, ge.snoc (okEn_mk (by show d.begin ≤ _; omega) (by show _ ≤ (100000000 : Int); omega) hc) (fun x hx => ?_), fun x hx => ?_, by omega, by omega, rfl⟩
        · rw [upd_ne nl]
          exact kyg _ _ (ky _ _ h np nl) np
        · rw [List.map_append]
          have kt : ∀ b xs, Hg b = some (.tup xs) → (upd Hg le (.lst (pe ++ [.ref t2]))) b = some (.tup xs) := fun b xs h => by rw [upd_ne (ne_of h e_le3 nofun)]; exact h
          exact (re3.same kt).snoc (kt _ _ e_t2)
        · have h1 := lte x hx
          have h2 := g22 (by rw [← el]; exact List.length_pos_of_mem hx)
          show x.1 < ho + nu + g2
          omega
        · rcases List.mem_append.mp hx with hx | hx
          · have := lte x hx
            omega
          · rw [List.mem_singleton.mp hx]
            exact Int.le_refl _
      · rintro σ' Hy ⟨es, ho, x8, by_, ky, ⟨pe, e_ley, re⟩, el, ge, lte, hb0, hb1, rfl⟩
        rw [Int.toNat_natCast] at by_ el hb1
        have lpe : pe.length = es.length := by rw [re.len, List.length_map]
        have bef : ∀ {b o}, Hx b = some o → b ≠ p → Hy b = some o := fun h np => ky _ _ (kxc _ _ h np) np (ne_of_none h n_le.e)
        have ht0y := bef ht0 t0p
        have hrsy : ∀ r ∈ rs, ∃ ps, SeqOf Hy r.1 ps ∧ RowsAt Hy ps (r.2.2.map enV) := fun r hr => by
          obtain ⟨ps', z1, z2⟩ := hrs r hr
          have rp : r.1 ≠ p := fun e => by
            have := (nrs r hr).e
            obtain ⟨_, _, _, e2, _⟩ := id hB
            rw [e, e2] at this
            cases this
          exact ⟨ps', z1.imp (fun h => bef h rp) (fun h => bef h rp), z2.same fun b xs h => bef h (fun e => by
            obtain ⟨_, _, _, e2, _⟩ := bx
            rw [e, e2] at h
            cases h)⟩
        walk_at "rd"
        refine rd_tupB2 (sqL_of e_ley) fun te Ha2 n_te s_Ha2 e_te => ?_
        walk_at "rd"
        refine rd_lstB fun l7 Hb2 n_l7 s_Hb2 e_l7 => ?_ <;> walk_at "rd"
        refine rd_takeB fun w2 Hc2 w2_0 w2_1 b_Hc2 k_Hc2 => ?_ <;> walk_at "rd"
        have by2 := (by_.keep s_Ha2).keep s_Hb2
        have l7p : l7 ≠ p := (by_.keep s_Ha2).ne n_l7.e
        have kyc : KeepB p Hy Hc2 := (Same.keepB (s_Ha2.trans s_Hb2)).trans k_Hc2
        refine rd_ixAny1 (xs := [_, _]) (sqL_of (k_Hc2 _ _ e_l7 l7p)) w2_0 (by simpa using w2_1) fun v hv => ?_
        have tep : te ≠ p := by_.ne n_te.e
        obtain ⟨lx, rfl, hsx, nlx⟩ : ∃ lx, v = .ref lx ∧ SeqOf Hc2 lx pe ∧ Nn Hx lx := by
          simp only [List.mem_cons, List.not_mem_nil, or_false] at hv
          rcases hv with rfl | rfl
          · exact ⟨le, rfl, .inl (kyc _ _ e_ley lep), n_le⟩
          · refine ⟨te, rfl, .inr (k_Hc2 _ _ (s_Hb2 _ _ e_te) tep), ⟨?_⟩⟩
            cases e : Hx te with
            | none => rfl
            | some o =>
              have := n_te.e
              rw [bef e tep] at this
              cases this
        have ht0c := kyc _ _ ht0y t0p
        have lxt0 : lx ≠ t0 := hsx.elim (fun h => ne_of h ht0c nofun) (fun h => ne_of h ht0c nofun)
        have zin : z ∉ rs.map (·.2.1) := fun m => by
          obtain ⟨r', hr', e'⟩ := List.mem_map.mp m
          have h1 := nus r' hr'
          have nd2 := ndU
          rw [← List.take_append_drop (i + 1) zs, List.nodup_append] at nd2
          rw [List.take_add_one, hz, List.nodup_append] at nd2
          exact nd2.1.2.2 _ (e' ▸ h1) _ (List.mem_singleton_self _) rfl
        have tk : zs.take (i + 1) = zs.take i ++ [z] := by rw [List.take_add_one, hz]; rfl
        -- the rows behind a step that keeps them
        have keepRows : ∀ {H' : Hp}, KeepB p Hy H' → ∀ r ∈ rs, ∃ ps, SeqOf H' r.1 ps ∧ RowsAt H' ps (r.2.2.map enV) := fun {H'} kk r hr => by
          obtain ⟨ps', z1, z2⟩ := hrsy r hr
          have rp : r.1 ≠ p := fun e => by
            have := (nrs r hr).e
            obtain ⟨_, _, _, e2, _⟩ := id hB
            rw [e, e2] at this
            cases this
          exact ⟨ps', z1.kb kk rp, z2.same (kb_tup kk by_)⟩
        walk_at "rd"
        refine rd_dptS ht0c (by rw [kvL_len]; omega) ?_
        rw [kvL_put (l := lx) (es := es) zin]
        have kp : ∀ {c : Addr} {o : HO}, Hc2 c = some o → c ≠ t0 → upd Hc2 t0 (.dK (kvL (rs ++ [(lx, z, es)]))) c = some o := fun h n => by rw [upd_ne n]; exact h
        have kpt : ∀ c xs, Hc2 c = some (.tup xs) → upd Hc2 t0 (.dK (kvL (rs ++ [(lx, z, es)]))) c = some (.tup xs) := fun c xs h => kp h (ne_of h ht0c nofun)
        walk_at "rd"
        refine ⟨rs ++ [(lx, z, es)], (b_Hc2.new t0p.symm).mono (by omega), fun b o h np n0 => kp (kyc _ _ (bef (kx _ _ h np n0) np) np) n0, ⟨upd_same, fun r' hr' => ?_⟩, fun r' hr' => ?_, fun r' hr' => ?_, ?_, by rw [List.length_append]; show rs.length + 1 ≤ i + 1; omega, fun r' hr' => ?_, _, _, _, _, rfl⟩
        · rcases List.mem_append.mp hr' with hr' | hr'
          · obtain ⟨ps', z1, z2⟩ := keepRows kyc r' hr'
            exact ⟨ps', z1.imp (fun h => kp h (ne_of h ht0c nofun)) (fun h => kp h (ne_of h ht0c nofun)), z2.same kpt⟩
          · rw [List.mem_singleton.mp hr']
            exact ⟨pe, hsx.imp (fun h => kp h lxt0) (fun h => kp h lxt0), (re.same (kb_tup kyc by_)).same kpt⟩
        · rcases List.mem_append.mp hr' with hr' | hr'
          · exact nrs r' hr'
          · rw [List.mem_singleton.mp hr']
            exact fr bx kx nlx.e
        · rw [tk]
          rcases List.mem_append.mp hr' with hr' | hr'
          · exact List.mem_append_left _ (nus r' hr')
          · rw [List.mem_singleton.mp hr']
            exact List.mem_append_right _ (List.mem_singleton_self _)
        · rw [List.map_append, List.nodup_append]
          refine ⟨ndn, List.nodup_cons.mpr ⟨nofun, List.nodup_nil⟩, fun x hx y hy e' => ?_⟩
          rw [List.mem_singleton.mp hy] at e'
          have e' : x = z := e'
          exact zin (e' ▸ hx)
        · rcases List.mem_append.mp hr' with hr' | hr'
          · exact good r' hr'
          · rw [List.mem_singleton.mp hr']
            exact ⟨ge, by show es.length ≤ 12; omega, fun e he => by have := lte e he; omega⟩
    · rintro σ' Hx ⟨rs, bx, kx, ⟨ht0, hrs⟩, nrs, nus, ndn, lrs, good, x5, x6, x7, x8, rfl⟩
      rw [strs_len] at bx lrs
      walk_at "rd"
      refine rd_itemsL ht0 fun lr pr Ha n_lr s_Ha e_lr r_lr => ?_
      walk_at "rd"
      have lpr : pr.length = rs.length := by rw [r_lr.len, List.length_map]
      have ba := bx.keep s_Ha
      refine rd_takeB (hm2 := Int.le_trans (show _ ≤ (1000 : Int) by omega) (by decide)) fun at2 Hb a0 a1 b_Hb k_Hb => ?_
      obtain ⟨an, rfl⟩ : ∃ an : Nat, at2 = (an : Int) := ⟨at2.toNat, by omega⟩
      have lrp : lr ≠ p := bx.ne n_lr.e
      have r_lr := r_lr.same (kb_tup k_Hb ba)
      have e_lrb := k_Hb _ _ e_lr lrp
      walk_at "rd"
      refine rd_slL (sqL_of e_lrb) fun l1 Hc n_l1 s_Hc e_l1 => ?_
      rw [cutV_from] at e_l1
      walk_at "rd"
      refine rd_slL (sqL_of (s_Hc _ _ e_lrb)) fun l2 Hd n_l2 s_Hd e_l2 => ?_
      rw [cutV_to] at e_l2
      walk_at "rd"
      refine rd_revB fun l3 He n_l3 s_He e_l3 => ?_ <;> walk_at "rd"
      refine rd_catB (fun l4 Hf n_l4 s_Hf e_l4 => ?_) ((s_Hd.trans s_He) _ _ e_l1) e_l3 (by rw [List.length_drop, List.length_reverse, List.length_take]; omega)
      have sbf := ((s_Hc.trans s_Hd).trans s_He).trans s_Hf
      have perm : (rs.drop an ++ (rs.take an).reverse).Perm rs := ((List.Perm.append_left _ (List.reverse_perm _)).trans List.perm_append_comm).trans (by rw [List.take_append_drop])
      have rr : RowsAt Hf (pr.drop an ++ (pr.take an).reverse) ((rs.drop an ++ (rs.take an).reverse).map pairV) := by
        rw [List.map_append, List.map_drop, List.map_reverse, List.map_take]
        exact (((r_lr.keep sbf).drop an).app ((r_lr.keep sbf).take an).reverse)
      generalize rs.drop an ++ (rs.take an).reverse = rs2 at perm rr
      walk_at "rd"
      refine rd_dictP e_l4 rr ((perm.map _).nodup_iff.mpr ndn) fun x Hg n_x s_Hg e_x => ?_
      have sag := s_Ha
      have mr : ∀ r ∈ rs2, r ∈ rs := fun r hr => perm.mem_iff.mp hr
      have kxg : KeepB p Hx Hg := ((Same.keepB s_Ha).trans k_Hb).trans (Same.keepB (sbf.trans s_Hg))
      walk_at "rd"
      refine q x rs2 Hg ?_ (fun r hr => nrs r (mr r hr)) ⟨e_x, fun r hr => ?_⟩ ⟨?_, fun r hr => ?_, fun r hr => ?_, fun r hr => ?_⟩ (fun r hr => (good r (mr r hr)).2.2) (((b_Hb.keep sbf).keep s_Hg).mono (by omega)) fun b o h np => ?_
      · refine ⟨?_⟩
        cases e : H x with
        | none => rfl
        | some o =>
          have np : x ≠ p := fun z => by
            obtain ⟨_, _, _, z2, _⟩ := b_Hb.keep sbf
            have := n_x.e
            rw [z, z2] at this
            cases this
          have n0 : x ≠ t0 := fun z => by
            have := n_x.e
            rw [z, sbf _ _ (k_Hb _ _ (s_Ha _ _ ht0) t0p)] at this
            cases this
          have := n_x.e
          rw [sbf _ _ (k_Hb _ _ (s_Ha _ _ (kx _ _ (k04 _ _ e np) np n0)) np)] at this
          cases this
      · obtain ⟨ps', z1, z2⟩ := hrs r (mr r hr)
        have rp : r.1 ≠ p := fun e => by
          have := (nrs r (mr r hr)).e
          obtain ⟨_, _, _, e2, _⟩ := id hB
          rw [e, e2] at this
          cases this
        exact ⟨ps', z1.kb kxg rp, z2.same (kb_tup kxg bx)⟩
      · have : (rs2.map (·.2)).map (·.1) = rs2.map (·.2.1) := by rw [List.map_map]; rfl
        rw [this]
        exact (perm.map _).nodup_iff.mpr ndn
      · obtain ⟨r', hr', rfl⟩ := List.mem_map.mp hr
        exact memU _ (List.mem_of_mem_take (nus r' (mr r' hr')))
      · obtain ⟨r', hr', rfl⟩ := List.mem_map.mp hr
        exact (good r' (mr r' hr')).1
      · obtain ⟨r', hr', rfl⟩ := List.mem_map.mp hr
        exact (good r' (mr r' hr')).2.1
      · have n0 : b ≠ t0 := fun z => by
          have := n_t0.e
          rw [← z, k03 _ _ h np] at this
          cases this
        exact kxg _ _ (kx _ _ (k04 _ _ h np) np n0) np
def sp_law_anew (K : PySem.W.Frag) : Sp := fun vs H Q _ => ∃ (t x : Addr) (d : Td) (rs : List Rl), vs = [.ref t, .ref x] ∧ TdAt H t d ∧ TdOk d ∧ TbQ H x rs ∧
  ∀ p us H', Nn H p → (∀ r ∈ us, Nn H r.1) → (us.map (·.1)).Nodup → Same H H' → TbL H' p us → us.map (·.2) = told (vsD d) (rs.map (·.2)) → Q (.ref p) H'
theorem ok_law_anew (T : Tx K mg) : FnOk P w K mg base CX0 1 T.a_law_anew T.d_law_anew ["_law_world_here", "_law_table_here"] (sp_law_anew K) := by
  refine T.F_law_anew.ok sc_law_anew (fun vs H Q E h => ?_) (fun cdv A outer s H vs Q E hr h => ?_)
  · obtain ⟨t, x, d, rs, rfl, _⟩ := h
    rfl
  · refine ⟨_, (pss_cons (ps_set (i := 2) sc_law_anew.nd rfl (Or.inl rfl) pe_dnewK)
        (pss_cons (ps_for PassesOwn.never rfl (pi_tupK (K := K) rfl (pe_op (catAK (K := K) rfl) (pe_ix (ixTK (K := K) rfl) (pv 0) pe_int (fun _ _ => rfl)) (pe_ix (ixTK (K := K) rfl) (pv 0) pe_int (fun _ _ => rfl)))) (pg_name (i := 3) sc_law_anew.nd rfl (Or.inl rfl))
        (pss_one (ps_if (PW.pt (pw_and (pt_cmp (pc_din (hu_of hr) (pe_ix (ixTK (K := K) rfl) (pv 3) pe_int (fun _ _ => rfl)) (pv 1))) (pw_and1 (pt_cmpR op_gt (pe_callB (lenK (K := K) rfl) (by rfl) T.m_len (by decide +kernel) (pa_cons (pe_dget (hu_of hr) (pv 1) (pe_ix (ixTK (K := K) rfl) (pv 3) pe_int (fun _ _ => rfl)) (fun _ _ => rfl)) pa_nil)) pe_int (nomark _)))))
        (pss_one (ps_dput (hu_of hr) (pv 2) (pe_ix (ixTK (K := K) rfl) (pv 3) pe_int (fun _ _ => rfl)) (pe_callTy (listOfK (K := K) rfl) (by rfl) T.m_list (by decide +kernel) (pa_cons (pe_dget (hu_of hr) (pv 1) (pe_ix (ixTK (K := K) rfl) (pv 3) pe_int (fun _ _ => rfl)) (fun _ _ => rfl)) pa_nil)) rfl))
        pss_nil)))
        (pss_one (ps_ret (pv 2))))), ?_⟩
    obtain ⟨t, x, d, rs, rfl, ⟨tp, tc, tk, ts, pc, pk, ps, ht, htp, htc, rc, htk, rk, hts, rs0⟩, ok, ⟨hX, hrs⟩, q⟩ := h
    have k4 := ok.k4
    have s6 := ok.s6
    have lk4 : pk.length ≤ 4 := by rw [rk.len, List.length_map]; exact k4
    have ls6 : ps.length ≤ 6 := by rw [rs0.len, List.length_map]; exact s6
    walk_at "rd"
    refine rd_dnewB fun p0 H1 n_p0 s_H1 e_p0 => ?_ <;> walk_at "rd"
    have ht1 := s_H1 _ _ ht
    walk_at "rd"
    refine rd_catX (fun t1 H2 s_H2 e_t1 => ?_) (s_H1 _ _ htk) (s_H1 _ _ hts)
    walk_at "rd"
    refine rd_it (sqT_of e_t1) ?_
    have s02 := s_H1.trans s_H2
    have rv : RowsAt H2 (pk ++ ps) ((d.brks ++ d.ships).map veV) := by
      rw [List.map_append]
      exact (rk.app rs0).keep s02
    have e_p0 := s_H2 _ _ e_p0
    have t1p : t1 ≠ p0 := ne_of e_t1 e_p0 nofun
    have lpp : (pk ++ ps).length ≤ 10 := by rw [List.length_append]; omega
    have vlen : (vsD d).length = (pk ++ ps).length := by unfold vsD; rw [List.length_map, rv.len, List.length_map]
    have nd : (vsD d).Nodup := ok.vd
    have fr : ∀ {H' : Hp} {x : Addr}, KeepB p0 H2 H' → H' x = none → Nn H x := fun k hx => ⟨by
      cases z : H _ with
      | none => rfl
      | some o => exact absurd ((k _ _ (s02 _ _ z) (ne_of_none z n_p0.e)).symm.trans hx) nofun⟩
    refine forgo (walk_tup (xs := pk ++ ps)) (fun i σ' H' => ∃ us : List Rl, TbL H' p0 us ∧ us.map (·.2) = told ((vsD d).take i) (rs.map (·.2)) ∧ (us.map (·.1)).Nodup ∧ (∀ r ∈ us, Nn H r.1) ∧ us.length ≤ i ∧ KeepB p0 H2 H' ∧ ∃ x3, σ' = [some (.ref t), some (.ref x), some (.ref p0), x3])
      ⟨[], ⟨e_p0, fun _ h => nomatch h⟩, rfl, List.nodup_nil, (fun _ h => nomatch h), Nat.le_refl _, KeepB.refl _ _, _, rfl⟩ (fun i σ' H' _ z => by
        obtain ⟨_, _, _, _, _, _, k, _⟩ := z
        exact sqT_of (k _ _ e_t1 t1p)) ?_ ?_
    · rintro i y σ' Ha Hb hi ⟨us, ⟨ht0, hus⟩, eus, ndu, nus, lus, ka, x3, rfl⟩ ⟨e0, hx⟩
      obtain rfl : Hb = Ha := e0
      obtain ⟨t', r', c, rfl, hc, ht'⟩ := rows_0 veV_0s (rv.same fun b xs h => ka _ _ h (ne_of h e_p0 nofun)) hx
      have hun : (vsD d)[i]? = some c.name := by
        unfold vsD
        rw [List.getElem?_map, hc]
        rfl
      have tk : (vsD d).take (i + 1) = (vsD d).take i ++ [c.name] := by rw [List.take_add_one, hun]; rfl
      have hXa := ka _ _ (s02 _ _ hX) (ne_of_none hX n_p0.e)
      walk_at "rd"
      rcases kvL_val (n := c.name) (rs := rs) with ⟨v1, v2⟩ | ⟨r, hr, v1, v3, v2⟩
      · rw [v1]
        walk_at "rd"
        refine ⟨us, ⟨ht0, hus⟩, ?_, ndu, nus, by omega, ka, _, rfl⟩
        rw [tk, tld_app, told1_n v2, List.append_nil]
        exact eus
      · rw [v1]
        refine iteTd rfl ?_
        walk_at "rd"
        refine rd_dgtS hXa v1 ?_
        obtain ⟨pe, z1, z2⟩ := hrs r hr
        have rp : r.1 ≠ p0 := z1.ne n_p0.e
        have z1 : SeqOf Hb r.1 pe := (z1.keep s02).kb ka rp
        have z2 : RowsAt Hb pe (r.2.2.map enV) := z2.same fun b xs h => ka _ _ (s02 _ _ h) (ne_of_none h n_p0.e)
        have lpe : pe.length = r.2.2.length := by rw [z2.len, List.length_map]
        walk_at "rd"
        refine rd_lenA z1.a ?_
        walk_at "rd"
        cases hes : r.2.2 with
        | nil =>
          rw [hes] at v2 lpe
          refine iteFd (decide_eq_false (by rw [lpe]; decide)) ?_
          walk_at "rd"
          refine ⟨us, ⟨ht0, hus⟩, ?_, ndu, nus, by omega, ka, _, rfl⟩
          rw [tk, tld_app, told1_e v2, List.append_nil]
          exact eus
        | cons e0 er =>
          rw [hes] at v2 lpe z2
          refine iteTd (decide_eq_true (by rw [lpe, List.length_cons]; omega)) ?_
          walk_at "rd"
          refine rd_dgtS hXa v1 ?_
          walk_at "rd"
          refine rd_listB z1.a fun l Hc n_l s_Hc e_l => ?_
          have nin : c.name ∉ us.map (·.2.1) := fun m => by
            obtain ⟨r2, hr2, e2⟩ := List.mem_map.mp m
            have : r2.2 ∈ told ((vsD d).take i) (rs.map (·.2)) := eus ▸ List.mem_map_of_mem hr2
            have h1 := tld_sub this
            have nd2 := nd
            rw [← List.take_append_drop (i + 1) (vsD d), tk, List.nodup_append] at nd2
            exact (List.nodup_append.mp nd2.1).2.2 _ (e2 ▸ h1) _ (List.mem_singleton_self _) rfl
          have ht0c := s_Hc _ _ ht0
          walk_at "rd"
          refine rd_dptS ht0c (by rw [kvL_len]; omega) ?_
          rw [kvL_put (l := l) (es := e0 :: er) nin]
          have lp0 : l ≠ p0 := ne_of e_l ht0c nofun
          have kp : ∀ {b : Addr} {o : HO}, Hc b = some o → b ≠ p0 → upd Hc p0 (.dK (kvL (us ++ [(l, c.name, e0 :: er)]))) b = some o := fun h n => by rw [upd_ne n]; exact h
          have kpt : ∀ b xs, Hc b = some (.tup xs) → upd Hc p0 (.dK (kvL (us ++ [(l, c.name, e0 :: er)]))) b = some (.tup xs) := fun b xs h => kp h (ne_of h ht0c nofun)
          walk_at "rd"
          refine ⟨us ++ [(l, c.name, e0 :: er)], ⟨upd_same, fun r' hr' => ?_⟩, ?_, ?_, fun r' hr' => ?_, by rw [List.length_append]; show us.length + 1 ≤ i + 1; omega, fun b o hb hn' => kp (s_Hc _ _ (ka _ _ hb hn')) hn', _, rfl⟩
          · rcases List.mem_append.mp hr' with hr' | hr'
            · obtain ⟨ps', y1, y2⟩ := hus r' hr'
              exact ⟨ps', kp (s_Hc _ _ y1) (ne_of y1 ht0 nofun), (y2.keep s_Hc).same kpt⟩
            · rw [List.mem_singleton.mp hr']
              exact ⟨pe, kp e_l lp0, (z2.keep s_Hc).same kpt⟩
          · rw [List.map_append, tk, tld_app, eus, told1_c v2]
            rfl
          · rw [List.map_append, List.nodup_append]
            refine ⟨ndu, List.nodup_cons.mpr ⟨nofun, List.nodup_nil⟩, fun x hx y hy e' => ?_⟩
            obtain ⟨r', hr', rfl⟩ := List.mem_map.mp hx
            rw [List.mem_singleton.mp hy] at e'
            obtain ⟨ps', y1, _⟩ := hus r' hr'
            have := n_l.e
            rw [show l = r'.1 from e'.symm, y1] at this
            cases this
          · rcases List.mem_append.mp hr' with hr' | hr'
            · exact nus r' hr'
            · rw [List.mem_singleton.mp hr']
              exact fr ka n_l.e
    · rintro σ' Ha ⟨us, ht0, eus, ndu, nus, lus, ka, x3, rfl⟩
      rw [← vlen, List.take_length] at eus
      walk_at "rd"
      exact q p0 us Ha n_p0 nus ndu (fun b o h => ka _ _ (s02 _ _ h) (ne_of_none h n_p0.e)) ht0 eus
def sp_law_due (K : PySem.W.Frag) : Sp := fun vs H Q _ => ∃ (t : Addr) (d : Td) (m : Int), vs = [.ref t, .int m] ∧ TdAt H t d ∧ TdOk d ∧ ∀ x H', Nn H x → Same H H' → TdAt H' x (laterD d m) → Q (.ref x) H'
theorem ok_law_due (T : Tx K mg) : FnOk P w K mg base CX0 1 T.a_law_due T.d_law_due ["_law_world_here", "_law_many"] (sp_law_due K) := by
  refine T.F_law_due.ok sc_law_due (fun vs H Q E h => ?_) (fun cdv A outer s H vs Q E hr h => ?_)
  · obtain ⟨t, d, m, rfl, _⟩ := h
    rfl
  · refine ⟨_, (pss_cons (ps_asg (pv 0) (pg_tup rfl (pgs_cons (pg_name (i := 2) sc_law_due.nd rfl (Or.inl rfl)) (pgs_cons (pg_name (i := 3) sc_law_due.nd rfl (Or.inl rfl)) (pgs_cons (pg_name (i := 4) sc_law_due.nd rfl (Or.inl rfl)) (pgs_cons (pg_name (i := 5) sc_law_due.nd rfl (Or.inl rfl)) (pgs_cons (pg_name (i := 6) sc_law_due.nd rfl (Or.inl rfl)) pgs_nil)))))))
        (pss_cons (ps_set (i := 7) sc_law_due.nd rfl (Or.inl rfl) (pe_callTy (tupOfK (K := K) rfl) (by rfl) T.m_tuple (by decide +kernel) (pa_cons (pe_lc (own := [("_law_row", 9)]) (g := gName 9) (tt := tYes) rfl sc_law_due.nd (pi_tupK (K := K) rfl (pv 5)) (blkOk_by (own := [("_law_row", 9)]) (N := N_law_due) (sc := defScope s_law_due) (by decide +kernel)) (fun _ _ _ _ _ => (pg_name (i := 9) sc_law_due.nd rfl (Or.inl rfl))) (fun _ _ _ _ _ => pts_nil) (fun _ _ _ _ _ => (pe_frm (pe_op (catAK (K := K) rfl) (pe_op (catAK (K := K) rfl) (pe_slice (slTK (K := K) rfl) (pv 9) po_none (po_some pe_int)) (pe_tup (pa_cons (pe_op op_add (pe_ix (ixTK (K := K) rfl) (pv 9) pe_int (fun _ _ => rfl)) (pv 1)) pa_nil))) (pe_slice (slTK (K := K) rfl) (pv 9) (po_some pe_int) po_none))))) pa_nil)))
        (pss_cons (ps_set (i := 8) sc_law_due.nd rfl (Or.inl rfl) (pe_callTy (tupOfK (K := K) rfl) (by rfl) T.m_tuple (by decide +kernel) (pa_cons (pe_lc (own := [("_law_row", 9)]) (g := gName 9) (tt := tYes) rfl sc_law_due.nd (pi_tupK (K := K) rfl (pv 6)) (blkOk_by (own := [("_law_row", 9)]) (N := N_law_due) (sc := defScope s_law_due) (by decide +kernel)) (fun _ _ _ _ _ => (pg_name (i := 9) sc_law_due.nd rfl (Or.inl rfl))) (fun _ _ _ _ _ => pts_nil) (fun _ _ _ _ _ => (pe_frm (pe_op (catAK (K := K) rfl) (pe_op (catAK (K := K) rfl) (pe_slice (slTK (K := K) rfl) (pv 9) po_none (po_some pe_int)) (pe_tup (pa_cons (pe_op op_add (pe_ix (ixTK (K := K) rfl) (pv 9) pe_int (fun _ _ => rfl)) (pv 1)) pa_nil))) (pe_slice (slTK (K := K) rfl) (pv 9) (po_some pe_int) po_none))))) pa_nil)))
        (pss_one (ps_ret (pe_tup (pa_cons (pe_op op_add (pv 2) (pv 1)) (pa_cons (pv 3) (pa_cons (pv 4) (pa_cons (pv 7) (pa_cons (pv 8) pa_nil))))))))))), ?_⟩
    obtain ⟨t, d, m, rfl, ⟨tp, tc, tk, ts, pc, pk, ps, ht, htp, htc, rc, htk, rk, hts, rs⟩, ok, q⟩ := h
    have k4 := ok.k4
    have s6 := ok.s6
    have lpb : pk.length ≤ 4 := by rw [rk.len, List.length_map]; exact k4
    have lps : ps.length ≤ 6 := by rw [rs.len, List.length_map]; exact s6
    walk_at "rd"
    refine rd_gtup (sqT_of ht) rfl ?_
    walk_at "rd"
    refine rd_it (sqT_of htk) ?_
    refine lc_rw (fun v : Ve => veV (hourD m v)) walk_tup rk (by omega) (fun H' s => sqT_of (s _ _ htk)) (fun _ => rfl) (fun t c H' Q' hc s ht' q' => ?_) (fun D3 pb2 H1 n_D3 s_H1 e_D3 rb2 => ?_)
    · have hk := ok.kk c hc
      rw [veV_1 hk] at ht'
      rw [veV_1 (show (hourD m c).kind = 1 from hk)] at q'
      walk_at "rd"
      refine rd_slB (ys := [.str c.name, .str c.port]) (fun p1 Ha s_Ha e_p1 => ?_) ht'
      have ht2 := s_Ha _ _ ht'
      walk_at "rd"
      refine rd_tupB fun p2 Hb n_p2 s_Hb e_p2 => ?_ <;> walk_at "rd"
      refine rd_catX (fun p3 Hc s_Hc e_p3 => ?_) (s_Hb _ _ e_p1) e_p2
      walk_at "rd"
      refine rd_slB (ys := [.int c.strength, .int c.draught, .int c.cut]) (fun p4 Hd s_Hd e_p4 => ?_) (s_Hc _ _ (s_Hb _ _ ht2))
      walk_at "rd"
      refine rd_catX (fun p5 He s_He e_p5 => ?_) (s_Hd _ _ e_p3) e_p4
      exact q' p5 He ((((s_Ha.trans s_Hb).trans s_Hc).trans s_Hd).trans s_He) e_p5
    walk_at "rd"
    refine rd_tupB2 (sqL_of e_D3) fun t3 H2 n_t3 s_H2 e_t3 => ?_
    have s02 := s_H1.trans s_H2
    have hts2 := s02 _ _ hts
    walk_at "rd"
    refine rd_it (sqT_of hts2) ?_
    refine lc_rw (fun v : Ve => veV (hourD m v)) walk_tup (rs.keep s02) (by omega) (fun H' s => sqT_of (s _ _ hts2)) (fun _ => rfl) (fun t c H' Q' hc s ht' q' => ?_) (fun D4 ps2 H3 n_D4 s_H3 e_D4 rs2 => ?_)
    · have hk := ok.sk c hc
      rw [veV_2 hk] at ht'
      rw [veV_2 (show (hourD m c).kind = 2 from hk)] at q'
      walk_at "rd"
      refine rd_slB (ys := [.str c.name, .str c.port, .str c.goal]) (fun p1 Ha s_Ha e_p1 => ?_) ht'
      have ht2 := s_Ha _ _ ht'
      walk_at "rd"
      refine rd_tupB fun p2 Hb n_p2 s_Hb e_p2 => ?_ <;> walk_at "rd"
      refine rd_catX (fun p3 Hc s_Hc e_p3 => ?_) (s_Hb _ _ e_p1) e_p2
      walk_at "rd"
      refine rd_slB (ys := [.int c.strength, .int c.draught]) (fun p4 Hd s_Hd e_p4 => ?_) (s_Hc _ _ (s_Hb _ _ ht2))
      walk_at "rd"
      refine rd_catX (fun p5 He s_He e_p5 => ?_) (s_Hd _ _ e_p3) e_p4
      exact q' p5 He ((((s_Ha.trans s_Hb).trans s_Hc).trans s_Hd).trans s_He) e_p5
    walk_at "rd"
    refine rd_tupB2 (sqL_of e_D4) fun t4 H4 n_t4 s_H4 e_t4 => ?_
    walk_at "rd"
    refine rd_tupB fun t5 H5 n_t5 s_H5 e_t5 => ?_ <;> walk_at "rd"
    have s35 := (s_H4.trans s_H5)
    have s25 := s_H3.trans s35
    have s05 := s02.trans s25
    refine q t5 H5 ⟨none_sm0 (s02.trans (s_H3.trans s_H4)) n_t5.e⟩ s05 ⟨tp, tc, t3, t4, pc, pb2, ps2, e_t5, s05 _ _ htp, s05 _ _ htc, rc.keep s05, s25 _ _ e_t3, ?_, s_H5 _ _ e_t4, ?_⟩
    · show RowsAt H5 pb2 ((d.brks.map (hourD m)).map veV)
      rw [List.map_map]
      exact (rb2.keep s_H2).keep s25
    · show RowsAt H5 ps2 ((d.ships.map (hourD m)).map veV)
      rw [List.map_map]
      exact rs2.keep s35
def sp_law_due_table (K : PySem.W.Frag) : Sp := fun vs H Q _ => ∃ (t x : Addr) (d : Td) (rs : List Rl) (m : Int), vs = [.ref t, .ref x, .int m] ∧ TdAt H t d ∧ TdOk d ∧ TbQ H x rs ∧ (∀ r ∈ rs, r.2.2.length ≤ 1000) ∧
  ∀ p us H', Nn H p → (∀ r ∈ us, Nn H r.1) → (us.map (·.1)).Nodup → Same H H' → TbL H' p us → us.map (·.2) = (told (vsD d) (rs.map (·.2))).map (shiftR m) → Q (.ref p) H'
theorem ok_law_due_table (T : Tx K mg) : FnOk P w K mg base CX0 2 T.a_law_due_table T.d_law_due_table ["_law_world_here", "_law_table_here", "_law_many"] (sp_law_due_table K) := by
  refine T.F_law_due_table.ok sc_law_due_table (fun vs H Q E h => ?_) (fun cdv A outer s H vs Q E hr h => ?_)
  · obtain ⟨t, x, d, rs, m, rfl, _⟩ := h
    rfl
  · refine ⟨_, (pss_cons (ps_set (i := 3) sc_law_due_table.nd rfl (Or.inl rfl) pe_dnewK)
        (pss_cons (ps_for PassesOwn.never rfl (pi_items (pe_fz (pe_call (ok_law_anew T) (hr.mono (by decide)) (by rfl) T.g_law_anew T.F_law_anew.kp T.b_law_anew .nil pass0 (pa_cons (pv 0) (pa_cons (pv 1) pa_nil))))) (pg_tup rfl (pgs_cons (pg_name (i := 4) sc_law_due_table.nd rfl (Or.inl rfl)) (pgs_cons (pg_name (i := 5) sc_law_due_table.nd rfl (Or.inl rfl)) pgs_nil)))
        (pss_one (ps_dput (hu_of hr) (pv 3) (pv 4) (pe_lc (own := [("_law_hour", 6), ("_law_channel_here", 7)]) (g := (gTup K 2 (gCons (gName 6) (gCons (gName 7) gNil)))) (tt := tYes) rfl sc_law_due_table.nd (pi_listK (K := K) rfl (pv 5)) (blkOk_by (own := [("_law_hour", 6), ("_law_channel_here", 7)]) (N := N_law_due_table) (sc := defScope s_law_due_table) (by decide +kernel)) (fun _ _ _ _ _ => (pg_tup rfl (pgs_cons (pg_name (i := 6) sc_law_due_table.nd rfl (Or.inl rfl)) (pgs_cons (pg_name (i := 7) sc_law_due_table.nd rfl (Or.inl rfl)) pgs_nil)))) (fun _ _ _ _ _ => pts_nil) (fun _ _ _ _ _ => (pe_frm (pe_tup (pa_cons (pe_op op_add (pv 6) (pv 2)) (pa_cons (pv 7) pa_nil)))))) rfl)))
        (pss_one (ps_ret (pv 3))))), ?_⟩
    obtain ⟨t, x, d, rs0, m, rfl, hT, ok, hX, hm, q⟩ := h
    walk_at "rd"
    refine rd_dnewB fun p2 H1 n_p2 s_H1 e_p2 => ?_ <;> walk_at "rd"
    walk_at "rd"
    refine ⟨t, x, d, rs0, rfl, hT.tups fun b xs h => s_H1 _ _ h, ok, hX.same s_H1, fun p rs H2 n_p n_rs nd s2 hp ers => ?_⟩
    have hl : ∀ r ∈ rs, r.2.2.length ≤ 1000 := fun r hr => by
      have h1 := lookup_mem (tld_ok (ers ▸ List.mem_map_of_mem (f := fun r : Rl => r.2) hr)).1
      obtain ⟨r2, hr2, e2⟩ := List.mem_map.mp h1
      have := hm r2 hr2
      rw [e2] at this
      exact this
    have hrl : rs.length ≤ 10 := by
      have h1 := congrArg List.length ers
      rw [List.length_map] at h1
      have h2 := told_len (t := rs0.map (·.2)) (vs := vsD d)
      have zk := ok.k4
      have zs := ok.s6
      have : (vsD d).length = d.brks.length + d.ships.length := by unfold vsD; rw [List.length_map, List.length_append]
      omega
    have ndn : (rs.map (·.2.1)).Nodup := by
      have : rs.map (·.2.1) = (rs.map (·.2)).map (·.1) := by rw [List.map_map]; rfl
      rw [this, ers]
      exact told_nodup ok.vd
    have pp2 : p ≠ p2 := fun z => by
      have := n_p.e
      rw [z, e_p2] at this
      cases this
    have e_p2 := s2 _ _ e_p2
    refine rd_fz1 hp.1 trivial fun od H3 k3 f3 hf => ?_
    have e_p2 := k3 _ _ e_p2 pp2.symm
    have hrs : ∀ r ∈ rs, RlAt H3 r.1 r.2.2 := fun r hr => by
      obtain ⟨ps, z1, z2⟩ := hp.2 r hr
      exact ⟨ps, k3 _ _ z1 (ne_of z1 hp.1 nofun), z2.same fun b xs h => k3 _ _ h (ne_of h hp.1 nofun)⟩
    have s03 : Same H H3 := fun b o h => k3 _ _ (s2 _ _ (s_H1 _ _ h)) (ne_of_none (s_H1 _ _ h) n_p.e)
    have fr : ∀ {H' : Hp} {x : Addr}, KeepB p2 H3 H' → H' x = none → Nn H x := fun k hx => ⟨by
      cases z : H _ with
      | none => rfl
      | some o => exact absurd ((k _ _ (s03 _ _ z) (ne_of_none z n_p2.e)).symm.trans hx) nofun⟩
    refine rd_itm hf ?_
    refine forgo walk_items (fun i σ' H' => ∃ us : List Rl, TbL H' p2 us ∧ us.map (·.2) = ((rs.take i).map (·.2)).map (shiftR m) ∧ (us.map (·.1)).Nodup ∧ (∀ r ∈ us, Nn H r.1) ∧ us.length = i ∧ KeepB p2 H3 H' ∧ ∃ x4 x5, σ' = [some (.ref t), some (.ref x), some (.int m), some (.ref p2), x4, x5, none, none]) ⟨[], ⟨e_p2, fun _ h => nomatch h⟩, rfl, List.nodup_nil, (fun _ h => nomatch h), rfl, KeepB.refl _ _, none, none, rfl⟩ (fun i σ' H' _ z => by
      obtain ⟨_, _, _, _, _, _, k, _⟩ := z
      exact k _ _ hf pp2) ?_ ?_
    · rintro i x σ' Ha Hb hi ⟨us, ⟨ht, hus⟩, eus, ndu, nus, lus, ka, x5, x6, rfl⟩ ⟨tt, u, v', rfl, hTn, rfl, hu, hv⟩
      obtain ⟨kv, hkv, ek⟩ := Option.map_eq_some_iff.mp hu
      have hv : (kvL rs)[i]?.map Prod.snd = some v' := hv
      rw [hkv] at hv
      have hv := Option.some.inj hv
      unfold kvL at hkv
      rw [List.getElem?_map] at hkv
      obtain ⟨r, hr, rfl⟩ := Option.map_eq_some_iff.mp hkv
      simp only [kV] at ek hv
      subst ek hv
      have sT : Same Ha (upd Ha tt (.tup [.str r.2.1, .ref r.1])) := same_new hTn
      have eT : (upd Ha tt (.tup [.str r.2.1, .ref r.1])) tt = some (.tup [.str r.2.1, .ref r.1]) := upd_same
      generalize upd Ha tt (.tup [.str r.2.1, .ref r.1]) = Hb at sT eT
      have kb := ka.trans (Same.keepB sT)
      have mr := List.mem_of_getElem? hr
      obtain ⟨ps, z1, z2⟩ := hrs r mr
      have rp2 : r.1 ≠ p2 := ne_of z1 e_p2 nofun
      have z1 := kb _ _ z1 rp2
      have z2 : RowsAt Hb ps (r.2.2.map enV) := z2.same fun b xs h => kb _ _ h (ne_of h e_p2 nofun)
      have hps : ps.length ≤ 1000 := by
        have := z2.len
        rw [List.length_map] at this
        have := hl r mr
        omega
      refine rd_gtup (sqT_of eT) rfl ?_
      walk_at "rd"
      refine rd_ilB ?_ <;> walk_at "rd"
      refine lcRow2t (es := r.2.2) (fx := fun e => V.int e.1) (fy := fun e => V.str e.2) (fun e => enV (e.1 + m, e.2)) walk_list z2 (by omega) (fun H' s => s.seq (sqL_of z1)) (fun _ _ => rfl) (fun e he H' Q' s q' => ?_) fun D ps' H4 n_D s_H4 e_D r_D => ?_
      · walk_at "rd"
        refine rd_tupB fun t2 H5 n_t2 s_H5 e_t2 => ?_ <;> walk_at "rd"
        exact q' t2 H5 s_H5 e_t2
      have ht4 := s_H4 _ _ (sT _ _ ht)
      have nin : r.2.1 ∉ us.map (·.2.1) := fun mm => by
        have e1 : us.map (·.2.1) = (rs.take i).map (·.2.1) := by
          have := congrArg (List.map (·.1)) eus
          rw [List.map_map, List.map_map, List.map_map] at this
          exact this
        rw [e1] at mm
        have nd2 := ndn
        rw [← List.take_append_drop (i + 1) rs, List.map_append, List.nodup_append] at nd2
        rw [List.take_add_one, hr, List.map_append, List.nodup_append] at nd2
        exact nd2.1.2.2 _ mm _ (List.mem_singleton_self _) rfl
      walk_at "rd"
      refine rd_dptS ht4 (by rw [kvL_len]; rw [kvL_len] at hi; omega) ?_
      rw [kvL_put (l := D) (es := r.2.2.map fun e => (e.1 + m, e.2)) nin]
      have Dp2 : D ≠ p2 := ne_of e_D ht4 nofun
      have kp : ∀ {c : Addr} {o : HO}, H4 c = some o → c ≠ p2 → upd H4 p2 (.dK (kvL (us ++ [(D, r.2.1, r.2.2.map fun e => (e.1 + m, e.2))]))) c = some o := fun h n => by rw [upd_ne n]; exact h
      have kpt : ∀ c xs, H4 c = some (.tup xs) → upd H4 p2 (.dK (kvL (us ++ [(D, r.2.1, r.2.2.map fun e => (e.1 + m, e.2))]))) c = some (.tup xs) := fun c xs h => kp h (ne_of h ht4 nofun)
      walk_at "rd"
      refine ⟨us ++ [(D, r.2.1, r.2.2.map fun e => (e.1 + m, e.2))], ⟨upd_same, fun r' hr' => ?_⟩, ?_, ?_, fun r' hr' => ?_, by rw [List.length_append]; show us.length + 1 = i + 1; omega, fun c o hc hn' => kp (s_H4 _ _ (kb _ _ hc hn')) hn', _, _, rfl⟩
      · rcases List.mem_append.mp hr' with hr' | hr'
        · obtain ⟨ps', y1, y2⟩ := hus r' hr'
          exact ⟨ps', kp (s_H4 _ _ (sT _ _ y1)) (ne_of y1 ht nofun), ((y2.keep sT).keep s_H4).same kpt⟩
        · rw [List.mem_singleton.mp hr']
          refine ⟨ps', kp e_D Dp2, ?_⟩
          show RowsAt _ ps' ((r.2.2.map fun e => (e.1 + m, e.2)).map enV)
          rw [List.map_map]
          exact r_D.same kpt
      · rw [List.map_append, eus, List.take_add_one, hr, List.map_append, List.map_append]
        rfl
      · rw [List.map_append, List.nodup_append]
        refine ⟨ndu, List.nodup_cons.mpr ⟨nofun, List.nodup_nil⟩, fun x hx y hy e' => ?_⟩
        obtain ⟨r', hr', rfl⟩ := List.mem_map.mp hx
        rw [List.mem_singleton.mp hy] at e'
        obtain ⟨ps', y1, _⟩ := hus r' hr'
        have := n_D.e
        rw [show D = r'.1 from e'.symm, sT _ _ y1] at this
        cases this
      · rcases List.mem_append.mp hr' with hr' | hr'
        · exact nus r' hr'
        · rw [List.mem_singleton.mp hr']
          exact fr kb n_D.e
    · rintro σ' Ha ⟨us, ht, eus, ndu, nus, lus, ka, x5, x6, rfl⟩
      rw [kvL_len, List.take_length, ers] at eus
      walk_at "rd"
      exact q p2 us Ha n_p2 nus ndu (fun b o h => ka _ _ (s03 _ _ h) (ne_of_none h n_p2.e)) ht eus
def sp_law_refused (T : Tx K mg) : Sp := fun vs H Q _ => ∃ a w L d v m, vs = [.ref a, v, .int m] ∧ WoAt T H a w L ∧ WdOf w d ∧ TdOk d ∧
  ((v = .non ∧ ∃ y ∈ hoursD d, 1000000 < y + m) ∨ (∃ t D, v = .ref t ∧ Px K H v D ∧ isTabD w.begin (vsN w) (csN w) D = true ∧ (∀ r ∈ tabOf D, r.2.length ≤ 1000) ∧ 1000000 < m)) ∧ ∀ H', Same H H' → Q (.bl true) H'
theorem ok_law_refused (T : Tx K mg) : FnOkG P w K mg base 10 T.a_law_refused T.d_law_refused ["_law_made_here", "_law_table_here", "_law_many"] (sp_law_refused T) := by
  refine okG T.F_law_refused sc_law_refused (fun vs H Q E h => ?_) (fun cdv A outer s H vs Q E hG hr h => ?_)
  · obtain ⟨a, w, L, d, v, m, rfl, _⟩ := h
    rfl
  · refine ⟨_, (pss_cons (ps_set (i := 3) sc_law_refused.nd rfl (Or.inl rfl) (pe_lst pa_nil))
        (pss_cons (ps_tryN rfl rfl sc_law_refused.nd takes0 (fun W pn xe tk po => by exact (pss_one (ps_if (pt_cmpR op_isN (pv 1) pe_non (nomark _))
        (pss_one (ps_expr (pe_callS (ok_later_world T) (hr.mono (by decide)) (by rfl) T.g_later_world T.F_later_world.kp T.b_later_world (fun σ => passAt tk σ) (pa_cons (pv 0) (pa_cons (pv 2) pa_nil)))))
        (pss_one (ps_expr (pe_callS (ok_later_table T) (hr.mono (by decide)) (by rfl) T.g_later_table T.F_later_table.kp T.b_later_table (fun σ => passAt tk σ) (pa_cons (pv 0) (pa_cons (pv 1) (pa_cons (pv 2) pa_nil)))))))))
        (Hands.named (i := 4) rfl rfl ⟨rfl, by decide, .inl T.g_NoNumber⟩ (fun a oe cls d pn hz hf => by exact (pss_one (ps_set (i := 3) sc_law_refused.nd rfl (Or.inl rfl) (pe_lst (pa_cons (pe_xf T.xf_NoNumber T.n_NoNumber_found hz hf (pv 4)) pa_nil))))) (Hands.plain ⟨rfl, by decide, .inl T.g_IceError⟩ (fun a oe cls d pn hz hf => by exact (pss_one (ps_set (i := 3) sc_law_refused.nd rfl (Or.inl rfl) (pe_lst (pa_cons pe_str pa_nil))))) Hands.nil)))
        (pss_one (ps_ret (pe_cmpR (eqW (K := K) rfl hr.units) (pv 3) (pe_lst (pa_cons (pv 2) pa_nil)) (nomark _)))))), ?_⟩
    obtain ⟨a, w, L, d, v, m, rfl, hW, hwd, ok, hc, q⟩ := h
    walk_at "rd"
    refine rd_lstB fun l0 H1 n_l0 s_H1 e_l0 => ?_ <;> walk_at "rd"
    walk_at "rd"
    rcases hc with ⟨rfl, y, hy, hy2⟩ | ⟨t, D, rfl, hP, hT, hm, hm2⟩
    · refine ⟨rfl, _, rfl, ?_⟩
      (first | refine My.iteTd (by decide +kernel) ?_ | refine My.iteFd (by decide +kernel) ?_) <;> walk_at "rd"
      refine ⟨a, w, L, d, m, rfl, hW.keep s_H1, hwd, ok, fun h0 hall => absurd (hall y hy) (by omega), fun _ x H2 s2 hx => ?_⟩
      refine ⟨true, T.te_NoNumber_NoNumber, fun _ a0 ha0 => ?_, fun e => Bool.noConfusion e⟩
      refine suite_named ?_
      walk_at "rd"
      refine rd_lstB fun l1 H3 n_l1 s_H3 e_l1 => ?_ <;> walk_at "rd"
      walk_at "rd"
      refine rd_lstB fun l2 H4 n_l2 s_H4 e_l2 => ?_ <;> walk_at "rd"
      refine rd_eqW (n := 1) (eqS_lst (sqL_of (s_H4 _ _ e_l1)) (sqL_of e_l2) (AlkAll.flat (by simp [flatV]))) ?_
      walk_at "rd"
      exact q H4 (s_H1.trans (s2.trans (s_H3.trans s_H4)))
    · refine ⟨rfl, _, rfl, ?_⟩
      refine iteFd (decide_eq_false nofun) ?_
      walk_at "rd"
      refine ⟨a, w, L, .ref t, D, m, rfl, hW.keep s_H1, hP.keep s_H1, hT, hm, fun h0 h1 => absurd h1 (by omega), fun _ x H2 s2 hx => ?_⟩
      refine ⟨true, T.te_NoNumber_NoNumber, fun _ a0 ha0 => ?_, fun e => Bool.noConfusion e⟩
      refine suite_named ?_
      walk_at "rd"
      refine rd_lstB fun l1 H3 n_l1 s_H3 e_l1 => ?_ <;> walk_at "rd"
      walk_at "rd"
      refine rd_lstB fun l2 H4 n_l2 s_H4 e_l2 => ?_ <;> walk_at "rd"
      refine rd_eqW (n := 1) (eqS_lst (sqL_of (s_H4 _ _ e_l1)) (sqL_of e_l2) (AlkAll.flat (by simp [flatV]))) ?_
      walk_at "rd"
      exact q H4 (s_H1.trans (s2.trans (s_H3.trans s_H4)))
theorem hourD_add (v : Ve) (a b : Int) : hourD b (hourD a v) = hourD (a + b) v := by
  unfold hourD
  rw [Int.add_assoc]
theorem laterD_add (d : Td) (a b : Int) : laterD (laterD d a) b = laterD d (a + b) := by
  unfold laterD
  simp only [List.map_map, Int.add_assoc]
  congr 1
  · exact List.map_congr_left fun v _ => hourD_add v a b
  · exact List.map_congr_left fun v _ => hourD_add v a b
theorem hoursD_later (d : Td) (a : Int) : hoursD (laterD d a) = (hoursD d).map (· + a) := by
  unfold hoursD laterD
  simp only [List.map_cons, List.map_append, List.map_map]
  rfl
theorem vsD_later (d : Td) (a : Int) : vsD (laterD d a) = vsD d := by
  unfold vsD laterD
  rw [← List.map_append, List.map_map]
  rfl
theorem shiftR_add (r : Str × List En) (a b : Int) : shiftR b (shiftR a r) = shiftR (a + b) r := by
  unfold shiftR
  simp only [List.map_map]
  congr 1
  refine List.map_congr_left fun e _ => ?_
  show (e.1 + a + b, e.2) = (e.1 + (a + b), e.2)
  rw [Int.add_assoc]
theorem shift_add (t : Tb) (a b : Int) : (t.map (shiftR a)).map (shiftR b) = t.map (shiftR (a + b)) := by
  rw [List.map_map]
  exact List.map_congr_left fun r _ => shiftR_add r a b
theorem lookup_shift {m : Int} {n : Str} : ∀ t : Tb, (t.map (shiftR m)).lookup n = (t.lookup n).map fun es => es.map fun e => (e.1 + m, e.2)
  | [] => rfl
  | (k, es) :: t => by
    rw [List.map_cons]
    show List.lookup n ((k, es.map fun e => (e.1 + m, e.2)) :: t.map (shiftR m)) = _
    rw [List.lookup_cons, List.lookup_cons]
    cases n == k with
    | true => rfl
    | false => exact lookup_shift t
theorem told_each {t u : Tb} {m : Int} : ∀ {vs : List Str}, (∀ n ∈ vs, told [n] u = (told [n] t).map (shiftR m)) → told vs u = (told vs t).map (shiftR m)
  | [], _ => rfl
  | v :: vs, h => by
    have hc : ∀ w : Tb, told (v :: vs) w = told [v] w ++ told vs w := fun w => tld_app (ns := [v]) (ms := vs)
    rw [hc, hc, h v List.mem_cons_self, told_each fun n hn => h n (List.mem_cons_of_mem _ hn), List.map_append]
theorem told_shift {vs : List Str} {t : Tb} {m : Int} : told vs ((told vs t).map (shiftR m)) = (told vs t).map (shiftR m) := by
  have one : ∀ n ∈ vs, told [n] ((told vs t).map (shiftR m)) = (told [n] t).map (shiftR m) := fun n hn => by
    have h1 := lookup_shift (m := m) (n := n) (told vs t)
    rw [lookup_told hn] at h1
    cases h2 : t.lookup n with
    | none =>
      rw [h2] at h1
      rw [told1_n h1, told1_n h2]
      rfl
    | some es =>
      cases es with
      | nil =>
        rw [h2] at h1
        rw [told1_n h1, told1_e h2]
        rfl
      | cons e es =>
        rw [h2] at h1
        rw [told1_c h1, told1_c h2]
        rfl
  exact told_each one
theorem good_shift {b m : Int} {cs : List Str} {es : List En} (h : GoodE b cs es) (hi : ∀ e ∈ es, e.1 + m ≤ 100000000) : GoodE (b + m) cs (es.map fun e => (e.1 + m, e.2)) := by
  refine ⟨fun x hx => ?_, ?_⟩
  · obtain ⟨e, he, rfl⟩ := List.mem_map.mp hx
    obtain ⟨g1, g2, g3⟩ := okEn_hour (h.1 e he)
    exact okEn_mk (by show b + m ≤ e.1 + m; omega) (hi e he) g3
  · rw [List.pairwise_map]
    exact h.2.imp fun hlt => by show _ + m < _ + m; omega
/-- rows that can be shown: few, short -/
structure FewT (t : Tb) : Prop where
  l : t.length ≤ 10
  r : ∀ r ∈ t, nameS r.1 = true ∧ r.2.length ≤ 12 ∧ ∀ e ∈ r.2, 0 ≤ e.1 ∧ e.1 ≤ 100000000 ∧ nameS e.2 = true
theorem FewT.sm {t : Tb} (h : FewT t) : SmX 5 2600084 (tbD t) := by
  refine (SmX.dct (n := 3) (w := 130000) (m := 10) (fun kv hkv => ?_) (by rw [List.length_map]; exact h.l)).mono (by decide) (by decide)
  obtain ⟨r, hr, rfl⟩ := List.mem_map.mp hkv
  obtain ⟨g1, g2, g3⟩ := h.r r hr
  refine ⟨(SmX.of (Sm.str (name_ok g1) (Nat.le_trans (name_len8 g1) (by decide)))).mono (by decide) (by decide), (SmX.of (Sm.lst (n := 1) (w := 4100) (m := 30) (fun d' hd => ?_) (by rw [List.length_map]; omega))).mono (by decide) (by decide)⟩
  obtain ⟨e, he, rfl⟩ := List.mem_map.mp hd
  obtain ⟨k1, k2, k3⟩ := g3 e he
  exact (Sm.tup (n := 0) (w := 2000) (m := 2) (sm_cons (Sm.int (by omega)) (sm_cons (Sm.str (name_ok k3) (Nat.le_trans (name_len8 k3) (by decide))) sm_nil)) (Nat.le_refl 2)).mono (by decide) (by decide)
theorem FewT.nm {t : Tb} (h : FewT t) {rs : List Rl} (e : rs.map (·.2) = t) : ∀ r ∈ rs, ∀ x ∈ r.2.2, x.2.length ≤ 100000 := fun r hr x hx => by
  have := (h.r r.2 (e ▸ List.mem_map_of_mem hr)).2.2 x hx
  exact Nat.le_trans (name_len8 this.2.2) (by decide)
theorem isTab_few {b : Int} {vs cs : List Str} {t : Tb} (hv : ∀ r ∈ t, r.1 ∈ vs) (hg : ∀ r ∈ t, GoodE b cs r.2) : isTabD b vs cs (tbD t) = true := by
  show (t.map rowD).all (fun kv => keyIn vs kv.1 && areEnts b cs kv.2) = true
  rw [List.all_eq_true]
  intro kv hkv
  obtain ⟨r, hr, rfl⟩ := List.mem_map.mp hkv
  show (decide (r.1 ∈ vs) && rises b cs (b - 1) (r.2.map enD)) = true
  rw [decide_eq_true (hv r hr), good_rises (hg r hr)]
  rfl
theorem WoAt.box {T : Tx K mg} {H H' : Hp} {a p : Addr} {w : Wd} {L : List Addr} {n : Nat} (h : WoAt T H a w L) (k : KeepB p H H') (b : BoxAt H p n) (hp : p ∉ L) : WoAt T H' a w L := by
  obtain ⟨_, _, _, e, _⟩ := b
  exact h.kb k e hp
theorem rows_keepX {K : PySem.W.Frag} {H H' : Hp} (kt : ∀ b xs, H b = some (.tup xs) → H' b = some (.tup xs)) : ∀ {es : List En} {ps : List V} {ds : List PyData}, RowsAt H ps (es.map enV) → PxAll K H ps ds → PxAll K H' ps ds
  | [], _, _, h, a => by
    cases h
    cases a
    exact .nil
  | e :: es, _, _, h, a => by
    rw [List.map_cons] at h
    cases h with
    | cons e1 r =>
      cases a with
      | cons p1 a =>
        refine .cons ?_ (rows_keepX kt r a)
        cases p1 with
        | tup e2 a2 =>
          rw [e1] at e2
          cases e2
          refine .tup (kt _ _ e1) ?_
          cases a2 with
          | cons i1 a3 =>
            cases i1
            cases a3 with
            | cons i2 a4 =>
              cases a4
              cases i2 with
              | str _ l => exact .cons (.int _) (.cons (.str _ l) .nil)
        | lst e2 _ => rw [e1] at e2; cases e2
        | dct e2 _ => rw [e1] at e2; cases e2
theorem tbQ_keepX {K : PySem.W.Frag} {H H' : Hp} {p : Addr} {n : Nat} (b : BoxAt H p n) (k : KeepB p H H') : ∀ {rs : List Rl} {ds : List (PyData × PyData)}, (∀ r ∈ rs, r.1 ≠ p ∧ ∃ ps, SeqOf H r.1 ps ∧ RowsAt H ps (r.2.2.map enV)) → PxKv K H (kvL rs) ds → PxKv K H' (kvL rs) ds
  | [], _, _, a => by
    cases a
    exact .nil
  | r :: rs, _, h, a => by
    obtain ⟨np, ps, z1, z2⟩ := h r List.mem_cons_self
    have kt := kb_tup k b
    cases a with
    | cons p1 a =>
      refine .cons ?_ (tbQ_keepX b k (fun x hx => h x (List.mem_cons_of_mem _ hx)) a)
      cases p1 with
      | lst e a2 =>
        rcases z1 with z1 | z1
        · rw [e] at z1
          cases z1
          exact .lst (k _ _ e np) (rows_keepX kt z2 a2)
        · rw [e] at z1
          cases z1
      | tup e a2 =>
        rcases z1 with z1 | z1
        · rw [e] at z1
          cases z1
        · rw [e] at z1
          cases z1
          exact .tup (kt _ _ e) (rows_keepX kt z2 a2)
      | dct e _ =>
        rcases z1 with z1 | z1 <;> rw [e] at z1 <;> cases z1
def sp_law_right (T : Tx K mg) : Sp := fun vs H Q _ => ∃ (p sc a t x : Addr) (n : Nat) (w : Wd) (L : List Addr) (d : Td) (rs : List Rl), vs = [.ref p, .ref sc] ∧ BoxAt H p n ∧ n ≤ 80000 ∧ H sc = some (.tup [.ref a, .ref t, .ref x]) ∧ WoAt T H a w L ∧ WdOf w d ∧ TdAt H t d ∧ TdOk d ∧ TbQ H x rs ∧
  GoodT d.begin (vsD d) (csD d) 12 (rs.map (·.2)) ∧ (∀ r ∈ rs, ∀ e ∈ r.2.2, e.1 ≤ 2000000) ∧ p ∉ L ∧ (∀ r ∈ rs, r.1 ≠ p) ∧ ∀ H', BoxAt H' p (n + 30) → KeepB p H H' → Q (.bl true) H'
theorem ok_law_right (T : Tx K mg) : FnOkG P w K mg base 11 T.a_law_right T.d_law_right ["_law_box_here", "_law_scene"] (sp_law_right T) := by
  refine okG T.F_law_right sc_law_right (fun vs H Q E h => ?_) (fun cdv A outer s H vs Q E hG hr h => ?_)
  · obtain ⟨p, sc, a, t, x, n, w, L, d, rs, rfl, _⟩ := h
    rfl
  · refine ⟨_, (pss_cons (ps_asg (pv 1) (pg_tup rfl (pgs_cons (pg_name (i := 2) sc_law_right.nd rfl (Or.inl rfl)) (pgs_cons (pg_name (i := 3) sc_law_right.nd rfl (Or.inl rfl)) (pgs_cons (pg_name (i := 4) sc_law_right.nd rfl (Or.inl rfl)) pgs_nil)))))
        (pss_cons (ps_set (i := 5) sc_law_right.nd rfl (Or.inl rfl) (pe_op op_sub (pe_op op_pow pe_int pe_int) (pe_callB (maxIK (K := K) rfl rfl) (by rfl) T.m_max (by decide +kernel) (pa_cons (pe_op op_cat (pe_op op_cat (pe_lst (pa_cons (pe_ix (ixTK (K := K) rfl) (pv 3) pe_int (fun _ _ => rfl)) pa_nil)) (pe_lc (own := [("_law_row", 15)]) (g := gName 15) (tt := tYes) rfl sc_law_right.nd (pi_tupK (K := K) rfl (pe_ix (ixTK (K := K) rfl) (pv 3) pe_int (fun _ _ => rfl))) (blkOk_by (own := [("_law_row", 15)]) (N := N_law_right) (sc := defScope s_law_right) (by decide +kernel)) (fun _ _ _ _ _ => (pg_name (i := 15) sc_law_right.nd rfl (Or.inl rfl))) (fun _ _ _ _ _ => pts_nil) (fun _ _ _ _ _ => (pe_frm (pe_ix (ixTK (K := K) rfl) (pv 15) pe_int (fun _ _ => rfl)))))) (pe_lc (own := [("_law_row", 15)]) (g := gName 15) (tt := tYes) rfl sc_law_right.nd (pi_tupK (K := K) rfl (pe_ix (ixTK (K := K) rfl) (pv 3) pe_int (fun _ _ => rfl))) (blkOk_by (own := [("_law_row", 15)]) (N := N_law_right) (sc := defScope s_law_right) (by decide +kernel)) (fun _ _ _ _ _ => (pg_name (i := 15) sc_law_right.nd rfl (Or.inl rfl))) (fun _ _ _ _ _ => pts_nil) (fun _ _ _ _ _ => (pe_frm (pe_ix (ixTK (K := K) rfl) (pv 15) pe_int (fun _ _ => rfl)))))) pa_nil))))
        (pss_cons (ps_set (i := 6) sc_law_right.nd rfl (Or.inl rfl) (pe_callB (reprX (K := K) rfl hG hr.units) (by rfl) T.m_repr (by decide +kernel) (pa_cons (pv 4) pa_nil)))
        (pss_cons (ps_for PassesOwn.never rfl (pi_range1 (by rfl) T.m_range (pa_cons pe_int pa_nil)) (pg_name (i := 7) sc_law_right.nd rfl (Or.inl rfl))
        (pss_cons (ps_set (i := 8) sc_law_right.nd rfl (Or.inl rfl) (pe_call (ok_law_number T) (hr.mono (by decide)) (by rfl) T.g_law_number T.F_law_number.kp T.b_law_number .nil pass0 (pa_cons (pv 0) (pa_cons pe_int (pa_cons (pv 5) pa_nil)))))
        (pss_cons (ps_set (i := 9) sc_law_right.nd rfl (Or.inl rfl) (pe_call (ok_later_world T) (hr.mono (by decide)) (by rfl) T.g_later_world T.F_later_world.kp T.b_later_world .nil passX0 (pa_cons (pv 2) (pa_cons (pv 8) pa_nil))))
        (pss_cons (ps_if (PW.pt (pw_or (pt_cmpR op_ne (pe_callB (reprE (K := K) rfl hG hr.units) (by rfl) T.m_repr (by decide +kernel) (pa_cons (pe_meth0 (pv 9) T.cl_World T.me_World_told (ok_World_told T) (hr.mono (by decide)) T.b_World_told .nil pass0) pa_nil)) (pe_callB (reprE (K := K) rfl hG hr.units) (by rfl) T.m_repr (by decide +kernel) (pa_cons (pe_call (ok_law_due T) (hr.mono (by decide)) (by rfl) T.g_law_due T.F_law_due.kp T.b_law_due .nil pass0 (pa_cons (pv 3) (pa_cons (pv 8) pa_nil))) pa_nil)) (nomark _)) (pw_or1 (pt_cmpR op_ne (pe_callB (reprE (K := K) rfl hG hr.units) (by rfl) T.m_repr (by decide +kernel) (pa_cons (pe_meth0 (pv 2) T.cl_World T.me_World_told (ok_World_told T) (hr.mono (by decide)) T.b_World_told .nil pass0) pa_nil)) (pe_callB (reprE (K := K) rfl hG hr.units) (by rfl) T.m_repr (by decide +kernel) (pa_cons (pv 3) pa_nil)) (nomark _)))))
        (pss_one (ps_ret pe_bl))
        pss_nil)
        (pss_cons (ps_set (i := 10) sc_law_right.nd rfl (Or.inl rfl) (pe_call (ok_later_table T) (hr.mono (by decide)) (by rfl) T.g_later_table T.F_later_table.kp T.b_later_table .nil passX0 (pa_cons (pv 2) (pa_cons (pv 4) (pa_cons (pv 8) pa_nil)))))
        (pss_cons (ps_if (PW.pt (pw_or (pt_cmpR op_ne (pe_callB (reprX (K := K) rfl hG hr.units) (by rfl) T.m_repr (by decide +kernel) (pa_cons (pv 10) pa_nil)) (pe_callB (reprX (K := K) rfl hG hr.units) (by rfl) T.m_repr (by decide +kernel) (pa_cons (pe_call (ok_law_due_table T) (hr.mono (by decide)) (by rfl) T.g_law_due_table T.F_law_due_table.kp T.b_law_due_table .nil pass0 (pa_cons (pv 3) (pa_cons (pv 4) (pa_cons (pv 8) pa_nil)))) pa_nil)) (nomark _)) (pw_or1 (pt_cmpR op_ne (pe_callB (reprX (K := K) rfl hG hr.units) (by rfl) T.m_repr (by decide +kernel) (pa_cons (pv 4) pa_nil)) (pv 6) (nomark _)))))
        (pss_one (ps_ret pe_bl))
        pss_nil)
        (pss_cons (ps_set (i := 11) sc_law_right.nd rfl (Or.inl rfl) (pe_call (ok_law_number T) (hr.mono (by decide)) (by rfl) T.g_law_number T.F_law_number.kp T.b_law_number .nil pass0 (pa_cons (pv 0) (pa_cons pe_int (pa_cons (pe_op op_sub (pv 5) (pv 8)) pa_nil)))))
        (pss_cons (ps_if (pt_cmpR op_ne (pe_callB (reprE (K := K) rfl hG hr.units) (by rfl) T.m_repr (by decide +kernel) (pa_cons (pe_meth0 (pe_call (ok_later_world T) (hr.mono (by decide)) (by rfl) T.g_later_world T.F_later_world.kp T.b_later_world .nil passX0 (pa_cons (pv 9) (pa_cons (pv 11) pa_nil))) T.cl_World T.me_World_told (ok_World_told T) (hr.mono (by decide)) T.b_World_told .nil pass0) pa_nil)) (pe_callB (reprE (K := K) rfl hG hr.units) (by rfl) T.m_repr (by decide +kernel) (pa_cons (pe_call (ok_law_due T) (hr.mono (by decide)) (by rfl) T.g_law_due T.F_law_due.kp T.b_law_due .nil pass0 (pa_cons (pv 3) (pa_cons (pe_op op_add (pv 8) (pv 11)) pa_nil))) pa_nil)) (nomark _))
        (pss_one (ps_ret pe_bl))
        pss_nil)
        (pss_cons (ps_set (i := 12) sc_law_right.nd rfl (Or.inl rfl) (pe_call (ok_later_table T) (hr.mono (by decide)) (by rfl) T.g_later_table T.F_later_table.kp T.b_later_table .nil passX0 (pa_cons (pv 9) (pa_cons (pv 10) (pa_cons (pv 11) pa_nil)))))
        (pss_cons (ps_if (pt_cmpR op_ne (pe_callB (reprX (K := K) rfl hG hr.units) (by rfl) T.m_repr (by decide +kernel) (pa_cons (pv 12) pa_nil)) (pe_callB (reprX (K := K) rfl hG hr.units) (by rfl) T.m_repr (by decide +kernel) (pa_cons (pe_call (ok_law_due_table T) (hr.mono (by decide)) (by rfl) T.g_law_due_table T.F_law_due_table.kp T.b_law_due_table .nil pass0 (pa_cons (pv 3) (pa_cons (pv 4) (pa_cons (pe_op op_add (pv 8) (pv 11)) pa_nil)))) pa_nil)) (nomark _))
        (pss_one (ps_ret pe_bl))
        pss_nil)
        (pss_cons (ps_lock (ps_for PassesOwn.never rfl (pi_values (pv 10)) (pg_name (i := 13) sc_law_right.nd rfl (Or.inl rfl))
        (pss_one (ps_expr (pe_bm PySem.F.plainAttrs_list PySem.F.slot_list_append PySem.F.type_list_append mt_append (pv 13) (pa_cons pe_str pa_nil))))))
        (pss_cons (ps_set (i := 14) sc_law_right.nd rfl (Or.inl rfl) (pe_op op_add (pe_op op_add (pv 5) pe_int) (pe_call (ok_law_take T) (hr.mono (by decide)) (by rfl) T.g_law_take T.F_law_take.kp T.b_law_take .nil pass0 (pa_cons (pv 0) (pa_cons pe_int pa_nil)))))
        (pss_cons (ps_if (PW.pt (pw_or (pt_not (pt_val (pe_callG hG (ok_law_refused T) (hr.mono (by decide)) (by rfl) T.g_law_refused T.F_law_refused.kp T.b_law_refused (pa_cons (pv 2) (pa_cons pe_non (pa_cons (pv 14) pa_nil)))))) (pw_or1 (pt_not (pt_val (pe_callG hG (ok_law_refused T) (hr.mono (by decide)) (by rfl) T.g_law_refused T.F_law_refused.kp T.b_law_refused (pa_cons (pv 9) (pa_cons pe_non (pa_cons (pe_op op_add (pe_op op_sub (pv 5) (pv 8)) pe_int) pa_nil)))))))))
        (pss_one (ps_ret pe_bl))
        pss_nil)
        (pss_cons (ps_if (pt_cmpR op_ne (pe_callB (reprX (K := K) rfl hG hr.units) (by rfl) T.m_repr (by decide +kernel) (pa_cons (pe_call (ok_later_table T) (hr.mono (by decide)) (by rfl) T.g_later_table T.F_later_table.kp T.b_later_table .nil passX0 (pa_cons (pv 2) (pa_cons (pv 4) (pa_cons (pe_op op_pow pe_int pe_int) pa_nil)))) pa_nil)) (pe_callB (reprX (K := K) rfl hG hr.units) (by rfl) T.m_repr (by decide +kernel) (pa_cons (pe_call (ok_law_due_table T) (hr.mono (by decide)) (by rfl) T.g_law_due_table T.F_law_due_table.kp T.b_law_due_table .nil pass0 (pa_cons (pv 3) (pa_cons (pv 4) (pa_cons (pe_op op_pow pe_int pe_int) pa_nil)))) pa_nil)) (nomark _))
        (pss_one (ps_ret pe_bl))
        pss_nil)
        (pss_one (ps_if (pt_not (pt_val (pe_callG hG (ok_law_refused T) (hr.mono (by decide)) (by rfl) T.g_law_refused T.F_law_refused.kp T.b_law_refused (pa_cons (pv 2) (pa_cons (pv 4) (pa_cons (pe_op op_add (pe_op op_add (pe_op op_pow pe_int pe_int) pe_int) (pe_op op_mul (pe_call (ok_law_take T) (hr.mono (by decide)) (by rfl) T.g_law_take T.F_law_take.kp T.b_law_take .nil pass0 (pa_cons (pv 0) (pa_cons pe_int pa_nil))) (pe_call (ok_law_take T) (hr.mono (by decide)) (by rfl) T.g_law_take T.F_law_take.kp T.b_law_take .nil pass0 (pa_cons (pv 0) (pa_cons (pe_op op_pow pe_int pe_int) pa_nil))))) pa_nil))))))
        (pss_one (ps_ret pe_bl))
        pss_nil))))))))))))))))
        (pss_one (ps_ret pe_bl)))))), ?_⟩
    obtain ⟨p, sc, a, t, x, n, w, L, d, rs, rfl, hB, hn, hsc, hW, hwd, hT, ok, hX, gT, hr2, pL, rp, q⟩ := h
    obtain ⟨okw, dxw, l_p, l_c, l_b, l_s, rfl, hA, -, -, -, -, -, -, -⟩ := id hW
    have k4 := ok.k4
    have s6 := ok.s6
    have b0 := ok.b0
    have b1 := ok.b1
    have evs : vsN w = vsD d := hwd.vs
    have ecs : csN w = csD d := hwd.cs
    have eb := hwd.b
    have vn : ∀ z ∈ vsD d, nameS z = true := fun z hz => okw.vn z (evs ▸ hz)
    have cn : ∀ z ∈ csD d, nameS z = true := fun z hz => okw.cn z (ecs ▸ hz)
    obtain ⟨ds, pk1, pk2, pk3, pk4⟩ := tbQ_kv (K := K) (b := d.begin) (vs := vsD d) (cs := csD d) hX.2 b0 (fun r hr => by
      have m := List.mem_map_of_mem (f := fun r : Rl => r.2) hr
      refine ⟨vn _ (gT.v _ m), Nat.le_trans (gT.l _ m) (by decide), fun e he => cn _ (okEn_hour ((gT.g _ m).1 e he)).2.2, gT.v _ m, gT.g _ m⟩)
    have px : Px K H (.ref x) (.dict ds) := .dct hX.1 pk1
    have lrs : rs.length ≤ 10 := by
      have := gT.len
      rw [List.length_map] at this
      have : (vsD d).length = d.brks.length + d.ships.length := by unfold vsD; rw [List.length_map, List.length_append]
      omega
    have lds : ds.length ≤ 10 := by rw [← pxk_len pk1, kvL_len]; exact lrs
    have smD : SmX 5 2600084 (.dict ds) := (SmX.dct (n := 3) (w := 130000) (m := 10) pk4 lds).mono (by decide) (by decide)
    have okD1 : isTabD w.begin (vsN w) (csN w) (.dict ds) = true := by rw [evs, ecs, eb]; exact pk3
    have tabD1 : tabOf (.dict ds) = rs.map (·.2) := pk2
    have len1 : ∀ r ∈ tabOf (.dict ds), r.2.length ≤ 1000 := fun r hr => Nat.le_trans (gT.l r (tabD1 ▸ hr)) (by decide)
    have len2 : ∀ r ∈ rs, r.2.2.length ≤ 1000 := fun r hr => Nat.le_trans (gT.l _ (List.mem_map_of_mem hr)) (by decide)
    generalize hu0 : told (vsD d) (rs.map (·.2)) = u0
    have mu0 : ∀ r ∈ u0, r ∈ rs.map (·.2) := fun r hr => lookup_mem (tld_ok (hu0 ▸ hr)).1
    have lu0 : u0.length ≤ 10 := by
      rw [← hu0]
      have h1 := told_len (t := rs.map (·.2)) (vs := vsD d)
      have : (vsD d).length = d.brks.length + d.ships.length := by unfold vsD; rw [List.length_map, List.length_append]
      omega
    have hu2 : ∀ r ∈ u0, ∀ e ∈ r.2, e.1 ≤ 2000000 := fun r hr e he => by
      obtain ⟨r', hr', rfl⟩ := List.mem_map.mp (mu0 r hr)
      exact hr2 r' hr' e he
    have fewS : ∀ m : Int, 0 ≤ m → m ≤ 3000000 → FewT (u0.map (shiftR m)) := fun m m0 m1 => ⟨by rw [List.length_map]; exact lu0, fun r hr => by
      obtain ⟨r', hr', rfl⟩ := List.mem_map.mp hr
      have mr := mu0 r' hr'
      refine ⟨vn _ (gT.v r' mr), by show (r'.2.map _).length ≤ 12; rw [List.length_map]; exact gT.l _ mr, fun e he => ?_⟩
      obtain ⟨e', he', rfl⟩ := List.mem_map.mp he
      have h1 := okEn_hour ((gT.g _ mr).1 e' he')
      have h2 := hu2 r' hr' e' he'
      exact ⟨by show 0 ≤ e'.1 + m; omega, by show e'.1 + m ≤ _; omega, cn _ h1.2.2⟩⟩
    obtain ⟨tp, tc, tk, ts, pc, pk, ps, ht, htp, htc, rc, htk, rk, hts, rs0⟩ := id hT
    have lpb : pk.length ≤ 4 := by rw [rk.len, List.length_map]; exact k4
    have lps : ps.length ≤ 6 := by rw [rs0.len, List.length_map]; exact s6
    walk_at "rd"
    refine rd_gtup (sqT_of hsc) rfl ?_
    walk_at "rd"
    refine rd_lstB fun l1 H1 n_l1 s_H1 e_l1 => ?_ <;> walk_at "rd"
    refine rd_it (sqT_of (s_H1 _ _ htk)) ?_
    refine lc_fn (fun v : Ve => V.int v.hour) walk_tup (rk.keep s_H1) (by omega) (fun H' s => sqT_of (s _ _ (s_H1 _ _ htk))) (fun _ => rfl) (fun t c H' Q' hc ht' q' => ?_) (fun D1 H2 n_D1 s_H2 e_D1 => ?_)
    · rw [veV_1 (ok.kk c hc)] at ht'
      walk_at "rd"
      exact q'
    refine rd_catB (fun l2 H3 n_l2 s_H3 e_l2 => ?_) (s_H2 _ _ e_l1) e_D1 (by rw [List.length_map, List.length_singleton]; omega)
    have s03 := (s_H1.trans s_H2).trans s_H3
    walk_at "rd"
    refine rd_it (sqT_of (s03 _ _ hts)) ?_
    refine lc_fn (fun v : Ve => V.int v.hour) walk_tup (rs0.keep s03) (by omega) (fun H' s => sqT_of (s _ _ (s03 _ _ hts))) (fun _ => rfl) (fun t c H' Q' hc ht' q' => ?_) (fun D2 H4 n_D2 s_H4 e_D2 => ?_)
    · rw [veV_2 (ok.sk c hc)] at ht'
      walk_at "rd"
      exact q'
    refine rd_catB (fun l3 H5 n_l3 s_H5 e_l3 => ?_) (s_H4 _ _ e_l2) e_D2 (by rw [List.length_append, List.length_map, List.length_map, List.length_singleton]; omega)
    have s05 := s03.trans (s_H4.trans s_H5)
    have e_l3 : H5 l3 = some (.lst ((hoursD d).map V.int)) := by
      rw [e_l3, cols_int, cols_int]
      unfold hoursD
      rw [List.map_cons, List.map_append]
      rfl
    walk_at "rd"
    refine rd_maxI (sqL_of e_l3) (by unfold hoursD; rw [List.length_cons]; omega) fun mx hmx hmy => ?_
    have p6 : (10 : Int) ^ Int.toNat 6 = 1000000 := by decide
    walk_at "rd"
    rw [p6]
    have hmx1 : mx ≤ 1000000 := by
      unfold hoursD at hmx
      rcases List.mem_cons.mp hmx with rfl | hmx
      · exact b1
      · rw [← List.map_append] at hmx
        obtain ⟨v, hv, rfl⟩ := List.mem_map.mp hmx
        exact (ok.ko v hv).1.2.2.1
    obtain ⟨mo, hmo, mo0⟩ : ∃ mo : Int, 1000000 - mx = mo ∧ 0 ≤ mo := ⟨_, rfl, by omega⟩
    have hmoy : ∀ y ∈ hoursD d, y + mo ≤ 1000000 := fun y hy => by
      have := hmy y hy
      omega
    have mo1 : mo ≤ 1000000 := by
      have := hmoy d.begin List.mem_cons_self
      omega
    rw [hmo]
    refine rd_rX (px.keep s05) smD fun z0 y_z0 => ?_
    clear s_H1 s_H2 s_H3 s_H4 e_l1 e_l2 e_D1 e_D2 n_l1 n_l2 n_D1 n_D2 n_l3
    walk_at "rd"
    refine rd_r1 (by decide) (by decide) ?_
    have b5 := hB.keep s05
    refine forgo walk_range (fun i σ' H' => BoxAt H' p (n + 12 * i) ∧ KeepB p H5 H' ∧ ∃ x7 x8 x9 x10 x11 x12 x13 x14, σ' = [some (.ref p), some (.ref sc), some (.ref a), some (.ref t), some (.ref x), some (.int mo), some (.str z0), x7, x8, x9, x10, x11, x12, x13, x14, none]) ⟨b5, KeepB.refl _ _, _, _, _, _, _, _, _, _, rfl⟩ (fun _ _ _ _ _ => trivial) ?_ ?_
    rotate_left
    · rintro σ' H' ⟨bz, kz, x7, x8, x9, x10, x11, x12, x13, x14, rfl⟩
      walk_at "rd"
      exact q H' (bz.mono (by show n + 12 * 2 ≤ _; omega)) fun b o h np => kz _ _ (s05 _ _ h) np
    rintro i y σ' Hr Hr2 hi ⟨br, kr, x7, x8, x9, x10, x11, x12, x13, x14, rfl⟩ ⟨e0, rfl⟩
    obtain rfl : Hr2 = Hr := e0
    have k0r : KeepB p H Hr2 := fun b o h np => kr _ _ (s05 _ _ h) np
    walk_at "rd"
    refine rd_number (lo := 0) (hi := mo) fun mm Ha m0 m1 b_Ha k_Ha => ?_
    have k0a := k0r.trans k_Ha
    have hWa := hW.box k0a hB pL
    obtain ⟨_, _, _, ebx, _⟩ := id hB
    have npA : a ≠ p := ne_of hA ebx nofun
    have hAa := k0a _ _ hA npA
    have hTa := hT.tups (kb_tup k0a hB)
    have npx : x ≠ p := ne_of hX.1 ebx nofun
    have hXa : TbQ Ha x rs := ⟨k0a _ _ hX.1 npx, fun r hr => by
      obtain ⟨pe, z1, z2⟩ := hX.2 r hr
      exact ⟨pe, z1.kb k0a (rp r hr), z2.same (kb_tup k0a hB)⟩⟩
    have pxa : Px K Ha (.ref x) (.dict ds) := .dct hXa.1 (tbQ_keepX hB k0a (fun r hr => ⟨rp r hr, hX.2 r hr⟩) pk1)
    have mmy : ∀ y ∈ hoursD d, y + mm ≤ 1000000 := fun y hy => by
      have := hmoy y hy
      omega
    have ok2 := laterOk ok m0 mmy
    walk_at "rd"
    refine ⟨a, w, _, d, mm, rfl, hWa, hwd, ok, fun _ _ f w2 L2 Hb n_f hL2 s_Hb hwd2 hW2 => ?_, fun hbad => (by
      rcases hbad with h | ⟨y, hy, h⟩
      · omega
      · have := mmy y hy
        omega)⟩
    have pL2 : p ∉ L2 := fun h => by
      obtain ⟨_, _, _, e, _⟩ := b_Ha
      rw [hL2 p h] at e
      cases e
    obtain ⟨_, _, _, _, _, _, rfl, hA2, -, -, -, -, -, -, -⟩ := id hW2
    walk_at "rd"
    refine ⟨f, w2, _, rfl, hW2, fun t2 tp2 tc2 tb2 ts2 pc2 pb2 ps2 Hc s_Hc a1 a2 a3 a4 a5 a6 a7 a8 => ?_⟩
    have hT2 := WoAt.td (T := T) hwd2 a1 a2 a3 a4 a5 a6 a7 a8
    clear a1 a2 a3 a4 a5 a6 a7 a8
    walk_at "rd"
    refine rd_rZ (fun z1 y_z1 => ?_) (hT2.dp ok2) ok2.okD
    have sac := s_Hb.trans s_Hc
    walk_at "rd"
    refine ⟨t, d, mm, rfl, hTa.tups fun b xs h => sac _ _ h, ok, fun x3 Hd n_x3 s_Hd hT3 => ?_⟩
    walk_at "rd"
    refine rd_rZ (fun z2 y_z2 => ?_) (hT3.dp ok2) ok2.okD
    walk_at "rd"
    first | refine rd_iteN (ite_sameP (y_z1.trans y_z2.symm) ?_) | refine ite_sameP (y_z1.trans y_z2.symm) ?_
    walk_at "rd"
    have sad := sac.trans s_Hd
    have hAd := sad _ _ hAa
    refine ⟨a, w, _, rfl, hWa.keep sad, fun t2 tp2 tc2 tb2 ts2 pc2 pb2 ps2 He s_He a1 a2 a3 a4 a5 a6 a7 a8 => ?_⟩
    have hT4 := WoAt.td (T := T) hwd a1 a2 a3 a4 a5 a6 a7 a8
    clear a1 a2 a3 a4 a5 a6 a7 a8
    walk_at "rd"
    refine rd_rZ (fun z3 y_z3 => ?_) (hT4.dp ok) ok.okD
    have sae := sad.trans s_He
    walk_at "rd"
    refine rd_rZ (fun z4 y_z4 => ?_) ((hTa.tups fun b xs h => sae _ _ h).dp ok) ok.okD
    walk_at "rd"
    first | refine rd_iteN (ite_sameP (y_z3.trans y_z4.symm) ?_) | refine ite_sameP (y_z3.trans y_z4.symm) ?_
    walk_at "rd"
    have he5 : KeepB p H5 He := (kr.trans k_Ha).trans (Same.keepB sae)
    have b_He := b_Ha.keep sae
    have hWe := hWa.keep sae
    have hW2e := hW2.keep ((s_Hc.trans s_Hd).trans s_He)
    refine ⟨a, w, _, .ref x, .dict ds, mm, rfl, hWe, pxa.keep sae, okD1, len1, fun _ _ p2 us Hf n_p2 n_us nd_us s_Hf hp2 eus => ?_, fun hbad => (by omega)⟩
    rw [tabD1, evs, hu0] at eus
    have few1 := fewS mm m0 (by omega)
    walk_at "rd"
    refine rd_rX (tbL_px hp2 (few1.nm eus)) (by rw [eus]; exact few1.sm) fun z5 y_z5 => ?_
    rw [eus] at y_z5
    have saf := sae.trans s_Hf
    walk_at "rd"
    refine ⟨t, x, d, rs, mm, rfl, hTa.tups fun b xs h => saf _ _ h, ok, hXa.same saf, len2, fun p3 us3 Hg n_p3 n_us3 nd3 s_Hg hp3 eus3 => ?_⟩
    rw [hu0] at eus3
    walk_at "rd"
    refine rd_rX (tbL_px hp3 (few1.nm eus3)) (by rw [eus3]; exact few1.sm) fun z6 y_z6 => ?_
    rw [eus3] at y_z6
    walk_at "rd"
    first | refine rd_iteN (ite_sameP (y_z5.trans y_z6.symm) ?_) | refine ite_sameP (y_z5.trans y_z6.symm) ?_
    walk_at "rd"
    have sag := saf.trans s_Hg
    refine rd_rX (pxa.keep sag) smD fun z7 y_z7 => ?_
    walk_at "rd"
    first | refine rd_iteN (ite_sameP (y_z7.trans y_z0.symm) ?_) | refine ite_sameP (y_z7.trans y_z0.symm) ?_
    walk_at "rd"
    clear hp3 n_p3 n_us3 nd3 eus3 us3 y_z5 y_z6 y_z7 y_z1 y_z2 y_z3 y_z4 hT2 hT3 hT4
    walk_at "rd"
    have b_Hg := b_Ha.keep sag
    refine rd_number (lo := 0) (hi := mo - mm) fun me Hh me0 me1 b_Hh k_Hh => ?_
    have seg := s_Hf.trans s_Hg
    have keh : KeepB p He Hh := (Same.keepB seg).trans k_Hh
    have hWh := hWe.box keh b_He pL
    have hW2h := hW2e.box keh b_He pL2
    have kah : KeepB p Ha Hh := (Same.keepB sae).trans keh
    have p2p : p2 ≠ p := b_He.ne n_p2.e
    have usp : ∀ r ∈ us, r.1 ≠ p := fun r hr => b_He.ne (n_us r hr).e
    have hp2h : TbL Hh p2 us := ⟨k_Hh _ _ (s_Hg _ _ hp2.1) p2p, fun r hr => by
      obtain ⟨pe, y1, y2⟩ := hp2.2 r hr
      exact ⟨pe, k_Hh _ _ (s_Hg _ _ y1) (usp r hr), (y2.keep s_Hg).same (kb_tup k_Hh b_Hg)⟩⟩
    have hTh := hTa.tups (kb_tup kah b_Ha)
    have hXh : TbQ Hh x rs := ⟨kah _ _ hXa.1 npx, fun r hr => by
      obtain ⟨pe, y1, y2⟩ := hXa.2 r hr
      exact ⟨pe, y1.kb kah (rp r hr), y2.same (kb_tup kah b_Ha)⟩⟩
    have ok3 := laterOk ok (show 0 ≤ mm + me by omega) (fun y hy => by
      have := hmoy y hy
      omega)
    walk_at "rd"
    refine ⟨f, w2, _, laterD d mm, me, rfl, hW2h, hwd2, ok2, fun _ _ g w3 L3 Hi n_g hL3 s_Hi hwd3 hW3 => ?_, fun hbad => (by
      rcases hbad with h | ⟨y, hy, h⟩
      · omega
      · rw [hoursD_later] at hy
        obtain ⟨y', hy', rfl⟩ := List.mem_map.mp hy
        have := hmoy y' hy'
        omega)⟩
    obtain ⟨_, _, _, _, _, _, rfl, hA3, -, -, -, -, -, -, -⟩ := id hW3
    walk_at "rd"
    refine ⟨g, w3, _, rfl, hW3, fun t2 tp2 tc2 tb2 ts2 pc2 pb2 ps2 Hj s_Hj a1 a2 a3 a4 a5 a6 a7 a8 => ?_⟩
    have hT5 := WoAt.td (T := T) hwd3 a1 a2 a3 a4 a5 a6 a7 a8
    rw [laterD_add] at hT5
    clear a1 a2 a3 a4 a5 a6 a7 a8
    walk_at "rd"
    refine rd_rZ (fun z8 y_z8 => ?_) (hT5.dp ok3) ok3.okD
    have shj := s_Hi.trans s_Hj
    walk_at "rd"
    refine ⟨t, d, mm + me, rfl, hTh.tups fun b xs h => shj _ _ h, ok, fun x3 Hk n_x3 s_Hk hT6 => ?_⟩
    walk_at "rd"
    refine rd_rZ (fun z9 y_z9 => ?_) (hT6.dp ok3) ok3.okD
    walk_at "rd"
    first | refine rd_iteN (ite_sameP (y_z8.trans y_z9.symm) ?_) | refine ite_sameP (y_z8.trans y_z9.symm) ?_
    walk_at "rd"
    have shk := shj.trans s_Hk
    have hp2k := hp2h.same shk
    have evs2 : vsN w2 = vsD d := hwd2.vs.trans (vsD_later d mm)
    have ecs2 : csN w2 = csD d := hwd2.cs
    have eb2 : w2.begin = d.begin + mm := hwd2.b
    refine ⟨f, w2, _, .ref p2, tbD (us.map (·.2)), me, rfl, hW2h.keep shk, tbL_px hp2k (few1.nm eus), ?_, fun r hr => ?_, fun _ _ p4 us4 Hl n_p4 n_us4 nd4 s_Hl hp4 eus4 => ?_, fun hbad => (by omega)⟩
    · rw [evs2, ecs2, eb2, eus]
      refine isTab_few (fun r hr => ?_) fun r hr => ?_
      · obtain ⟨r', hr', rfl⟩ := List.mem_map.mp hr
        exact gT.v r' (mu0 r' hr')
      · obtain ⟨r', hr', rfl⟩ := List.mem_map.mp hr
        exact good_shift (gT.g r' (mu0 r' hr')) fun e he => by
          have := hu2 r' hr' e he
          omega
    · rw [tabOf_tbD, eus] at hr
      exact Nat.le_trans (few1.r r hr).2.1 (by decide)
    rw [tabOf_tbD, eus, evs2, ← hu0, told_shift, hu0, shift_add] at eus4
    have few2 := fewS (mm + me) (by omega) (by omega)
    walk_at "rd"
    refine rd_rX (tbL_px hp4 (few2.nm eus4)) (by rw [eus4]; exact few2.sm) fun z10 y_z10 => ?_
    rw [eus4] at y_z10
    have shl := shk.trans s_Hl
    walk_at "rd"
    refine ⟨t, x, d, rs, mm + me, rfl, hTh.tups fun b xs h => shl _ _ h, ok, hXh.same shl, len2, fun p5 us5 Hm n_p5 n_us5 nd5 s_Hm hp5 eus5 => ?_⟩
    rw [hu0] at eus5
    walk_at "rd"
    refine rd_rX (tbL_px hp5 (few2.nm eus5)) (by rw [eus5]; exact few2.sm) fun z11 y_z11 => ?_
    rw [eus5] at y_z11
    walk_at "rd"
    first | refine rd_iteN (ite_sameP (y_z10.trans y_z11.symm) ?_) | refine ite_sameP (y_z10.trans y_z11.symm) ?_
    walk_at "rd"
    clear hp5 n_p5 n_us5 nd5 eus5 us5 hp4 n_us4 nd4 eus4 us4 y_z10 y_z11 y_z8 y_z9 hT5 hT6 hW3 hA3 hL3
    have shm := shl.trans s_Hm
    have kem : KeepB p He Hm := keh.trans (Same.keepB shm)
    have b_Hm := b_Hh.keep shm
    have hp2m := hp2h.same shm
    refine rd_lock hp2m.1 trivial fun od Hn e_n hf => ?_
    walk_at "rd"
    refine rd_vls hf ?_
    have kn : ∀ b o, Hm b = some o → b ≠ p2 → Hn b = some o := fun b o h n => by rw [e_n, upd_ne n]; exact h
    have hus : ∀ r ∈ us, ∃ xs, Hn r.1 = some (.lst xs) ∧ xs.length ≤ 12 + 0 := fun r hr => by
      obtain ⟨pe, y1, y2⟩ := hp2m.2 r hr
      refine ⟨pe, kn _ _ y1 (ne_of y1 hp2m.1 nofun), ?_⟩
      have := (few1.r r.2 (eus ▸ List.mem_map_of_mem hr)).2.1
      rw [y2.len, List.length_map]
      omega
    have lus : us.length ≤ 10 := by
      have := congrArg List.length eus
      rw [List.length_map, List.length_map] at this
      omega
    have p2u : ∀ r ∈ us, r.1 ≠ p2 := fun r hr => by
      obtain ⟨xs, y1, _⟩ := hus r hr
      exact ne_of y1 hf nofun
    refine forgo walk_values (fun j σ' H' => (∀ b o, Hn b = some o → b ∉ us.map (·.1) → H' b = some o) ∧ (∀ r ∈ us, ∃ xs, H' r.1 = some (.lst xs) ∧ xs.length ≤ 12 + j) ∧ ∃ x13, σ' = [some (.ref p), some (.ref sc), some (.ref a), some (.ref t), some (.ref x), some (.int mo), some (.str z0), some (.int (0 + (i : Int))), some (.int mm), some (.ref f), some (.ref p2), some (.int me), some (.ref p4), x13, x14, none]) ⟨fun b o h _ => h, hus, _, rfl⟩ (fun j σ' H' _ z => z.1 _ _ hf (fun m => by
        obtain ⟨r, hr, e⟩ := List.mem_map.mp m
        exact p2u r hr e)) ?_ ?_
    · rintro j y σ' Ho Ho2 hj ⟨kf, lf, x13, rfl⟩ ⟨e0, kk, hkk⟩
      obtain rfl : Ho2 = Ho := e0
      unfold kvL at hkk
      rw [List.getElem?_map] at hkk
      obtain ⟨r, hr, er⟩ := Option.map_eq_some_iff.mp hkk
      cases er
      have mr := List.mem_of_getElem? hr
      obtain ⟨xs, y1, y2⟩ := lf r mr
      rw [kvL_len] at hj
      walk_at "rd"
      refine rd_tyL (sqL_of y1) ?_
      walk_at "rd"
      refine rd_append y1 (by omega) ?_
      refine ⟨fun b o h nb => ?_, fun r2 hr2 => ?_, _, rfl⟩
      · rw [upd_ne (fun e => nb (by rw [e]; exact List.mem_map_of_mem (f := fun r : Rl => r.1) mr))]
        exact kf b o h nb
      · by_cases e : r2.1 = r.1
        · rw [e, upd_same]
          exact ⟨_, rfl, by rw [List.length_append, List.length_singleton]; omega⟩
        · obtain ⟨xs2, u1, u2⟩ := lf r2 hr2
          exact ⟨xs2, by rw [upd_ne e]; exact u1, by omega⟩
    rintro σ' Ho ⟨kf, lf, x13, rfl⟩
    have p2nu : p2 ∉ us.map (·.1) := fun m => by
      obtain ⟨r, hr, e⟩ := List.mem_map.mp m
      exact p2u r hr e
    refine LkE.nx (kf _ _ hf p2nu) ?_
    have kmo : ∀ b o, Hm b = some o → b ∉ us.map (·.1) → (upd Ho p2 (.dK (kvL us))) b = some o := fun b o h nb => by
      by_cases e : b = p2
      · rw [e, upd_same, ← hp2m.1, ← e, h]
      · rw [upd_ne e]
        exact kf _ _ (kn _ _ h e) nb
    generalize upd Ho p2 (.dK (kvL us)) = Hq at kmo
    have usE : ∀ b o, He b = some o → b ∉ us.map (·.1) := fun b o h m => by
      obtain ⟨r, hr, e⟩ := List.mem_map.mp m
      have := (n_us r hr).e
      rw [e, h] at this
      cases this
    have pnu : p ∉ us.map (·.1) := fun m => by
      obtain ⟨r, hr, e⟩ := List.mem_map.mp m
      exact usp r hr e
    have keq : KeepB p He Hq := fun b o h np => kmo _ _ (kem _ _ h np) (usE b o h)
    have b_Hq : BoxAt Hq p (n + 12 * i + 4) := by
      obtain ⟨c1, c2, c3, c4, c5⟩ := b_Hm.mono (show _ ≤ n + 12 * i + 4 by omega)
      exact ⟨c1, c2, c3, kmo _ _ c4 pnu, c5⟩
    clear kmo kf lf kn hus hf e_n hp2m kem b_Hm shm shl shk hp2h hp2k hp2
    walk_at "rd"
    refine rd_takeB fun fr Hs fr_0 fr_1 b_Hs k_Hs => ?_ <;> walk_at "rd"
    have kes := keq.trans k_Hs
    have hWs := hWe.box kes b_He pL
    have hW2s := hW2e.box kes b_He pL2
    walk_at "rd"
    refine ⟨a, w, _, d, .non, _, rfl, hWs, hwd, ok, .inl ⟨rfl, mx, hmx, by omega⟩, fun Ht s_Ht => ?_⟩
    walk_at "rd"
    refine ⟨f, w2, _, laterD d mm, .non, _, rfl, hW2s.keep s_Ht, hwd2, ok2, .inl ⟨rfl, mx + mm, ?_, by omega⟩, fun Hu s_Hu => ?_⟩
    · rw [hoursD_later]
      exact List.mem_map_of_mem (f := (· + mm)) hmx
    have ssu := s_Ht.trans s_Hu
    have keu := kes.trans (Same.keepB ssu)
    have hWu := hWs.keep ssu
    have kau : KeepB p Ha Hu := (Same.keepB sae).trans keu
    have hTu := hTa.tups (kb_tup kau b_Ha)
    have hXu : TbQ Hu x rs := ⟨kau _ _ hXa.1 npx, fun r hr => by
      obtain ⟨pe, y1, y2⟩ := hXa.2 r hr
      exact ⟨pe, y1.kb kau (rp r hr), y2.same (kb_tup kau b_Ha)⟩⟩
    have pxu : Px K Hu (.ref x) (.dict ds) := .dct hXu.1 (tbQ_keepX hB (k0a.trans kau) (fun r hr => ⟨rp r hr, hX.2 r hr⟩) pk1)
    have few3 := fewS 1000000 (by decide) (by decide)
    walk_at "rd"
    rw [p6]
    refine ⟨a, w, _, .ref x, .dict ds, 1000000, rfl, hWu, pxu, okD1, len1, fun _ _ p6' us6 Hv n_p6 n_us6 nd6 s_Hv hp6 eus6 => ?_, fun hbad => (by omega)⟩
    rw [tabD1, evs, hu0] at eus6
    walk_at "rd"
    refine rd_rX (tbL_px hp6 (few3.nm eus6)) (by rw [eus6]; exact few3.sm) fun z12 y_z12 => ?_
    rw [eus6] at y_z12
    walk_at "rd"
    rw [p6]
    refine ⟨t, x, d, rs, 1000000, rfl, hTu.tups fun b xs h => s_Hv _ _ h, ok, hXu.same s_Hv, len2, fun p7 us7 Hw n_p7 n_us7 nd7 s_Hw hp7 eus7 => ?_⟩
    rw [hu0] at eus7
    walk_at "rd"
    refine rd_rX (tbL_px hp7 (few3.nm eus7)) (by rw [eus7]; exact few3.sm) fun z13 y_z13 => ?_
    rw [eus7] at y_z13
    walk_at "rd"
    first | refine rd_iteN (ite_sameP (y_z12.trans y_z13.symm) ?_) | refine ite_sameP (y_z12.trans y_z13.symm) ?_
    walk_at "rd"
    have suw := s_Hv.trans s_Hw
    have bw := (b_Hs.keep ssu).keep suw
    refine rd_takeB fun dd1 Hx dd1_0 dd1_1 b_Hx k_Hx => ?_ <;> walk_at "rd"
    have p8 : (10 : Int) ^ Int.toNat 8 = 100000000 := by decide
    walk_at "rd"
    rw [p8]
    refine rd_takeB fun dd2 Hy dd2_0 dd2_1 b_Hy k_Hy => ?_ <;> walk_at "rd"
    obtain ⟨pr, hpr, pr0⟩ : ∃ pr : Int, dd1 * dd2 = pr ∧ 0 ≤ pr := ⟨_, rfl, Int.mul_nonneg dd1_0 dd2_0⟩
    refine rd_I (.inl ⟨by omega, by omega⟩) ?_
    rw [hpr]
    walk_at "rd"
    have kwy := k_Hx.trans k_Hy
    have kay : KeepB p Ha Hy := (kau.trans (Same.keepB suw)).trans kwy
    have pxy : Px K Hy (.ref x) (.dict ds) := .dct (kay _ _ hXa.1 npx) (tbQ_keepX hB (k0a.trans kay) (fun r hr => ⟨rp r hr, hX.2 r hr⟩) pk1)
    refine ⟨a, w, _, d, .ref x, _, rfl, (hWu.keep suw).box kwy bw pL, hwd, ok, .inr ⟨x, .dict ds, rfl, pxy, okD1, len1, by rw [p6]; omega⟩, fun Hz s_Hz => ?_⟩
    walk_at "rd"
    exact ⟨(b_Hy.keep s_Hz).mono (by omega), ((kr.trans k_Ha).trans kay).trans (Same.keepB s_Hz), _, _, _, _, _, _, _, _, rfl⟩
def modD (v : Ve) : Ve := { v with hour := v.hour % 1000 }
def earlyD (d : Td) : Td := ⟨d.begin % 1000, d.ports, d.chans, d.brks.map modD, d.ships.map modD⟩
theorem earlyOk {d : Td} (ok : TdOk d) : TdOk (earlyD d) := by
  have b0 := ok.b0
  have nm : ((d.brks.map modD ++ d.ships.map modD).map (·.name)) = (d.brks ++ d.ships).map (·.name) := by
    rw [← List.map_append, List.map_map]
    rfl
  refine ⟨by show 0 ≤ d.begin % 1000; omega, by show d.begin % 1000 ≤ 1000000; omega, ok.p1, ok.p8, ok.c12, by show (d.brks.map _).length ≤ 4; rw [List.length_map]; exact ok.k4, by show (d.ships.map _).length ≤ 6; rw [List.length_map]; exact ok.s6, ok.pn, ok.pd, ok.cd, by rw [show ((earlyD d).brks ++ (earlyD d).ships).map (·.name) = _ from nm]; exact ok.vd, ok.ce, fun u hu => ?_, fun u hu => ?_, fun u hu => ?_, fun u hu => ?_, ok.co, fun u hu => ?_⟩
  · obtain ⟨v, hv, rfl⟩ := List.mem_map.mp hu
    exact ok.ke v hv
  · obtain ⟨v, hv, rfl⟩ := List.mem_map.mp hu
    exact ok.se v hv
  · obtain ⟨v, hv, rfl⟩ := List.mem_map.mp hu
    exact ok.kk v hv
  · obtain ⟨v, hv, rfl⟩ := List.mem_map.mp hu
    exact ok.sk v hv
  · have hu : u ∈ d.brks.map modD ++ d.ships.map modD := hu
    rw [← List.map_append] at hu
    obtain ⟨v, hv, rfl⟩ := List.mem_map.mp hu
    obtain ⟨⟨g1, g2, g3, g4⟩, g5⟩ := ok.ko v hv
    exact ⟨⟨g1, by show 0 ≤ v.hour % 1000; omega, by show v.hour % 1000 ≤ 1000000; omega, g4⟩, g5⟩
theorem WoAt.lists {T : Tx K mg} {H : Hp} {a p : Addr} {w : Wd} {L : List Addr} (h : WoAt T H a w L) (n : H p = none) : p ∉ L := fun hp => by
  obtain ⟨_, dx, lp, lc, lb, ls, rfl, g1, g2, g3, g4, g5, _⟩ := h
  simp only [List.mem_cons, List.not_mem_nil, or_false] at hp
  rcases hp with rfl | rfl | rfl | rfl
  · rw [n] at g2; cases g2
  · rw [n] at g3; cases g3
  · rw [n] at g4; cases g4
  · rw [n] at g5; cases g5
theorem cutV_mem {xs : List V} {lo hi : Option Int} {v : V} (h : v ∈ cutV xs lo hi) : v ∈ xs := List.mem_of_mem_drop (List.mem_of_mem_take h)
theorem cutV_le {xs : List V} {lo hi : Option Int} : (cutV xs lo hi).length ≤ xs.length := by
  unfold cutV
  rw [List.length_take, List.length_drop]
  omega
/-- a scene: a world made, its rows, a table of it; none of its lists stands at av -/
def ScAt (T : Tx K mg) (H : Hp) (av : List Addr) (v : V) : Prop := ∃ e a t x w d L rs, v = .ref e ∧ H e = some (.tup [.ref a, .ref t, .ref x]) ∧ WoAt T H a w L ∧ WdOf w d ∧ TdAt H t d ∧ TdOk d ∧ TbQ H x rs ∧ GoodT d.begin (vsD d) (csD d) 12 (rs.map (·.2)) ∧ (∀ r ∈ rs, ∀ e ∈ r.2.2, e.1 ≤ 2000000) ∧ ∀ y ∈ av, y ∉ L ∧ ∀ r ∈ rs, r.1 ≠ y
theorem ScAt.keep {T : Tx K mg} {H H' : Hp} {av : List Addr} {v : V} (h : ScAt T H av v) (s : Same H H') : ScAt T H' av v := by
  obtain ⟨e, a, t, x, w, d, L, rs, rfl, h1, h2, h3, h4, h5, h6, h7⟩ := h
  exact ⟨e, a, t, x, w, d, L, rs, rfl, s _ _ h1, h2.keep s, h3, h4.tups fun b xs e => s _ _ e, h5, h6.same s, h7⟩
theorem ScAt.kb {T : Tx K mg} {H H' : Hp} {av : List Addr} {v : V} {p : Addr} {xs : List V} (h : ScAt T H av v) (k : KeepB p H H') (hp : H p = some (.lst xs)) (m : p ∈ av) : ScAt T H' av v := by
  obtain ⟨e, a, t, x, w, d, L, rs, rfl, h1, h2, h3, h4, h5, h6, h7, h8, h9⟩ := h
  obtain ⟨g1, g2⟩ := h9 p m
  have kt : ∀ b ys, H b = some (.tup ys) → H' b = some (.tup ys) := fun b ys e => k _ _ e (ne_of e hp nofun)
  exact ⟨e, a, t, x, w, d, L, rs, rfl, kt _ _ h1, h2.kb k hp g1, h3, h4.tups kt, h5, h6.lt (fun _ e => k _ _ e (ne_of e hp nofun)) (fun r hr _ e => k _ _ e (g2 r hr)) kt, h7, h8, h9⟩
theorem ScAt.more {T : Tx K mg} {H : Hp} {av : List Addr} {v : V} {p : Addr} (h : ScAt T H av v) (n : H p = none) : ScAt T H (p :: av) v := by
  obtain ⟨e, a, t, x, w, d, L, rs, rfl, h1, h2, h3, h4, h5, h6, h7, h8, h9⟩ := h
  refine ⟨e, a, t, x, w, d, L, rs, rfl, h1, h2, h3, h4, h5, h6, h7, h8, fun y hy => ?_⟩
  rcases List.mem_cons.mp hy with rfl | hy
  · refine ⟨h2.lists n, fun r hr => ?_⟩
    obtain ⟨pe, z1, _⟩ := h6.2 r hr
    exact z1.ne n
  · exact h9 y hy
theorem ScAt.less {T : Tx K mg} {H : Hp} {av bv : List Addr} {v : V} (h : ScAt T H av v) (m : ∀ y ∈ bv, y ∈ av) : ScAt T H bv v := by
  obtain ⟨e, a, t, x, w, d, L, rs, rfl, h1, h2, h3, h4, h5, h6, h7, h8, h9⟩ := h
  exact ⟨e, a, t, x, w, d, L, rs, rfl, h1, h2, h3, h4, h5, h6, h7, h8, fun y hy => h9 y (m y hy)⟩
def sp_law (K : PySem.W.Frag) : Sp := fun vs H Q _ => ∃ (a : Addr) (ns : List Int), vs = [.ref a] ∧ SqL K H a (ns.map V.int) ∧ ns.length ≤ 63 ∧ ∀ H', Q (.bl true) H'
theorem ok_law (T : Tx K mg) : FnOkG P w K mg base 12 T.a_law T.d_law ["_law_script"] (sp_law K) := by
  refine okG T.F_law sc_law (fun vs H Q E h => ?_) (fun cdv A outer s H vs Q E hG hr h => ?_)
  · obtain ⟨a, ns, rfl, _⟩ := h
    rfl
  · refine ⟨_, (pss_cons (ps_set (i := 1) sc_law.nd rfl (Or.inl rfl) (pe_lst pa_nil))
        (pss_cons (ps_for PassesOwn.never rfl (pi_range1 (by rfl) T.m_range (pa_cons (pe_callB (max2 rfl) (by rfl) T.m_max (by decide +kernel) (pa_cons pe_int (pa_cons (pe_callB (min2 rfl) (by rfl) T.m_min (by decide +kernel) (pa_cons pe_int (pa_cons (pe_callB (lenK (K := K) rfl) (by rfl) T.m_len (by decide +kernel) (pa_cons (pv 0) pa_nil)) pa_nil))) pa_nil))) pa_nil)) (pg_name (i := 2) sc_law.nd rfl (Or.inl rfl))
        (pss_cons (ps_set (i := 3) sc_law.nd rfl (Or.inl rfl) (pe_call (ok_law_box T) (hr.mono (by decide)) (by rfl) T.g_law_box T.F_law_box.kp T.b_law_box .nil pass0 (pa_cons (pe_call (ok_law_cell T) (hr.mono (by decide)) (by rfl) T.g_law_cell T.F_law_cell.kp T.b_law_cell .nil pass0 (pa_cons (pv 0) (pa_cons (pv 2) pa_nil))) pa_nil)))
        (pss_cons (ps_set (i := 4) sc_law.nd rfl (Or.inl rfl) (pe_cmpR op_gt (pe_call (ok_law_take T) (hr.mono (by decide)) (by rfl) T.g_law_take T.F_law_take.kp T.b_law_take .nil pass0 (pa_cons (pv 3) (pa_cons pe_int pa_nil))) pe_int (nomark _)))
        (pss_cons (ps_set (i := 5) sc_law.nd rfl (Or.inl rfl) (pe_call (ok_law_world T) (hr.mono (by decide)) (by rfl) T.g_law_world T.F_law_world.kp T.b_law_world .nil pass0 (pa_cons (pv 3) (pa_cons (pe_call (ok_law_few T) (hr.mono (by decide)) (by rfl) T.g_law_few T.F_law_few.kp T.b_law_few .nil pass0 (pa_cons (pv 3) pa_nil)) pa_nil))))
        (C8.pss_cut (ps_if (pt_val (pv 4))
        (pss_cons (ps_set (i := 6) sc_law.nd rfl (Or.inl rfl) (pe_callTy (tupOfK (K := K) rfl) (by rfl) T.m_tuple (by decide +kernel) (pa_cons (pe_lc (own := [("_law_row", 9)]) (g := gName 9) (tt := tYes) rfl sc_law.nd (pi_tupK (K := K) rfl (pe_ix (ixTK (K := K) rfl) (pv 5) pe_int (fun _ _ => rfl))) (blkOk_by (own := [("_law_row", 9)]) (N := N_law) (sc := defScope s_law) (by decide +kernel)) (fun _ _ _ _ _ => (pg_name (i := 9) sc_law.nd rfl (Or.inl rfl))) (fun _ _ _ _ _ => pts_nil) (fun _ _ _ _ _ => (pe_frm (pe_op (catAK (K := K) rfl) (pe_op (catAK (K := K) rfl) (pe_slice (slTK (K := K) rfl) (pv 9) po_none (po_some pe_int)) (pe_tup (pa_cons (pe_op op_mod (pe_ix (ixTK (K := K) rfl) (pv 9) pe_int (fun _ _ => rfl)) pe_int) pa_nil))) (pe_slice (slTK (K := K) rfl) (pv 9) (po_some pe_int) po_none))))) pa_nil)))
        (pss_cons (ps_set (i := 7) sc_law.nd rfl (Or.inl rfl) (pe_callTy (tupOfK (K := K) rfl) (by rfl) T.m_tuple (by decide +kernel) (pa_cons (pe_lc (own := [("_law_row", 9)]) (g := gName 9) (tt := tYes) rfl sc_law.nd (pi_tupK (K := K) rfl (pe_ix (ixTK (K := K) rfl) (pv 5) pe_int (fun _ _ => rfl))) (blkOk_by (own := [("_law_row", 9)]) (N := N_law) (sc := defScope s_law) (by decide +kernel)) (fun _ _ _ _ _ => (pg_name (i := 9) sc_law.nd rfl (Or.inl rfl))) (fun _ _ _ _ _ => pts_nil) (fun _ _ _ _ _ => (pe_frm (pe_op (catAK (K := K) rfl) (pe_op (catAK (K := K) rfl) (pe_slice (slTK (K := K) rfl) (pv 9) po_none (po_some pe_int)) (pe_tup (pa_cons (pe_op op_mod (pe_ix (ixTK (K := K) rfl) (pv 9) pe_int (fun _ _ => rfl)) pe_int) pa_nil))) (pe_slice (slTK (K := K) rfl) (pv 9) (po_some pe_int) po_none))))) pa_nil)))
        (pss_one (ps_set (i := 5) sc_law.nd rfl (Or.inl rfl) (pe_op (catAK (K := K) rfl) (pe_op (catAK (K := K) rfl) (pe_tup (pa_cons (pe_op op_mod (pe_ix (ixTK (K := K) rfl) (pv 5) pe_int (fun _ _ => rfl)) pe_int) pa_nil)) (pe_slice (slTK (K := K) rfl) (pv 5) (po_some pe_int) (po_some pe_int))) (pe_tup (pa_cons (pv 6) (pa_cons (pv 7) pa_nil))))))))
        pss_nil)
        (pss_cons (ps_expr (pe_bm PySem.F.plainAttrs_list PySem.F.slot_list_append PySem.F.type_list_append mt_append (pv 1) (pa_cons (pe_tup (pa_cons (pe_call (ok_law_made T) (hr.mono (by decide)) (by rfl) T.g_law_made T.F_law_made.kp T.b_law_made .nil pass0 (pa_cons (pv 5) pa_nil)) (pa_cons (pv 5) (pa_cons (pe_call (ok_law_table T) (hr.mono (by decide)) (by rfl) T.g_law_table T.F_law_table.kp T.b_law_table .nil pass0 (pa_cons (pv 3) (pa_cons (pv 5) pa_nil))) pa_nil)))) pa_nil)))
        (pss_one (ps_for PassesOwn.never rfl (pi_listK (K := K) rfl (pe_slice (slLK (K := K) rfl) (pv 1) (po_some (pe_un un_neg pe_int)) po_none)) (pg_name (i := 8) sc_law.nd rfl (Or.inl rfl))
        (pss_one (ps_if (pt_not (pt_val (pe_callG hG (ok_law_right T) (hr.mono (by decide)) (by rfl) T.g_law_right T.F_law_right.kp T.b_law_right (pa_cons (pv 3) (pa_cons (pv 8) pa_nil)))))
        (pss_one (ps_ret pe_bl))
        pss_nil))))))))))
        (pss_one (ps_ret pe_bl)))), ?_⟩
    obtain ⟨a, ns, rfl, hS, hlen, q⟩ := h
    rename Hp => Hb
    walk_at "rd"
    refine rd_lstB fun l0 H0 n_l0 s_H0 e_l0 => ?_ <;> walk_at "rd"
    walk_at "rd"
    refine rd_min2 fun m hm => ?_ <;> walk_at "rd"
    refine rd_max2 fun m2 hm2 => ?_ <;> walk_at "rd"
    rw [List.length_map] at hm
    refine rd_r1 (by omega) (by omega) ?_
    refine forgo walk_range (fun i σ' H' => KeepB l0 H0 H' ∧ (∃ acc, H' l0 = some (.lst acc) ∧ acc.length = i ∧ ∀ v ∈ acc, ScAt T H' [l0] v) ∧ ∃ x2 x3 x4 x5 x6 x7 x8, σ' = [some (.ref a), some (.ref l0), x2, x3, x4, x5, x6, x7, x8, none]) ⟨KeepB.refl _ _, ⟨[], e_l0, rfl, nofun⟩, none, none, none, none, none, none, none, rfl⟩ (fun _ _ _ _ _ => trivial) ?_ ?_
    rotate_left
    · rintro σ' Hi ⟨ka, _, x2, x3, x4, x5, x6, x7, x8, rfl⟩
      walk_at "rd"
      exact q _
    rintro i x σ' Hi Hi2 hi ⟨ka, ⟨acc, el, la, fa⟩, x2, x3, x4, x5, x6, x7, x8, rfl⟩ ⟨e0, rfl⟩
    obtain rfl : Hi2 = Hi := e0
    walk_at "rd"
    refine rd_law_cell fun z => ?_ <;> walk_at "rd"
    refine rd_law_box fun p Hc n_p s_Hc b_Hc => ?_ <;> walk_at "rd"
    have npl0 : l0 ≠ p := ne_of_none el n_p.e
    refine rd_takeB fun er Hd er_0 er_1 b_Hd k_Hd => ?_ <;> walk_at "rd"
    walk_at "rd"
    refine ⟨p, _, rfl, b_Hd, by omega, fun l1 za zb zc zd He a1 a8 b0 b12 c0 c4 d0 d6 nl1 e_l1 b_He k_He => ?_⟩
    walk_at "rd"
    refine ⟨p, l1, _, za, zb, zc, zd, rfl, b_He, by omega, nl1, e_l1, a1, by omega, b0, by omega, c0, by omega, d0, by omega, fun d t Hf _ _ ok hT b_Hf k_Hf => ?_⟩
    have ok := ok a8 b12 c4 d6
    have kcf : KeepB p Hc Hf := (k_Hd.trans k_He).trans k_Hf
    walk_at "rd"
    refine ⟨fun σ' H' => ∃ d t x6 x7, TdOk d ∧ TdAt H' t d ∧ Same Hf H' ∧ σ' = [some (.ref a), some (.ref l0), some (.int (0 + (i : Int))), some (.ref p), some (.bl (decide (0 < er))), some (.ref t), x6, x7, x8, none], ?_, ?_⟩
    · obtain ⟨tp, tc, tk, ts, pc, pk, ps, ht, htp, htc, rc, htk, rk, hts, rs⟩ := id hT
      have k4 := ok.k4
      have s6 := ok.s6
      have lpb : pk.length ≤ 4 := by rw [rk.len, List.length_map]; exact k4
      have lps : ps.length ≤ 6 := by rw [rs.len, List.length_map]; exact s6
      walk_at "rd"
      refine rd_iteD (fun c => ?_) (fun c => ?_) <;> walk_at "rd"
      rotate_left
      · walk_at "rd"
        exact ⟨d, t, _, _, ok, hT, Same.refl _, by rw [decide_eq_false c]; rfl⟩
      · walk_at "rd"
        refine rd_it (sqT_of htk) ?_
        refine lc_rw (fun v : Ve => veV (modD v)) walk_tup rk (by omega) (fun H' s => sqT_of (s _ _ htk)) (fun _ => rfl) (fun t c H' Q' hc s ht' q' => ?_) (fun D3 pb2 H1 n_D3 s_H1 e_D3 rb2 => ?_)
        · have hk := ok.kk c hc
          rw [veV_1 hk] at ht'
          rw [veV_1 (show (modD c).kind = 1 from hk)] at q'
          walk_at "rd"
          refine rd_slB (ys := [.str c.name, .str c.port]) (fun p1 Ha s_Ha e_p1 => ?_) ht'
          have ht2 := s_Ha _ _ ht'
          walk_at "rd"
          refine rd_I (show (0 : Int) < 1000 by decide) ?_
          walk_at "rd"
          refine rd_tupB fun p2 Hb2 n_p2 s_Hb2 e_p2 => ?_ <;> walk_at "rd"
          refine rd_catX (fun p3 Hc2 s_Hc2 e_p3 => ?_) (s_Hb2 _ _ e_p1) e_p2
          walk_at "rd"
          refine rd_slB (ys := [.int c.strength, .int c.draught, .int c.cut]) (fun p4 Hd2 s_Hd2 e_p4 => ?_) (s_Hc2 _ _ (s_Hb2 _ _ ht2))
          walk_at "rd"
          refine rd_catX (fun p5 He2 s_He2 e_p5 => ?_) (s_Hd2 _ _ e_p3) e_p4
          exact q' p5 He2 ((((s_Ha.trans s_Hb2).trans s_Hc2).trans s_Hd2).trans s_He2) e_p5
        walk_at "rd"
        refine rd_tupB2 (sqL_of e_D3) fun t3 H2 n_t3 s_H2 e_t3 => ?_
        have s02 := s_H1.trans s_H2
        have hts2 := s02 _ _ hts
        have ht02 := s02 _ _ ht
        walk_at "rd"
        refine rd_it (sqT_of hts2) ?_
        refine lc_rw (fun v : Ve => veV (modD v)) walk_tup (rs.keep s02) (by omega) (fun H' s => sqT_of (s _ _ hts2)) (fun _ => rfl) (fun t c H' Q' hc s ht' q' => ?_) (fun D4 ps2 H3 n_D4 s_H3 e_D4 rs2 => ?_)
        · have hk := ok.sk c hc
          rw [veV_2 hk] at ht'
          rw [veV_2 (show (modD c).kind = 2 from hk)] at q'
          walk_at "rd"
          refine rd_slB (ys := [.str c.name, .str c.port, .str c.goal]) (fun p1 Ha s_Ha e_p1 => ?_) ht'
          have ht2 := s_Ha _ _ ht'
          walk_at "rd"
          refine rd_I (show (0 : Int) < 1000 by decide) ?_
          walk_at "rd"
          refine rd_tupB fun p2 Hb2 n_p2 s_Hb2 e_p2 => ?_ <;> walk_at "rd"
          refine rd_catX (fun p3 Hc2 s_Hc2 e_p3 => ?_) (s_Hb2 _ _ e_p1) e_p2
          walk_at "rd"
          refine rd_slB (ys := [.int c.strength, .int c.draught]) (fun p4 Hd2 s_Hd2 e_p4 => ?_) (s_Hc2 _ _ (s_Hb2 _ _ ht2))
          walk_at "rd"
          refine rd_catX (fun p5 He2 s_He2 e_p5 => ?_) (s_Hd2 _ _ e_p3) e_p4
          exact q' p5 He2 ((((s_Ha.trans s_Hb2).trans s_Hc2).trans s_Hd2).trans s_He2) e_p5
        walk_at "rd"
        refine rd_tupB2 (sqL_of e_D4) fun t4 H4 n_t4 s_H4 e_t4 => ?_
        have s24 := s_H3.trans s_H4
        have s04 := s02.trans s24
        have ht4 := s04 _ _ ht
        walk_at "rd"
        refine rd_I (show (0 : Int) < 1000 by decide) ?_
        walk_at "rd"
        refine rd_tupB fun u1 H5 n_u1 s_H5 e_u1 => ?_ <;> walk_at "rd"
        refine rd_slB (ys := [.ref tp, .ref tc]) (fun u2 H6 s_H6 e_u2 => ?_) (s_H5 _ _ ht4)
        walk_at "rd"
        refine rd_catX (fun u3 H7 s_H7 e_u3 => ?_) (s_H6 _ _ e_u1) e_u2
        walk_at "rd"
        refine rd_tupB fun u4 H8 n_u4 s_H8 e_u4 => ?_ <;> walk_at "rd"
        refine rd_catX (fun u5 H9 s_H9 e_u5 => ?_) (s_H8 _ _ e_u3) e_u4
        walk_at "rd"
        have s49 := (((s_H5.trans s_H6).trans s_H7).trans s_H8).trans s_H9
        have s29 := s24.trans s49
        have s09 := s02.trans s29
        refine ⟨earlyD d, u5, _, _, earlyOk ok, ⟨tp, tc, t3, t4, pc, pb2, ps2, e_u5, s09 _ _ htp, s09 _ _ htc, rc.keep s09, s29 _ _ e_t3, ?_, s49 _ _ e_t4, ?_⟩, s09, by rw [decide_eq_true c]; rfl⟩
        · show RowsAt H9 pb2 ((d.brks.map modD).map veV)
          rw [List.map_map]
          exact (rb2.keep s_H2).keep s29
        · show RowsAt H9 ps2 ((d.ships.map modD).map veV)
          rw [List.map_map]
          exact rs2.keep (s_H4.trans s49)
    clear hT ok
    rintro σ' Hg ⟨d, t, x6, x7, ok, hT, s_Hg, rfl⟩
    have b_Hg := b_Hf.keep s_Hg
    have kcg := kcf.trans (Same.keepB s_Hg)
    have elg := kcg _ _ (s_Hc _ _ el) npl0
    obtain ⟨_, _, _, ebx, _⟩ := id b_Hc
    have fg : ∀ v ∈ acc, ScAt T Hg [p, l0] v := fun v hv => (((fa v hv).more n_p.e).keep s_Hc).kb kcg ebx List.mem_cons_self
    walk_at "rd"
    refine rd_tyL (sqL_of elg) ?_
    walk_at "rd"
    refine ⟨t, d, rfl, ok, hT, fun xw w L Hh n_x s_Hh hW hwd hL => ?_⟩
    have hTh := hT.tups fun b xs h => s_Hh _ _ h
    have b_Hh := b_Hg.keep s_Hh
    walk_at "rd"
    refine ⟨p, t, _, d, rfl, b_Hh, by omega, hTh, ok, fun xt rs Hj n_xt n_rs hX gT hr2 b_Hj k_Hj => ?_⟩
    walk_at "rd"
    refine rd_tupB fun sc Hk n_sc s_Hk e_sc => ?_ <;> walk_at "rd"
    have kgk : KeepB p Hg Hk := ((Same.keepB s_Hh).trans k_Hj).trans (Same.keepB s_Hk)
    have elk := kgk _ _ elg npl0
    obtain ⟨_, _, _, ebg, _⟩ := id b_Hg
    obtain ⟨_, _, _, ebh, _⟩ := id b_Hh
    have pL : p ∉ L := fun h => by
      have := hL p h
      rw [ebg] at this
      cases this
    have lL : l0 ∉ L := fun h => by
      have := hL l0 h
      rw [elg] at this
      cases this
    have fk : ∀ v ∈ acc ++ [.ref sc], ScAt T Hk [p, l0] v := fun v hv => by
      rcases List.mem_append.mp hv with hv | hv
      · exact (fg v hv).kb kgk ebg List.mem_cons_self
      · rw [List.mem_singleton.mp hv]
        refine ⟨sc, xw, t, xt, w, d, L, rs, rfl, e_sc, (hW.box k_Hj b_Hh pL).keep s_Hk, hwd, (hTh.tups (kb_tup k_Hj b_Hh)).tups fun b xs h => s_Hk _ _ h, ok, hX.same s_Hk, gT, hr2, fun y hy => ?_⟩
        simp only [List.mem_cons, List.not_mem_nil, or_false] at hy
        rcases hy with rfl | rfl
        · exact ⟨pL, fun r hr => b_Hh.ne (n_rs r hr).e⟩
        · exact ⟨lL, fun r hr e => by
            have := (n_rs r hr).e
            rw [e, s_Hh _ _ elg] at this
            cases this⟩
    refine rd_append elk (by omega) ?_
    have klm : KeepB l0 Hk (upd Hk l0 (.lst (acc ++ [.ref sc]))) := keepB_upd
    have fm : ∀ v ∈ acc ++ [.ref sc], ScAt T (upd Hk l0 (.lst (acc ++ [.ref sc]))) [p, l0] v := fun v hv => (fk v hv).kb klm elk (by simp)
    have elm : (upd Hk l0 (.lst (acc ++ [.ref sc]))) l0 = some (.lst (acc ++ [.ref sc])) := upd_same
    have b_Hm := (b_Hj.keep s_Hk).new (o := .lst (acc ++ [.ref sc])) npl0.symm
    generalize upd Hk l0 (.lst (acc ++ [.ref sc])) = Hm at klm fm elm b_Hm
    walk_at "rd"
    refine rd_slL (sqL_of elm) fun l5 Hn n_l5 s_Hn e_l5 => ?_
    have lcut : (cutV (acc ++ [.ref sc]) (some (-2)) none).length ≤ 65 := Nat.le_trans cutV_le (by rw [List.length_append, List.length_singleton]; omega)
    have fn : ∀ v ∈ acc ++ [.ref sc], ScAt T Hn [p, l0] v := fun v hv => (fm v hv).keep s_Hn
    have eln := s_Hn _ _ elm
    have b_Hn := b_Hm.keep s_Hn
    have l5p : l5 ≠ p := b_Hm.ne n_l5.e
    refine rd_ilB ?_ <;> walk_at "rd"
    refine forgo (walk_list (xs := cutV (acc ++ [.ref sc]) (some (-2)) none)) (fun j σ' H' => BoxAt H' p (4000 + 30 * j) ∧ KeepB p Hn H' ∧ ∃ x8, σ' = [some (.ref a), some (.ref l0), some (.int (0 + (i : Int))), some (.ref p), some (.bl (decide (0 < er))), some (.ref t), x6, x7, x8, none]) ⟨b_Hn.mono (by omega), KeepB.refl _ _, _, rfl⟩ (fun j σ' H' _ z => sqL_of (z.2.1 _ _ e_l5 l5p)) ?_ ?_
    · rintro j y σ' Ho Ho2 hj ⟨bo, ko, x8, rfl⟩ ⟨e0, hy⟩
      obtain rfl : Ho2 = Ho := e0
      obtain ⟨_, _, _, ebn, _⟩ := id b_Hn
      obtain ⟨e, a2, t2, xt2, w2, d2, L2, rs2, rfl, g1, g2, g3, g4, g5, g6, g7, g8, g9⟩ := (fn y (cutV_mem (List.mem_of_getElem? hy))).kb ko ebn List.mem_cons_self
      obtain ⟨g10, g11⟩ := g9 p List.mem_cons_self
      walk_at "rd"
      refine ⟨p, e, a2, t2, xt2, _, w2, L2, d2, rs2, rfl, bo, by omega, g1, g2, g3, g4, g5, g6, g7, g8, g10, g11, fun H' b' k' => ?_⟩
      walk_at "rd"
      exact ⟨b'.mono (by omega), ko.trans k', _, rfl⟩
    · rintro σ' Ho ⟨bo, ko, x8, rfl⟩
      walk_at "rd"
      obtain ⟨_, _, _, ebn, _⟩ := id b_Hn
      refine ⟨fun b o h nb => ?_, ⟨acc ++ [.ref sc], ko _ _ eln npl0, by rw [List.length_append]; show acc.length + 1 = i + 1; omega, fun v hv => ((fn v hv).kb ko ebn List.mem_cons_self).less (by simp)⟩, _, _, _, _, _, _, _, rfl⟩
      have h1 := ka _ _ h nb
      have np : b ≠ p := ne_of_none h1 n_p.e
      exact ko _ _ (s_Hn _ _ (klm _ _ (kgk _ _ (kcg _ _ (s_Hc _ _ h1) np) np) nb)) np

end
theorem all_mk {l : PySem.W.OpenLaw} {w : World} {K : PySem.W.Frag} {h : Heap} {mg : Str → Option Value} {fa : Addr} (X : K.In h) (G : h.Ns mainGlobals mg) (hfa : mg "law" = some (.ref fa))
    {C_IceError : Addr} (aC_IceError : PySem.W.nsIn K mainGlobals "IceError" = some (some (.ref C_IceError)))
    {C_NoName : Addr} (aC_NoName : PySem.W.nsIn K mainGlobals "NoName" = some (some (.ref C_NoName)))
    {C_NoNumber : Addr} (aC_NoNumber : PySem.W.nsIn K mainGlobals "NoNumber" = some (some (.ref C_NoNumber)))
    {C_NoPort : Addr} (aC_NoPort : PySem.W.nsIn K mainGlobals "NoPort" = some (some (.ref C_NoPort)))
    {C_NoChannel : Addr} (aC_NoChannel : PySem.W.nsIn K mainGlobals "NoChannel" = some (some (.ref C_NoChannel)))
    {C_NoVessel : Addr} (aC_NoVessel : PySem.W.nsIn K mainGlobals "NoVessel" = some (some (.ref C_NoVessel)))
    {C_NoWorld : Addr} (aC_NoWorld : PySem.W.nsIn K mainGlobals "NoWorld" = some (some (.ref C_NoWorld)))
    {C_NoTable : Addr} (aC_NoTable : PySem.W.nsIn K mainGlobals "NoTable" = some (some (.ref C_NoTable)))
    {C_Doubled : Addr} (aC_Doubled : PySem.W.nsIn K mainGlobals "Doubled" = some (some (.ref C_Doubled)))
    {C_Channel : Addr} (aC_Channel : PySem.W.nsIn K mainGlobals "Channel" = some (some (.ref C_Channel)))
    {C_Vessel : Addr} (aC_Vessel : PySem.W.nsIn K mainGlobals "Vessel" = some (some (.ref C_Vessel)))
    {C_Breaker : Addr} (aC_Breaker : PySem.W.nsIn K mainGlobals "Breaker" = some (some (.ref C_Breaker)))
    {C_Ship : Addr} (aC_Ship : PySem.W.nsIn K mainGlobals "Ship" = some (some (.ref C_Ship)))
    {C_World : Addr} (aC_World : PySem.W.nsIn K mainGlobals "World" = some (some (.ref C_World)))
    {f0 : Addr} {oc0 kV0 dc0 pm0 cd0 ct0 : Value} {od0 an0 : Option Addr} {sl0 : Array (Option Value)}
    (a0 : PySem.W.nsIn K mainGlobals "_wall" = some (some (.ref f0))) (l0 : K.lookup f0 = some ⟨oc0, od0, .func (PySem.W.fnOf "_wall" "_wall" (defArgs s_wall) (defBody s_wall) (defScope s_wall) .none kV0 dc0 pm0 an0 cd0 ct0), sl0⟩) (c0 : PySem.W.codeIn K cd0 "_wall" = true) (k0 : PySem.W.keepIn K (.ref f0) = true)
    {f1 : Addr} {oc1 kV1 dc1 pm1 cd1 ct1 : Value} {od1 an1 : Option Addr} {sl1 : Array (Option Value)}
    (a1 : PySem.W.findIn K (.ref C_NoName) "__init__" = some (some (.ref f1))) (l1 : K.lookup f1 = some ⟨oc1, od1, .func (PySem.W.fnOf "__init__" "NoName.__init__" (defArgs s_NoName___init__) (defBody s_NoName___init__) (defScope s_NoName___init__) .none kV1 dc1 pm1 an1 cd1 ct1), sl1⟩) (c1 : PySem.W.codeIn K cd1 "NoName.__init__" = true) (k1 : PySem.W.keepIn K (.ref f1) = true)
    {f2 : Addr} {oc2 kV2 dc2 pm2 cd2 ct2 : Value} {od2 an2 : Option Addr} {sl2 : Array (Option Value)}
    (a2 : PySem.W.findIn K (.ref C_NoNumber) "__init__" = some (some (.ref f2))) (l2 : K.lookup f2 = some ⟨oc2, od2, .func (PySem.W.fnOf "__init__" "NoNumber.__init__" (defArgs s_NoNumber___init__) (defBody s_NoNumber___init__) (defScope s_NoNumber___init__) .none kV2 dc2 pm2 an2 cd2 ct2), sl2⟩) (c2 : PySem.W.codeIn K cd2 "NoNumber.__init__" = true) (k2 : PySem.W.keepIn K (.ref f2) = true)
    {f3 : Addr} {oc3 kV3 dc3 pm3 cd3 ct3 : Value} {od3 an3 : Option Addr} {sl3 : Array (Option Value)}
    (a3 : PySem.W.findIn K (.ref C_NoPort) "__init__" = some (some (.ref f3))) (l3 : K.lookup f3 = some ⟨oc3, od3, .func (PySem.W.fnOf "__init__" "NoPort.__init__" (defArgs s_NoPort___init__) (defBody s_NoPort___init__) (defScope s_NoPort___init__) .none kV3 dc3 pm3 an3 cd3 ct3), sl3⟩) (c3 : PySem.W.codeIn K cd3 "NoPort.__init__" = true) (k3 : PySem.W.keepIn K (.ref f3) = true)
    {f4 : Addr} {oc4 kV4 dc4 pm4 cd4 ct4 : Value} {od4 an4 : Option Addr} {sl4 : Array (Option Value)}
    (a4 : PySem.W.findIn K (.ref C_NoChannel) "__init__" = some (some (.ref f4))) (l4 : K.lookup f4 = some ⟨oc4, od4, .func (PySem.W.fnOf "__init__" "NoChannel.__init__" (defArgs s_NoChannel___init__) (defBody s_NoChannel___init__) (defScope s_NoChannel___init__) .none kV4 dc4 pm4 an4 cd4 ct4), sl4⟩) (c4 : PySem.W.codeIn K cd4 "NoChannel.__init__" = true) (k4 : PySem.W.keepIn K (.ref f4) = true)
    {f5 : Addr} {oc5 kV5 dc5 pm5 cd5 ct5 : Value} {od5 an5 : Option Addr} {sl5 : Array (Option Value)}
    (a5 : PySem.W.findIn K (.ref C_NoVessel) "__init__" = some (some (.ref f5))) (l5 : K.lookup f5 = some ⟨oc5, od5, .func (PySem.W.fnOf "__init__" "NoVessel.__init__" (defArgs s_NoVessel___init__) (defBody s_NoVessel___init__) (defScope s_NoVessel___init__) .none kV5 dc5 pm5 an5 cd5 ct5), sl5⟩) (c5 : PySem.W.codeIn K cd5 "NoVessel.__init__" = true) (k5 : PySem.W.keepIn K (.ref f5) = true)
    {f6 : Addr} {oc6 kV6 dc6 pm6 cd6 ct6 : Value} {od6 an6 : Option Addr} {sl6 : Array (Option Value)}
    (a6 : PySem.W.findIn K (.ref C_NoWorld) "__init__" = some (some (.ref f6))) (l6 : K.lookup f6 = some ⟨oc6, od6, .func (PySem.W.fnOf "__init__" "NoWorld.__init__" (defArgs s_NoWorld___init__) (defBody s_NoWorld___init__) (defScope s_NoWorld___init__) .none kV6 dc6 pm6 an6 cd6 ct6), sl6⟩) (c6 : PySem.W.codeIn K cd6 "NoWorld.__init__" = true) (k6 : PySem.W.keepIn K (.ref f6) = true)
    {f7 : Addr} {oc7 kV7 dc7 pm7 cd7 ct7 : Value} {od7 an7 : Option Addr} {sl7 : Array (Option Value)}
    (a7 : PySem.W.findIn K (.ref C_NoTable) "__init__" = some (some (.ref f7))) (l7 : K.lookup f7 = some ⟨oc7, od7, .func (PySem.W.fnOf "__init__" "NoTable.__init__" (defArgs s_NoTable___init__) (defBody s_NoTable___init__) (defScope s_NoTable___init__) .none kV7 dc7 pm7 an7 cd7 ct7), sl7⟩) (c7 : PySem.W.codeIn K cd7 "NoTable.__init__" = true) (k7 : PySem.W.keepIn K (.ref f7) = true)
    {f8 : Addr} {oc8 kV8 dc8 pm8 cd8 ct8 : Value} {od8 an8 : Option Addr} {sl8 : Array (Option Value)}
    (a8 : PySem.W.findIn K (.ref C_Doubled) "__init__" = some (some (.ref f8))) (l8 : K.lookup f8 = some ⟨oc8, od8, .func (PySem.W.fnOf "__init__" "Doubled.__init__" (defArgs s_Doubled___init__) (defBody s_Doubled___init__) (defScope s_Doubled___init__) .none kV8 dc8 pm8 an8 cd8 ct8), sl8⟩) (c8 : PySem.W.codeIn K cd8 "Doubled.__init__" = true) (k8 : PySem.W.keepIn K (.ref f8) = true)
    {f9 : Addr} {oc9 kV9 dc9 pm9 cd9 ct9 : Value} {od9 an9 : Option Addr} {sl9 : Array (Option Value)}
    (a9 : PySem.W.nsIn K mainGlobals "is_whole" = some (some (.ref f9))) (l9 : K.lookup f9 = some ⟨oc9, od9, .func (PySem.W.fnOf "is_whole" "is_whole" (defArgs s_is_whole) (defBody s_is_whole) (defScope s_is_whole) .none kV9 dc9 pm9 an9 cd9 ct9), sl9⟩) (c9 : PySem.W.codeIn K cd9 "is_whole" = true) (k9 : PySem.W.keepIn K (.ref f9) = true)
    {f10 : Addr} {oc10 kV10 dc10 pm10 cd10 ct10 : Value} {od10 an10 : Option Addr} {sl10 : Array (Option Value)}
    (a10 : PySem.W.nsIn K mainGlobals "is_within" = some (some (.ref f10))) (l10 : K.lookup f10 = some ⟨oc10, od10, .func (PySem.W.fnOf "is_within" "is_within" (defArgs s_is_within) (defBody s_is_within) (defScope s_is_within) .none kV10 dc10 pm10 an10 cd10 ct10), sl10⟩) (c10 : PySem.W.codeIn K cd10 "is_within" = true) (k10 : PySem.W.keepIn K (.ref f10) = true)
    {f11 : Addr} {oc11 kV11 dc11 pm11 cd11 ct11 : Value} {od11 an11 : Option Addr} {sl11 : Array (Option Value)}
    (a11 : PySem.W.nsIn K mainGlobals "is_name" = some (some (.ref f11))) (l11 : K.lookup f11 = some ⟨oc11, od11, .func (PySem.W.fnOf "is_name" "is_name" (defArgs s_is_name) (defBody s_is_name) (defScope s_is_name) .none kV11 dc11 pm11 an11 cd11 ct11), sl11⟩) (c11 : PySem.W.codeIn K cd11 "is_name" = true) (k11 : PySem.W.keepIn K (.ref f11) = true)
    {f12 : Addr} {oc12 kV12 dc12 pm12 cd12 ct12 : Value} {od12 an12 : Option Addr} {sl12 : Array (Option Value)}
    (a12 : PySem.W.nsIn K mainGlobals "is_entry" = some (some (.ref f12))) (l12 : K.lookup f12 = some ⟨oc12, od12, .func (PySem.W.fnOf "is_entry" "is_entry" (defArgs s_is_entry) (defBody s_is_entry) (defScope s_is_entry) .none kV12 dc12 pm12 an12 cd12 ct12), sl12⟩) (c12 : PySem.W.codeIn K cd12 "is_entry" = true) (k12 : PySem.W.keepIn K (.ref f12) = true)
    {f13 : Addr} {oc13 kV13 dc13 pm13 cd13 ct13 : Value} {od13 an13 : Option Addr} {sl13 : Array (Option Value)}
    (a13 : PySem.W.nsIn K mainGlobals "are_entries" = some (some (.ref f13))) (l13 : K.lookup f13 = some ⟨oc13, od13, .func (PySem.W.fnOf "are_entries" "are_entries" (defArgs s_are_entries) (defBody s_are_entries) (defScope s_are_entries) .none kV13 dc13 pm13 an13 cd13 ct13), sl13⟩) (c13 : PySem.W.codeIn K cd13 "are_entries" = true) (k13 : PySem.W.keepIn K (.ref f13) = true)
    {f14 : Addr} {oc14 kV14 dc14 pm14 cd14 ct14 : Value} {od14 an14 : Option Addr} {sl14 : Array (Option Value)}
    (a14 : PySem.W.nsIn K mainGlobals "is_table" = some (some (.ref f14))) (l14 : K.lookup f14 = some ⟨oc14, od14, .func (PySem.W.fnOf "is_table" "is_table" (defArgs s_is_table) (defBody s_is_table) (defScope s_is_table) .none kV14 dc14 pm14 an14 cd14 ct14), sl14⟩) (c14 : PySem.W.codeIn K cd14 "is_table" = true) (k14 : PySem.W.keepIn K (.ref f14) = true)
    {f15 : Addr} {oc15 kV15 dc15 pm15 cd15 ct15 : Value} {od15 an15 : Option Addr} {sl15 : Array (Option Value)}
    (a15 : PySem.W.nsIn K mainGlobals "table_told" = some (some (.ref f15))) (l15 : K.lookup f15 = some ⟨oc15, od15, .func (PySem.W.fnOf "table_told" "table_told" (defArgs s_table_told) (defBody s_table_told) (defScope s_table_told) .none kV15 dc15 pm15 an15 cd15 ct15), sl15⟩) (c15 : PySem.W.codeIn K cd15 "table_told" = true) (k15 : PySem.W.keepIn K (.ref f15) = true)
    {f16 : Addr} {oc16 kV16 dc16 pm16 cd16 ct16 : Value} {od16 an16 : Option Addr} {sl16 : Array (Option Value)}
    (a16 : PySem.W.nsIn K mainGlobals "need_names" = some (some (.ref f16))) (l16 : K.lookup f16 = some ⟨oc16, od16, .func (PySem.W.fnOf "need_names" "need_names" (defArgs s_need_names) (defBody s_need_names) (defScope s_need_names) .none kV16 dc16 pm16 an16 cd16 ct16), sl16⟩) (c16 : PySem.W.codeIn K cd16 "need_names" = true) (k16 : PySem.W.keepIn K (.ref f16) = true)
    {f17 : Addr} {oc17 kV17 dc17 pm17 cd17 ct17 : Value} {od17 an17 : Option Addr} {sl17 : Array (Option Value)}
    (a17 : PySem.W.nsIn K mainGlobals "need_numbers" = some (some (.ref f17))) (l17 : K.lookup f17 = some ⟨oc17, od17, .func (PySem.W.fnOf "need_numbers" "need_numbers" (defArgs s_need_numbers) (defBody s_need_numbers) (defScope s_need_numbers) .none kV17 dc17 pm17 an17 cd17 ct17), sl17⟩) (c17 : PySem.W.codeIn K cd17 "need_numbers" = true) (k17 : PySem.W.keepIn K (.ref f17) = true)
    {f18 : Addr} {oc18 kV18 dc18 pm18 cd18 ct18 : Value} {od18 an18 : Option Addr} {sl18 : Array (Option Value)}
    (a18 : PySem.W.findIn K (.ref C_Channel) "__init__" = some (some (.ref f18))) (l18 : K.lookup f18 = some ⟨oc18, od18, .func (PySem.W.fnOf "__init__" "Channel.__init__" (defArgs s_Channel___init__) (defBody s_Channel___init__) (defScope s_Channel___init__) .none kV18 dc18 pm18 an18 cd18 ct18), sl18⟩) (c18 : PySem.W.codeIn K cd18 "Channel.__init__" = true) (k18 : PySem.W.keepIn K (.ref f18) = true)
    {f19 : Addr} {oc19 kV19 dc19 pm19 cd19 ct19 : Value} {od19 an19 : Option Addr} {sl19 : Array (Option Value)}
    (a19 : PySem.W.findIn K (.ref C_Channel) "row" = some (some (.ref f19))) (l19 : K.lookup f19 = some ⟨oc19, od19, .func (PySem.W.fnOf "row" "Channel.row" (defArgs s_Channel_row) (defBody s_Channel_row) (defScope s_Channel_row) .none kV19 dc19 pm19 an19 cd19 ct19), sl19⟩) (c19 : PySem.W.codeIn K cd19 "Channel.row" = true) (k19 : PySem.W.keepIn K (.ref f19) = true)
    {f20 : Addr} {oc20 kV20 dc20 pm20 cd20 ct20 : Value} {od20 an20 : Option Addr} {sl20 : Array (Option Value)}
    (a20 : PySem.W.findIn K (.ref C_Vessel) "__init__" = some (some (.ref f20))) (l20 : K.lookup f20 = some ⟨oc20, od20, .func (PySem.W.fnOf "__init__" "Vessel.__init__" (defArgs s_Vessel___init__) (defBody s_Vessel___init__) (defScope s_Vessel___init__) .none kV20 dc20 pm20 an20 cd20 ct20), sl20⟩) (c20 : PySem.W.codeIn K cd20 "Vessel.__init__" = true) (k20 : PySem.W.keepIn K (.ref f20) = true)
    {f21 : Addr} {oc21 kV21 dc21 pm21 cd21 ct21 : Value} {od21 an21 : Option Addr} {sl21 : Array (Option Value)}
    (a21 : PySem.W.findIn K (.ref C_Vessel) "settle" = some (some (.ref f21))) (l21 : K.lookup f21 = some ⟨oc21, od21, .func (PySem.W.fnOf "settle" "Vessel.settle" (defArgs s_Vessel_settle) (defBody s_Vessel_settle) (defScope s_Vessel_settle) .none kV21 dc21 pm21 an21 cd21 ct21), sl21⟩) (c21 : PySem.W.codeIn K cd21 "Vessel.settle" = true) (k21 : PySem.W.keepIn K (.ref f21) = true)
    {f22 : Addr} {oc22 kV22 dc22 pm22 cd22 ct22 : Value} {od22 an22 : Option Addr} {sl22 : Array (Option Value)}
    (a22 : PySem.W.findIn K (.ref C_Vessel) "thins" = some (some (.ref f22))) (l22 : K.lookup f22 = some ⟨oc22, od22, .func (PySem.W.fnOf "thins" "Vessel.thins" (defArgs s_Vessel_thins) (defBody s_Vessel_thins) (defScope s_Vessel_thins) .none kV22 dc22 pm22 an22 cd22 ct22), sl22⟩) (c22 : PySem.W.codeIn K cd22 "Vessel.thins" = true) (k22 : PySem.W.keepIn K (.ref f22) = true)
    {f23 : Addr} {oc23 kV23 dc23 pm23 cd23 ct23 : Value} {od23 an23 : Option Addr} {sl23 : Array (Option Value)}
    (a23 : PySem.W.findIn K (.ref C_Vessel) "row" = some (some (.ref f23))) (l23 : K.lookup f23 = some ⟨oc23, od23, .func (PySem.W.fnOf "row" "Vessel.row" (defArgs s_Vessel_row) (defBody s_Vessel_row) (defScope s_Vessel_row) .none kV23 dc23 pm23 an23 cd23 ct23), sl23⟩) (c23 : PySem.W.codeIn K cd23 "Vessel.row" = true) (k23 : PySem.W.keepIn K (.ref f23) = true)
    {f24 : Addr} {oc24 kV24 dc24 pm24 cd24 ct24 : Value} {od24 an24 : Option Addr} {sl24 : Array (Option Value)}
    (a24 : PySem.W.findIn K (.ref C_Breaker) "__init__" = some (some (.ref f24))) (l24 : K.lookup f24 = some ⟨oc24, od24, .func (PySem.W.fnOf "__init__" "Breaker.__init__" (defArgs s_Breaker___init__) (defBody s_Breaker___init__) (defScope s_Breaker___init__) .none kV24 dc24 pm24 an24 cd24 ct24), sl24⟩) (c24 : PySem.W.codeIn K cd24 "Breaker.__init__" = true) (k24 : PySem.W.keepIn K (.ref f24) = true)
    {f25 : Addr} {oc25 kV25 dc25 pm25 cd25 ct25 : Value} {od25 an25 : Option Addr} {sl25 : Array (Option Value)}
    (a25 : PySem.W.findIn K (.ref C_Breaker) "thins" = some (some (.ref f25))) (l25 : K.lookup f25 = some ⟨oc25, od25, .func (PySem.W.fnOf "thins" "Breaker.thins" (defArgs s_Breaker_thins) (defBody s_Breaker_thins) (defScope s_Breaker_thins) .none kV25 dc25 pm25 an25 cd25 ct25), sl25⟩) (c25 : PySem.W.codeIn K cd25 "Breaker.thins" = true) (k25 : PySem.W.keepIn K (.ref f25) = true)
    {f26 : Addr} {oc26 kV26 dc26 pm26 cd26 ct26 : Value} {od26 an26 : Option Addr} {sl26 : Array (Option Value)}
    (a26 : PySem.W.findIn K (.ref C_Breaker) "row" = some (some (.ref f26))) (l26 : K.lookup f26 = some ⟨oc26, od26, .func (PySem.W.fnOf "row" "Breaker.row" (defArgs s_Breaker_row) (defBody s_Breaker_row) (defScope s_Breaker_row) .none kV26 dc26 pm26 an26 cd26 ct26), sl26⟩) (c26 : PySem.W.codeIn K cd26 "Breaker.row" = true) (k26 : PySem.W.keepIn K (.ref f26) = true)
    {f27 : Addr} {oc27 kV27 dc27 pm27 cd27 ct27 : Value} {od27 an27 : Option Addr} {sl27 : Array (Option Value)}
    (a27 : PySem.W.findIn K (.ref C_Ship) "__init__" = some (some (.ref f27))) (l27 : K.lookup f27 = some ⟨oc27, od27, .func (PySem.W.fnOf "__init__" "Ship.__init__" (defArgs s_Ship___init__) (defBody s_Ship___init__) (defScope s_Ship___init__) .none kV27 dc27 pm27 an27 cd27 ct27), sl27⟩) (c27 : PySem.W.codeIn K cd27 "Ship.__init__" = true) (k27 : PySem.W.keepIn K (.ref f27) = true)
    {f28 : Addr} {oc28 kV28 dc28 pm28 cd28 ct28 : Value} {od28 an28 : Option Addr} {sl28 : Array (Option Value)}
    (a28 : PySem.W.findIn K (.ref C_Ship) "row" = some (some (.ref f28))) (l28 : K.lookup f28 = some ⟨oc28, od28, .func (PySem.W.fnOf "row" "Ship.row" (defArgs s_Ship_row) (defBody s_Ship_row) (defScope s_Ship_row) .none kV28 dc28 pm28 an28 cd28 ct28), sl28⟩) (c28 : PySem.W.codeIn K cd28 "Ship.row" = true) (k28 : PySem.W.keepIn K (.ref f28) = true)
    {f29 : Addr} {oc29 kV29 dc29 pm29 cd29 ct29 : Value} {od29 an29 : Option Addr} {sl29 : Array (Option Value)}
    (a29 : PySem.W.nsIn K mainGlobals "is_list" = some (some (.ref f29))) (l29 : K.lookup f29 = some ⟨oc29, od29, .func (PySem.W.fnOf "is_list" "is_list" (defArgs s_is_list) (defBody s_is_list) (defScope s_is_list) .none kV29 dc29 pm29 an29 cd29 ct29), sl29⟩) (c29 : PySem.W.codeIn K cd29 "is_list" = true) (k29 : PySem.W.keepIn K (.ref f29) = true)
    {f30 : Addr} {oc30 kV30 dc30 pm30 cd30 ct30 : Value} {od30 an30 : Option Addr} {sl30 : Array (Option Value)}
    (a30 : PySem.W.nsIn K mainGlobals "need_kinds" = some (some (.ref f30))) (l30 : K.lookup f30 = some ⟨oc30, od30, .func (PySem.W.fnOf "need_kinds" "need_kinds" (defArgs s_need_kinds) (defBody s_need_kinds) (defScope s_need_kinds) .none kV30 dc30 pm30 an30 cd30 ct30), sl30⟩) (c30 : PySem.W.codeIn K cd30 "need_kinds" = true) (k30 : PySem.W.keepIn K (.ref f30) = true)
    {f31 : Addr} {oc31 kV31 dc31 pm31 cd31 ct31 : Value} {od31 an31 : Option Addr} {sl31 : Array (Option Value)}
    (a31 : PySem.W.nsIn K mainGlobals "need_unlike" = some (some (.ref f31))) (l31 : K.lookup f31 = some ⟨oc31, od31, .func (PySem.W.fnOf "need_unlike" "need_unlike" (defArgs s_need_unlike) (defBody s_need_unlike) (defScope s_need_unlike) .none kV31 dc31 pm31 an31 cd31 ct31), sl31⟩) (c31 : PySem.W.codeIn K cd31 "need_unlike" = true) (k31 : PySem.W.keepIn K (.ref f31) = true)
    {f32 : Addr} {oc32 kV32 dc32 pm32 cd32 ct32 : Value} {od32 an32 : Option Addr} {sl32 : Array (Option Value)}
    (a32 : PySem.W.nsIn K mainGlobals "need_ports" = some (some (.ref f32))) (l32 : K.lookup f32 = some ⟨oc32, od32, .func (PySem.W.fnOf "need_ports" "need_ports" (defArgs s_need_ports) (defBody s_need_ports) (defScope s_need_ports) .none kV32 dc32 pm32 an32 cd32 ct32), sl32⟩) (c32 : PySem.W.codeIn K cd32 "need_ports" = true) (k32 : PySem.W.keepIn K (.ref f32) = true)
    {f33 : Addr} {oc33 kV33 dc33 pm33 cd33 ct33 : Value} {od33 an33 : Option Addr} {sl33 : Array (Option Value)}
    (a33 : PySem.W.findIn K (.ref C_World) "__init__" = some (some (.ref f33))) (l33 : K.lookup f33 = some ⟨oc33, od33, .func (PySem.W.fnOf "__init__" "World.__init__" (defArgs s_World___init__) (defBody s_World___init__) (defScope s_World___init__) .none kV33 dc33 pm33 an33 cd33 ct33), sl33⟩) (c33 : PySem.W.codeIn K cd33 "World.__init__" = true) (k33 : PySem.W.keepIn K (.ref f33) = true)
    {f34 : Addr} {oc34 kV34 dc34 pm34 cd34 ct34 : Value} {od34 an34 : Option Addr} {sl34 : Array (Option Value)}
    (a34 : PySem.W.findIn K (.ref C_World) "begin_hour" = some (some (.ref f34))) (l34 : K.lookup f34 = some ⟨oc34, od34, .func (PySem.W.fnOf "begin_hour" "World.begin_hour" (defArgs s_World_begin_hour) (defBody s_World_begin_hour) (defScope s_World_begin_hour) .none kV34 dc34 pm34 an34 cd34 ct34), sl34⟩) (c34 : PySem.W.codeIn K cd34 "World.begin_hour" = true) (k34 : PySem.W.keepIn K (.ref f34) = true)
    {f35 : Addr} {oc35 kV35 dc35 pm35 cd35 ct35 : Value} {od35 an35 : Option Addr} {sl35 : Array (Option Value)}
    (a35 : PySem.W.findIn K (.ref C_World) "ports" = some (some (.ref f35))) (l35 : K.lookup f35 = some ⟨oc35, od35, .func (PySem.W.fnOf "ports" "World.ports" (defArgs s_World_ports) (defBody s_World_ports) (defScope s_World_ports) .none kV35 dc35 pm35 an35 cd35 ct35), sl35⟩) (c35 : PySem.W.codeIn K cd35 "World.ports" = true) (k35 : PySem.W.keepIn K (.ref f35) = true)
    {f36 : Addr} {oc36 kV36 dc36 pm36 cd36 ct36 : Value} {od36 an36 : Option Addr} {sl36 : Array (Option Value)}
    (a36 : PySem.W.findIn K (.ref C_World) "channels" = some (some (.ref f36))) (l36 : K.lookup f36 = some ⟨oc36, od36, .func (PySem.W.fnOf "channels" "World.channels" (defArgs s_World_channels) (defBody s_World_channels) (defScope s_World_channels) .none kV36 dc36 pm36 an36 cd36 ct36), sl36⟩) (c36 : PySem.W.codeIn K cd36 "World.channels" = true) (k36 : PySem.W.keepIn K (.ref f36) = true)
    {f37 : Addr} {oc37 kV37 dc37 pm37 cd37 ct37 : Value} {od37 an37 : Option Addr} {sl37 : Array (Option Value)}
    (a37 : PySem.W.findIn K (.ref C_World) "breakers" = some (some (.ref f37))) (l37 : K.lookup f37 = some ⟨oc37, od37, .func (PySem.W.fnOf "breakers" "World.breakers" (defArgs s_World_breakers) (defBody s_World_breakers) (defScope s_World_breakers) .none kV37 dc37 pm37 an37 cd37 ct37), sl37⟩) (c37 : PySem.W.codeIn K cd37 "World.breakers" = true) (k37 : PySem.W.keepIn K (.ref f37) = true)
    {f38 : Addr} {oc38 kV38 dc38 pm38 cd38 ct38 : Value} {od38 an38 : Option Addr} {sl38 : Array (Option Value)}
    (a38 : PySem.W.findIn K (.ref C_World) "ships" = some (some (.ref f38))) (l38 : K.lookup f38 = some ⟨oc38, od38, .func (PySem.W.fnOf "ships" "World.ships" (defArgs s_World_ships) (defBody s_World_ships) (defScope s_World_ships) .none kV38 dc38 pm38 an38 cd38 ct38), sl38⟩) (c38 : PySem.W.codeIn K cd38 "World.ships" = true) (k38 : PySem.W.keepIn K (.ref f38) = true)
    {f39 : Addr} {oc39 kV39 dc39 pm39 cd39 ct39 : Value} {od39 an39 : Option Addr} {sl39 : Array (Option Value)}
    (a39 : PySem.W.findIn K (.ref C_World) "vessels" = some (some (.ref f39))) (l39 : K.lookup f39 = some ⟨oc39, od39, .func (PySem.W.fnOf "vessels" "World.vessels" (defArgs s_World_vessels) (defBody s_World_vessels) (defScope s_World_vessels) .none kV39 dc39 pm39 an39 cd39 ct39), sl39⟩) (c39 : PySem.W.codeIn K cd39 "World.vessels" = true) (k39 : PySem.W.keepIn K (.ref f39) = true)
    {f40 : Addr} {oc40 kV40 dc40 pm40 cd40 ct40 : Value} {od40 an40 : Option Addr} {sl40 : Array (Option Value)}
    (a40 : PySem.W.findIn K (.ref C_World) "channel" = some (some (.ref f40))) (l40 : K.lookup f40 = some ⟨oc40, od40, .func (PySem.W.fnOf "channel" "World.channel" (defArgs s_World_channel) (defBody s_World_channel) (defScope s_World_channel) .none kV40 dc40 pm40 an40 cd40 ct40), sl40⟩) (c40 : PySem.W.codeIn K cd40 "World.channel" = true) (k40 : PySem.W.keepIn K (.ref f40) = true)
    {f41 : Addr} {oc41 kV41 dc41 pm41 cd41 ct41 : Value} {od41 an41 : Option Addr} {sl41 : Array (Option Value)}
    (a41 : PySem.W.findIn K (.ref C_World) "vessel" = some (some (.ref f41))) (l41 : K.lookup f41 = some ⟨oc41, od41, .func (PySem.W.fnOf "vessel" "World.vessel" (defArgs s_World_vessel) (defBody s_World_vessel) (defScope s_World_vessel) .none kV41 dc41 pm41 an41 cd41 ct41), sl41⟩) (c41 : PySem.W.codeIn K cd41 "World.vessel" = true) (k41 : PySem.W.keepIn K (.ref f41) = true)
    {f42 : Addr} {oc42 kV42 dc42 pm42 cd42 ct42 : Value} {od42 an42 : Option Addr} {sl42 : Array (Option Value)}
    (a42 : PySem.W.findIn K (.ref C_World) "told" = some (some (.ref f42))) (l42 : K.lookup f42 = some ⟨oc42, od42, .func (PySem.W.fnOf "told" "World.told" (defArgs s_World_told) (defBody s_World_told) (defScope s_World_told) .none kV42 dc42 pm42 an42 cd42 ct42), sl42⟩) (c42 : PySem.W.codeIn K cd42 "World.told" = true) (k42 : PySem.W.keepIn K (.ref f42) = true)
    {f43 : Addr} {oc43 kV43 dc43 pm43 cd43 ct43 : Value} {od43 an43 : Option Addr} {sl43 : Array (Option Value)}
    (a43 : PySem.W.nsIn K mainGlobals "channel_anew" = some (some (.ref f43))) (l43 : K.lookup f43 = some ⟨oc43, od43, .func (PySem.W.fnOf "channel_anew" "channel_anew" (defArgs s_channel_anew) (defBody s_channel_anew) (defScope s_channel_anew) .none kV43 dc43 pm43 an43 cd43 ct43), sl43⟩) (c43 : PySem.W.codeIn K cd43 "channel_anew" = true) (k43 : PySem.W.keepIn K (.ref f43) = true)
    {f44 : Addr} {oc44 kV44 dc44 pm44 cd44 ct44 : Value} {od44 an44 : Option Addr} {sl44 : Array (Option Value)}
    (a44 : PySem.W.nsIn K mainGlobals "breaker_anew" = some (some (.ref f44))) (l44 : K.lookup f44 = some ⟨oc44, od44, .func (PySem.W.fnOf "breaker_anew" "breaker_anew" (defArgs s_breaker_anew) (defBody s_breaker_anew) (defScope s_breaker_anew) .none kV44 dc44 pm44 an44 cd44 ct44), sl44⟩) (c44 : PySem.W.codeIn K cd44 "breaker_anew" = true) (k44 : PySem.W.keepIn K (.ref f44) = true)
    {f45 : Addr} {oc45 kV45 dc45 pm45 cd45 ct45 : Value} {od45 an45 : Option Addr} {sl45 : Array (Option Value)}
    (a45 : PySem.W.nsIn K mainGlobals "ship_anew" = some (some (.ref f45))) (l45 : K.lookup f45 = some ⟨oc45, od45, .func (PySem.W.fnOf "ship_anew" "ship_anew" (defArgs s_ship_anew) (defBody s_ship_anew) (defScope s_ship_anew) .none kV45 dc45 pm45 an45 cd45 ct45), sl45⟩) (c45 : PySem.W.codeIn K cd45 "ship_anew" = true) (k45 : PySem.W.keepIn K (.ref f45) = true)
    {f46 : Addr} {oc46 kV46 dc46 pm46 cd46 ct46 : Value} {od46 an46 : Option Addr} {sl46 : Array (Option Value)}
    (a46 : PySem.W.nsIn K mainGlobals "world_anew" = some (some (.ref f46))) (l46 : K.lookup f46 = some ⟨oc46, od46, .func (PySem.W.fnOf "world_anew" "world_anew" (defArgs s_world_anew) (defBody s_world_anew) (defScope s_world_anew) .none kV46 dc46 pm46 an46 cd46 ct46), sl46⟩) (c46 : PySem.W.codeIn K cd46 "world_anew" = true) (k46 : PySem.W.keepIn K (.ref f46) = true)
    {f47 : Addr} {oc47 kV47 dc47 pm47 cd47 ct47 : Value} {od47 an47 : Option Addr} {sl47 : Array (Option Value)}
    (a47 : PySem.W.nsIn K mainGlobals "later_world" = some (some (.ref f47))) (l47 : K.lookup f47 = some ⟨oc47, od47, .func (PySem.W.fnOf "later_world" "later_world" (defArgs s_later_world) (defBody s_later_world) (defScope s_later_world) .none kV47 dc47 pm47 an47 cd47 ct47), sl47⟩) (c47 : PySem.W.codeIn K cd47 "later_world" = true) (k47 : PySem.W.keepIn K (.ref f47) = true)
    {f48 : Addr} {oc48 kV48 dc48 pm48 cd48 ct48 : Value} {od48 an48 : Option Addr} {sl48 : Array (Option Value)}
    (a48 : PySem.W.nsIn K mainGlobals "later_table" = some (some (.ref f48))) (l48 : K.lookup f48 = some ⟨oc48, od48, .func (PySem.W.fnOf "later_table" "later_table" (defArgs s_later_table) (defBody s_later_table) (defScope s_later_table) .none kV48 dc48 pm48 an48 cd48 ct48), sl48⟩) (c48 : PySem.W.codeIn K cd48 "later_table" = true) (k48 : PySem.W.keepIn K (.ref f48) = true)
    {f49 : Addr} {oc49 kV49 dc49 pm49 cd49 ct49 : Value} {od49 an49 : Option Addr} {sl49 : Array (Option Value)}
    (a49 : PySem.W.nsIn K mainGlobals "_law_cell" = some (some (.ref f49))) (l49 : K.lookup f49 = some ⟨oc49, od49, .func (PySem.W.fnOf "_law_cell" "_law_cell" (defArgs s_law_cell) (defBody s_law_cell) (defScope s_law_cell) .none kV49 dc49 pm49 an49 cd49 ct49), sl49⟩) (c49 : PySem.W.codeIn K cd49 "_law_cell" = true) (k49 : PySem.W.keepIn K (.ref f49) = true)
    {f50 : Addr} {oc50 kV50 dc50 pm50 cd50 ct50 : Value} {od50 an50 : Option Addr} {sl50 : Array (Option Value)}
    (a50 : PySem.W.nsIn K mainGlobals "_law_box" = some (some (.ref f50))) (l50 : K.lookup f50 = some ⟨oc50, od50, .func (PySem.W.fnOf "_law_box" "_law_box" (defArgs s_law_box) (defBody s_law_box) (defScope s_law_box) .none kV50 dc50 pm50 an50 cd50 ct50), sl50⟩) (c50 : PySem.W.codeIn K cd50 "_law_box" = true) (k50 : PySem.W.keepIn K (.ref f50) = true)
    {f51 : Addr} {oc51 kV51 dc51 pm51 cd51 ct51 : Value} {od51 an51 : Option Addr} {sl51 : Array (Option Value)}
    (a51 : PySem.W.nsIn K mainGlobals "_law_take" = some (some (.ref f51))) (l51 : K.lookup f51 = some ⟨oc51, od51, .func (PySem.W.fnOf "_law_take" "_law_take" (defArgs s_law_take) (defBody s_law_take) (defScope s_law_take) .none kV51 dc51 pm51 an51 cd51 ct51), sl51⟩) (c51 : PySem.W.codeIn K cd51 "_law_take" = true) (k51 : PySem.W.keepIn K (.ref f51) = true)
    {f52 : Addr} {oc52 kV52 dc52 pm52 cd52 ct52 : Value} {od52 an52 : Option Addr} {sl52 : Array (Option Value)}
    (a52 : PySem.W.nsIn K mainGlobals "_law_names" = some (some (.ref f52))) (l52 : K.lookup f52 = some ⟨oc52, od52, .func (PySem.W.fnOf "_law_names" "_law_names" (defArgs s_law_names) (defBody s_law_names) (defScope s_law_names) .none kV52 dc52 pm52 an52 cd52 ct52), sl52⟩) (c52 : PySem.W.codeIn K cd52 "_law_names" = true) (k52 : PySem.W.keepIn K (.ref f52) = true)
    {f53 : Addr} {oc53 kV53 dc53 pm53 cd53 ct53 : Value} {od53 an53 : Option Addr} {sl53 : Array (Option Value)}
    (a53 : PySem.W.nsIn K mainGlobals "_law_number" = some (some (.ref f53))) (l53 : K.lookup f53 = some ⟨oc53, od53, .func (PySem.W.fnOf "_law_number" "_law_number" (defArgs s_law_number) (defBody s_law_number) (defScope s_law_number) .none kV53 dc53 pm53 an53 cd53 ct53), sl53⟩) (c53 : PySem.W.codeIn K cd53 "_law_number" = true) (k53 : PySem.W.keepIn K (.ref f53) = true)
    {f54 : Addr} {oc54 kV54 dc54 pm54 cd54 ct54 : Value} {od54 an54 : Option Addr} {sl54 : Array (Option Value)}
    (a54 : PySem.W.nsIn K mainGlobals "_law_channel" = some (some (.ref f54))) (l54 : K.lookup f54 = some ⟨oc54, od54, .func (PySem.W.fnOf "_law_channel" "_law_channel" (defArgs s_law_channel) (defBody s_law_channel) (defScope s_law_channel) .none kV54 dc54 pm54 an54 cd54 ct54), sl54⟩) (c54 : PySem.W.codeIn K cd54 "_law_channel" = true) (k54 : PySem.W.keepIn K (.ref f54) = true)
    {f55 : Addr} {oc55 kV55 dc55 pm55 cd55 ct55 : Value} {od55 an55 : Option Addr} {sl55 : Array (Option Value)}
    (a55 : PySem.W.nsIn K mainGlobals "_law_breaker" = some (some (.ref f55))) (l55 : K.lookup f55 = some ⟨oc55, od55, .func (PySem.W.fnOf "_law_breaker" "_law_breaker" (defArgs s_law_breaker) (defBody s_law_breaker) (defScope s_law_breaker) .none kV55 dc55 pm55 an55 cd55 ct55), sl55⟩) (c55 : PySem.W.codeIn K cd55 "_law_breaker" = true) (k55 : PySem.W.keepIn K (.ref f55) = true)
    {f56 : Addr} {oc56 kV56 dc56 pm56 cd56 ct56 : Value} {od56 an56 : Option Addr} {sl56 : Array (Option Value)}
    (a56 : PySem.W.nsIn K mainGlobals "_law_ship" = some (some (.ref f56))) (l56 : K.lookup f56 = some ⟨oc56, od56, .func (PySem.W.fnOf "_law_ship" "_law_ship" (defArgs s_law_ship) (defBody s_law_ship) (defScope s_law_ship) .none kV56 dc56 pm56 an56 cd56 ct56), sl56⟩) (c56 : PySem.W.codeIn K cd56 "_law_ship" = true) (k56 : PySem.W.keepIn K (.ref f56) = true)
    {f57 : Addr} {oc57 kV57 dc57 pm57 cd57 ct57 : Value} {od57 an57 : Option Addr} {sl57 : Array (Option Value)}
    (a57 : PySem.W.nsIn K mainGlobals "_law_world" = some (some (.ref f57))) (l57 : K.lookup f57 = some ⟨oc57, od57, .func (PySem.W.fnOf "_law_world" "_law_world" (defArgs s_law_world) (defBody s_law_world) (defScope s_law_world) .none kV57 dc57 pm57 an57 cd57 ct57), sl57⟩) (c57 : PySem.W.codeIn K cd57 "_law_world" = true) (k57 : PySem.W.keepIn K (.ref f57) = true)
    {f58 : Addr} {oc58 kV58 dc58 pm58 cd58 ct58 : Value} {od58 an58 : Option Addr} {sl58 : Array (Option Value)}
    (a58 : PySem.W.nsIn K mainGlobals "_law_few" = some (some (.ref f58))) (l58 : K.lookup f58 = some ⟨oc58, od58, .func (PySem.W.fnOf "_law_few" "_law_few" (defArgs s_law_few) (defBody s_law_few) (defScope s_law_few) .none kV58 dc58 pm58 an58 cd58 ct58), sl58⟩) (c58 : PySem.W.codeIn K cd58 "_law_few" = true) (k58 : PySem.W.keepIn K (.ref f58) = true)
    {f59 : Addr} {oc59 kV59 dc59 pm59 cd59 ct59 : Value} {od59 an59 : Option Addr} {sl59 : Array (Option Value)}
    (a59 : PySem.W.nsIn K mainGlobals "_law_made" = some (some (.ref f59))) (l59 : K.lookup f59 = some ⟨oc59, od59, .func (PySem.W.fnOf "_law_made" "_law_made" (defArgs s_law_made) (defBody s_law_made) (defScope s_law_made) .none kV59 dc59 pm59 an59 cd59 ct59), sl59⟩) (c59 : PySem.W.codeIn K cd59 "_law_made" = true) (k59 : PySem.W.keepIn K (.ref f59) = true)
    {f60 : Addr} {oc60 kV60 dc60 pm60 cd60 ct60 : Value} {od60 an60 : Option Addr} {sl60 : Array (Option Value)}
    (a60 : PySem.W.nsIn K mainGlobals "_law_table" = some (some (.ref f60))) (l60 : K.lookup f60 = some ⟨oc60, od60, .func (PySem.W.fnOf "_law_table" "_law_table" (defArgs s_law_table) (defBody s_law_table) (defScope s_law_table) .none kV60 dc60 pm60 an60 cd60 ct60), sl60⟩) (c60 : PySem.W.codeIn K cd60 "_law_table" = true) (k60 : PySem.W.keepIn K (.ref f60) = true)
    {f61 : Addr} {oc61 kV61 dc61 pm61 cd61 ct61 : Value} {od61 an61 : Option Addr} {sl61 : Array (Option Value)}
    (a61 : PySem.W.nsIn K mainGlobals "_law_anew" = some (some (.ref f61))) (l61 : K.lookup f61 = some ⟨oc61, od61, .func (PySem.W.fnOf "_law_anew" "_law_anew" (defArgs s_law_anew) (defBody s_law_anew) (defScope s_law_anew) .none kV61 dc61 pm61 an61 cd61 ct61), sl61⟩) (c61 : PySem.W.codeIn K cd61 "_law_anew" = true) (k61 : PySem.W.keepIn K (.ref f61) = true)
    {f62 : Addr} {oc62 kV62 dc62 pm62 cd62 ct62 : Value} {od62 an62 : Option Addr} {sl62 : Array (Option Value)}
    (a62 : PySem.W.nsIn K mainGlobals "_law_due" = some (some (.ref f62))) (l62 : K.lookup f62 = some ⟨oc62, od62, .func (PySem.W.fnOf "_law_due" "_law_due" (defArgs s_law_due) (defBody s_law_due) (defScope s_law_due) .none kV62 dc62 pm62 an62 cd62 ct62), sl62⟩) (c62 : PySem.W.codeIn K cd62 "_law_due" = true) (k62 : PySem.W.keepIn K (.ref f62) = true)
    {f63 : Addr} {oc63 kV63 dc63 pm63 cd63 ct63 : Value} {od63 an63 : Option Addr} {sl63 : Array (Option Value)}
    (a63 : PySem.W.nsIn K mainGlobals "_law_due_table" = some (some (.ref f63))) (l63 : K.lookup f63 = some ⟨oc63, od63, .func (PySem.W.fnOf "_law_due_table" "_law_due_table" (defArgs s_law_due_table) (defBody s_law_due_table) (defScope s_law_due_table) .none kV63 dc63 pm63 an63 cd63 ct63), sl63⟩) (c63 : PySem.W.codeIn K cd63 "_law_due_table" = true) (k63 : PySem.W.keepIn K (.ref f63) = true)
    {f64 : Addr} {oc64 kV64 dc64 pm64 cd64 ct64 : Value} {od64 an64 : Option Addr} {sl64 : Array (Option Value)}
    (a64 : PySem.W.nsIn K mainGlobals "_law_refused" = some (some (.ref f64))) (l64 : K.lookup f64 = some ⟨oc64, od64, .func (PySem.W.fnOf "_law_refused" "_law_refused" (defArgs s_law_refused) (defBody s_law_refused) (defScope s_law_refused) .none kV64 dc64 pm64 an64 cd64 ct64), sl64⟩) (c64 : PySem.W.codeIn K cd64 "_law_refused" = true) (k64 : PySem.W.keepIn K (.ref f64) = true)
    {f65 : Addr} {oc65 kV65 dc65 pm65 cd65 ct65 : Value} {od65 an65 : Option Addr} {sl65 : Array (Option Value)}
    (a65 : PySem.W.nsIn K mainGlobals "_law_right" = some (some (.ref f65))) (l65 : K.lookup f65 = some ⟨oc65, od65, .func (PySem.W.fnOf "_law_right" "_law_right" (defArgs s_law_right) (defBody s_law_right) (defScope s_law_right) .none kV65 dc65 pm65 an65 cd65 ct65), sl65⟩) (c65 : PySem.W.codeIn K cd65 "_law_right" = true) (k65 : PySem.W.keepIn K (.ref f65) = true)
    {f66 : Addr} {oc66 kV66 dc66 pm66 cd66 ct66 : Value} {od66 an66 : Option Addr} {sl66 : Array (Option Value)}
    (a66 : PySem.W.nsIn K mainGlobals "law" = some (some (.ref f66))) (l66 : K.lookup f66 = some ⟨oc66, od66, .func (PySem.W.fnOf "law" "law" (defArgs s_law) (defBody s_law) (defScope s_law) .none kV66 dc66 pm66 an66 cd66 ct66), sl66⟩) (c66 : PySem.W.codeIn K cd66 "law" = true) (k66 : PySem.W.keepIn K (.ref f66) = true)
    (z_all : PySem.W.nsIn K mainGlobals "all" = some none)
    (z_bool : PySem.W.nsIn K mainGlobals "bool" = some none)
    (z_dict : PySem.W.nsIn K mainGlobals "dict" = some none)
    (z_int : PySem.W.nsIn K mainGlobals "int" = some none)
    (z_isinstance : PySem.W.nsIn K mainGlobals "isinstance" = some none)
    (z_len : PySem.W.nsIn K mainGlobals "len" = some none)
    (z_list : PySem.W.nsIn K mainGlobals "list" = some none)
    (z_max : PySem.W.nsIn K mainGlobals "max" = some none)
    (z_min : PySem.W.nsIn K mainGlobals "min" = some none)
    (z_range : PySem.W.nsIn K mainGlobals "range" = some none)
    (z_repr : PySem.W.nsIn K mainGlobals "repr" = some none)
    (z_str : PySem.W.nsIn K mainGlobals "str" = some none)
    (z_tuple : PySem.W.nsIn K mainGlobals "tuple" = some none)
    {t_LETTERS : Tok} (y_LETTERS : PySem.W.nsIn K mainGlobals "LETTERS" = some (some (.str "abcdefghijklmnopqrstuvwxyz" t_LETTERS)))
    {t_LONGEST_NAME : Tok} (y_LONGEST_NAME : PySem.W.nsIn K mainGlobals "LONGEST_NAME" = some (some (.int 8 t_LONGEST_NAME)))
    {t_LAST_HOUR : Tok} (y_LAST_HOUR : PySem.W.nsIn K mainGlobals "LAST_HOUR" = some (some (.int 100000000 t_LAST_HOUR)))
    {t_MOST_HOUR : Tok} (y_MOST_HOUR : PySem.W.nsIn K mainGlobals "MOST_HOUR" = some (some (.int 1000000 t_MOST_HOUR)))
    {t_MOST_ICE : Tok} (y_MOST_ICE : PySem.W.nsIn K mainGlobals "MOST_ICE" = some (some (.int 1000000 t_MOST_ICE)))
    {t_MOST_DEPTH : Tok} (y_MOST_DEPTH : PySem.W.nsIn K mainGlobals "MOST_DEPTH" = some (some (.int 1000 t_MOST_DEPTH)))
    {t_MOST_LENGTH : Tok} (y_MOST_LENGTH : PySem.W.nsIn K mainGlobals "MOST_LENGTH" = some (some (.int 1000 t_MOST_LENGTH)))
    {t_MOST_GROWTH : Tok} (y_MOST_GROWTH : PySem.W.nsIn K mainGlobals "MOST_GROWTH" = some (some (.int 1000 t_MOST_GROWTH)))
    {t_MOST_BEGIN : Tok} (y_MOST_BEGIN : PySem.W.nsIn K mainGlobals "MOST_BEGIN" = some (some (.int 1000000 t_MOST_BEGIN)))
    {t_MOST_PORTS : Tok} (y_MOST_PORTS : PySem.W.nsIn K mainGlobals "MOST_PORTS" = some (some (.int 8 t_MOST_PORTS)))
    {t_MOST_CHANNELS : Tok} (y_MOST_CHANNELS : PySem.W.nsIn K mainGlobals "MOST_CHANNELS" = some (some (.int 12 t_MOST_CHANNELS)))
    {t_MOST_BREAKERS : Tok} (y_MOST_BREAKERS : PySem.W.nsIn K mainGlobals "MOST_BREAKERS" = some (some (.int 4 t_MOST_BREAKERS)))
    {t_MOST_SHIPS : Tok} (y_MOST_SHIPS : PySem.W.nsIn K mainGlobals "MOST_SHIPS" = some (some (.int 6 t_MOST_SHIPS)))
    (p1_Channel : PySem.W.plainGet K C_Channel Str.empty = true)
    (p2_Channel : PySem.W.hasDictIn K C_Channel = true)
    (p3_Channel : PySem.W.plainOver K C_Channel = true)
    (p4_Channel : PySem.W.findIn K (.ref C_Channel) "__setattr__" = some (some (.builtin "object.__setattr__")))
    (nn_Channel_name : PySem.W.findIn K (.ref C_Channel) "name" = some none)
    (nn_Channel_one : PySem.W.findIn K (.ref C_Channel) "one" = some none)
    (nn_Channel_other : PySem.W.findIn K (.ref C_Channel) "other" = some none)
    (nn_Channel_hours : PySem.W.findIn K (.ref C_Channel) "hours" = some none)
    (nn_Channel_depth : PySem.W.findIn K (.ref C_Channel) "depth" = some none)
    (nn_Channel_first : PySem.W.findIn K (.ref C_Channel) "first" = some none)
    (nn_Channel_growth : PySem.W.findIn K (.ref C_Channel) "growth" = some none)
    (nn_Channel_most : PySem.W.findIn K (.ref C_Channel) "most" = some none)
    (p1_Vessel : PySem.W.plainGet K C_Vessel Str.empty = true)
    (p2_Vessel : PySem.W.hasDictIn K C_Vessel = true)
    (p3_Vessel : PySem.W.plainOver K C_Vessel = true)
    (p4_Vessel : PySem.W.findIn K (.ref C_Vessel) "__setattr__" = some (some (.builtin "object.__setattr__")))
    (nn_Vessel_name : PySem.W.findIn K (.ref C_Vessel) "name" = some none)
    (nn_Vessel_port : PySem.W.findIn K (.ref C_Vessel) "port" = some none)
    (nn_Vessel_hour : PySem.W.findIn K (.ref C_Vessel) "hour" = some none)
    (nn_Vessel_strength : PySem.W.findIn K (.ref C_Vessel) "strength" = some none)
    (nn_Vessel_draught : PySem.W.findIn K (.ref C_Vessel) "draught" = some none)
    (p1_Breaker : PySem.W.plainGet K C_Breaker Str.empty = true)
    (p2_Breaker : PySem.W.hasDictIn K C_Breaker = true)
    (p3_Breaker : PySem.W.plainOver K C_Breaker = true)
    (p4_Breaker : PySem.W.findIn K (.ref C_Breaker) "__setattr__" = some (some (.builtin "object.__setattr__")))
    (nn_Breaker_name : PySem.W.findIn K (.ref C_Breaker) "name" = some none)
    (nn_Breaker_port : PySem.W.findIn K (.ref C_Breaker) "port" = some none)
    (nn_Breaker_hour : PySem.W.findIn K (.ref C_Breaker) "hour" = some none)
    (nn_Breaker_strength : PySem.W.findIn K (.ref C_Breaker) "strength" = some none)
    (nn_Breaker_draught : PySem.W.findIn K (.ref C_Breaker) "draught" = some none)
    (nn_Breaker_cut : PySem.W.findIn K (.ref C_Breaker) "cut" = some none)
    (p1_Ship : PySem.W.plainGet K C_Ship Str.empty = true)
    (p2_Ship : PySem.W.hasDictIn K C_Ship = true)
    (p3_Ship : PySem.W.plainOver K C_Ship = true)
    (p4_Ship : PySem.W.findIn K (.ref C_Ship) "__setattr__" = some (some (.builtin "object.__setattr__")))
    (nn_Ship_name : PySem.W.findIn K (.ref C_Ship) "name" = some none)
    (nn_Ship_port : PySem.W.findIn K (.ref C_Ship) "port" = some none)
    (nn_Ship_hour : PySem.W.findIn K (.ref C_Ship) "hour" = some none)
    (nn_Ship_strength : PySem.W.findIn K (.ref C_Ship) "strength" = some none)
    (nn_Ship_draught : PySem.W.findIn K (.ref C_Ship) "draught" = some none)
    (nn_Ship_goal : PySem.W.findIn K (.ref C_Ship) "goal" = some none)
    (p1_World : PySem.W.plainGet K C_World Str.empty = true)
    (p2_World : PySem.W.hasDictIn K C_World = true)
    (p3_World : PySem.W.plainOver K C_World = true)
    (p4_World : PySem.W.findIn K (.ref C_World) "__setattr__" = some (some (.builtin "object.__setattr__")))
    (nn_World_beginning : PySem.W.findIn K (.ref C_World) "beginning" = some none)
    (nn_World_all_ports : PySem.W.findIn K (.ref C_World) "all_ports" = some none)
    (nn_World_all_channels : PySem.W.findIn K (.ref C_World) "all_channels" = some none)
    (nn_World_all_breakers : PySem.W.findIn K (.ref C_World) "all_breakers" = some none)
    (nn_World_all_ships : PySem.W.findIn K (.ref C_World) "all_ships" = some none)
    (hn_class : PySem.W.specialIn K (.builtin "object.__class__") "__get__" = some (some (.builtin "getset_descriptor.__get__")))
    (ht_class : PySem.W.takesIn K (.builtin "object.__class__") = some true)
    (yc_Breaker : PySem.W.isClsIn K C_Breaker = true)
    (yt_Breaker : PySem.W.typeIn K (.ref C_Breaker) = some (.type "type"))
    (tf_y_Breaker : PySem.W.subIn K (.ref C_Breaker) (.ref C_Breaker) = some true)
    (yc_Channel : PySem.W.isClsIn K C_Channel = true)
    (yt_Channel : PySem.W.typeIn K (.ref C_Channel) = some (.type "type"))
    (tf_y_Channel : PySem.W.subIn K (.ref C_Channel) (.ref C_Channel) = some true)
    (yc_Ship : PySem.W.isClsIn K C_Ship = true)
    (yt_Ship : PySem.W.typeIn K (.ref C_Ship) = some (.type "type"))
    (tf_y_Ship : PySem.W.subIn K (.ref C_Ship) (.ref C_Ship) = some true)
    (id_Channel : PySem.W.findIn K (.ref C_Channel) "__class__" = some (some (.builtin "object.__class__")))
    (in_Channel : PySem.W.mroIn K C_Channel (.type "object") = some true)
    (ea_Channel : PySem.W.findIn K (.ref C_Channel) "__eq__" = some (some (.builtin "object.__eq__")))
    (eb_Channel : PySem.W.findIn K (.ref C_Channel) "__ne__" = some (some (.builtin "object.__ne__")))
    (tf_eo_Channel : PySem.W.subIn K (.ref C_Channel) (.type "object") = some true)
    (tf_o_Channel_int : PySem.W.subIn K (.ref C_Channel) (.type "int") = some false)
    (tf_o_Channel_bool : PySem.W.subIn K (.ref C_Channel) (.type "bool") = some false)
    (tf_o_Channel_str : PySem.W.subIn K (.ref C_Channel) (.type "str") = some false)
    (tf_o_Channel_list : PySem.W.subIn K (.ref C_Channel) (.type "list") = some false)
    (tf_o_Channel_tuple : PySem.W.subIn K (.ref C_Channel) (.type "tuple") = some false)
    (tf_o_Channel_dict : PySem.W.subIn K (.ref C_Channel) (.type "dict") = some false)
    (tf_k_Channel_Breaker : PySem.W.subIn K (.ref C_Channel) (.ref C_Breaker) = some false)
    (tf_k_Channel_Channel : PySem.W.subIn K (.ref C_Channel) (.ref C_Channel) = some true)
    (tf_k_Channel_Ship : PySem.W.subIn K (.ref C_Channel) (.ref C_Ship) = some false)
    (id_Vessel : PySem.W.findIn K (.ref C_Vessel) "__class__" = some (some (.builtin "object.__class__")))
    (in_Vessel : PySem.W.mroIn K C_Vessel (.type "object") = some true)
    (ea_Vessel : PySem.W.findIn K (.ref C_Vessel) "__eq__" = some (some (.builtin "object.__eq__")))
    (eb_Vessel : PySem.W.findIn K (.ref C_Vessel) "__ne__" = some (some (.builtin "object.__ne__")))
    (tf_eo_Vessel : PySem.W.subIn K (.ref C_Vessel) (.type "object") = some true)
    (tf_o_Vessel_int : PySem.W.subIn K (.ref C_Vessel) (.type "int") = some false)
    (tf_o_Vessel_bool : PySem.W.subIn K (.ref C_Vessel) (.type "bool") = some false)
    (tf_o_Vessel_str : PySem.W.subIn K (.ref C_Vessel) (.type "str") = some false)
    (tf_o_Vessel_list : PySem.W.subIn K (.ref C_Vessel) (.type "list") = some false)
    (tf_o_Vessel_tuple : PySem.W.subIn K (.ref C_Vessel) (.type "tuple") = some false)
    (tf_o_Vessel_dict : PySem.W.subIn K (.ref C_Vessel) (.type "dict") = some false)
    (tf_k_Vessel_Breaker : PySem.W.subIn K (.ref C_Vessel) (.ref C_Breaker) = some false)
    (tf_k_Vessel_Channel : PySem.W.subIn K (.ref C_Vessel) (.ref C_Channel) = some false)
    (tf_k_Vessel_Ship : PySem.W.subIn K (.ref C_Vessel) (.ref C_Ship) = some false)
    (id_Breaker : PySem.W.findIn K (.ref C_Breaker) "__class__" = some (some (.builtin "object.__class__")))
    (in_Breaker : PySem.W.mroIn K C_Breaker (.type "object") = some true)
    (ea_Breaker : PySem.W.findIn K (.ref C_Breaker) "__eq__" = some (some (.builtin "object.__eq__")))
    (eb_Breaker : PySem.W.findIn K (.ref C_Breaker) "__ne__" = some (some (.builtin "object.__ne__")))
    (tf_eo_Breaker : PySem.W.subIn K (.ref C_Breaker) (.type "object") = some true)
    (tf_o_Breaker_int : PySem.W.subIn K (.ref C_Breaker) (.type "int") = some false)
    (tf_o_Breaker_bool : PySem.W.subIn K (.ref C_Breaker) (.type "bool") = some false)
    (tf_o_Breaker_str : PySem.W.subIn K (.ref C_Breaker) (.type "str") = some false)
    (tf_o_Breaker_list : PySem.W.subIn K (.ref C_Breaker) (.type "list") = some false)
    (tf_o_Breaker_tuple : PySem.W.subIn K (.ref C_Breaker) (.type "tuple") = some false)
    (tf_o_Breaker_dict : PySem.W.subIn K (.ref C_Breaker) (.type "dict") = some false)
    (tf_k_Breaker_Breaker : PySem.W.subIn K (.ref C_Breaker) (.ref C_Breaker) = some true)
    (tf_k_Breaker_Channel : PySem.W.subIn K (.ref C_Breaker) (.ref C_Channel) = some false)
    (tf_k_Breaker_Ship : PySem.W.subIn K (.ref C_Breaker) (.ref C_Ship) = some false)
    (id_Ship : PySem.W.findIn K (.ref C_Ship) "__class__" = some (some (.builtin "object.__class__")))
    (in_Ship : PySem.W.mroIn K C_Ship (.type "object") = some true)
    (ea_Ship : PySem.W.findIn K (.ref C_Ship) "__eq__" = some (some (.builtin "object.__eq__")))
    (eb_Ship : PySem.W.findIn K (.ref C_Ship) "__ne__" = some (some (.builtin "object.__ne__")))
    (tf_eo_Ship : PySem.W.subIn K (.ref C_Ship) (.type "object") = some true)
    (tf_o_Ship_int : PySem.W.subIn K (.ref C_Ship) (.type "int") = some false)
    (tf_o_Ship_bool : PySem.W.subIn K (.ref C_Ship) (.type "bool") = some false)
    (tf_o_Ship_str : PySem.W.subIn K (.ref C_Ship) (.type "str") = some false)
    (tf_o_Ship_list : PySem.W.subIn K (.ref C_Ship) (.type "list") = some false)
    (tf_o_Ship_tuple : PySem.W.subIn K (.ref C_Ship) (.type "tuple") = some false)
    (tf_o_Ship_dict : PySem.W.subIn K (.ref C_Ship) (.type "dict") = some false)
    (tf_k_Ship_Breaker : PySem.W.subIn K (.ref C_Ship) (.ref C_Breaker) = some false)
    (tf_k_Ship_Channel : PySem.W.subIn K (.ref C_Ship) (.ref C_Channel) = some false)
    (tf_k_Ship_Ship : PySem.W.subIn K (.ref C_Ship) (.ref C_Ship) = some true)
    (id_World : PySem.W.findIn K (.ref C_World) "__class__" = some (some (.builtin "object.__class__")))
    (in_World : PySem.W.mroIn K C_World (.type "object") = some true)
    (ea_World : PySem.W.findIn K (.ref C_World) "__eq__" = some (some (.builtin "object.__eq__")))
    (eb_World : PySem.W.findIn K (.ref C_World) "__ne__" = some (some (.builtin "object.__ne__")))
    (tf_eo_World : PySem.W.subIn K (.ref C_World) (.type "object") = some true)
    (tf_o_World_int : PySem.W.subIn K (.ref C_World) (.type "int") = some false)
    (tf_o_World_bool : PySem.W.subIn K (.ref C_World) (.type "bool") = some false)
    (tf_o_World_str : PySem.W.subIn K (.ref C_World) (.type "str") = some false)
    (tf_o_World_list : PySem.W.subIn K (.ref C_World) (.type "list") = some false)
    (tf_o_World_tuple : PySem.W.subIn K (.ref C_World) (.type "tuple") = some false)
    (tf_o_World_dict : PySem.W.subIn K (.ref C_World) (.type "dict") = some false)
    (tf_k_World_Breaker : PySem.W.subIn K (.ref C_World) (.ref C_Breaker) = some false)
    (tf_k_World_Channel : PySem.W.subIn K (.ref C_World) (.ref C_Channel) = some false)
    (tf_k_World_Ship : PySem.W.subIn K (.ref C_World) (.ref C_Ship) = some false)
    (mm_Breaker : PySem.W.makesIn K C_Breaker = true)
    (mi_Breaker : PySem.W.findIn K (.ref C_Breaker) "__init__" = some (some (.ref f24)))
    (mf_Breaker : PySem.W.isFn K (.ref f24) = true)
    (mq_Breaker : PySem.W.keepIn K (.ref C_Breaker) = true)
    (mm_Channel : PySem.W.makesIn K C_Channel = true)
    (mi_Channel : PySem.W.findIn K (.ref C_Channel) "__init__" = some (some (.ref f18)))
    (mf_Channel : PySem.W.isFn K (.ref f18) = true)
    (mq_Channel : PySem.W.keepIn K (.ref C_Channel) = true)
    (mm_Ship : PySem.W.makesIn K C_Ship = true)
    (mi_Ship : PySem.W.findIn K (.ref C_Ship) "__init__" = some (some (.ref f27)))
    (mf_Ship : PySem.W.isFn K (.ref f27) = true)
    (mq_Ship : PySem.W.keepIn K (.ref C_Ship) = true)
    (mm_World : PySem.W.makesIn K C_World = true)
    (mi_World : PySem.W.findIn K (.ref C_World) "__init__" = some (some (.ref f33)))
    (mf_World : PySem.W.isFn K (.ref f33) = true)
    (mq_World : PySem.W.keepIn K (.ref C_World) = true)
    (ma_Breaker_row : PySem.W.findIn K (.ref C_Breaker) "row" = some (some (.ref f26)))
    (mb_Breaker_row : PySem.W.isFn K (.ref f26) = true)
    (ma_Breaker_settle : PySem.W.findIn K (.ref C_Breaker) "settle" = some (some (.ref f21)))
    (mb_Breaker_settle : PySem.W.isFn K (.ref f21) = true)
    (ma_Channel_row : PySem.W.findIn K (.ref C_Channel) "row" = some (some (.ref f19)))
    (mb_Channel_row : PySem.W.isFn K (.ref f19) = true)
    (ma_Ship_row : PySem.W.findIn K (.ref C_Ship) "row" = some (some (.ref f28)))
    (mb_Ship_row : PySem.W.isFn K (.ref f28) = true)
    (ma_Ship_settle : PySem.W.findIn K (.ref C_Ship) "settle" = some (some (.ref f21)))
    (mb_Ship_settle : PySem.W.isFn K (.ref f21) = true)
    (ma_Vessel_settle : PySem.W.findIn K (.ref C_Vessel) "settle" = some (some (.ref f21)))
    (mb_Vessel_settle : PySem.W.isFn K (.ref f21) = true)
    (ma_World_begin_hour : PySem.W.findIn K (.ref C_World) "begin_hour" = some (some (.ref f34)))
    (mb_World_begin_hour : PySem.W.isFn K (.ref f34) = true)
    (ma_World_channels : PySem.W.findIn K (.ref C_World) "channels" = some (some (.ref f36)))
    (mb_World_channels : PySem.W.isFn K (.ref f36) = true)
    (ma_World_told : PySem.W.findIn K (.ref C_World) "told" = some (some (.ref f42)))
    (mb_World_told : PySem.W.isFn K (.ref f42) = true)
    (ma_World_vessels : PySem.W.findIn K (.ref C_World) "vessels" = some (some (.ref f39)))
    (mb_World_vessels : PySem.W.isFn K (.ref f39) = true)
    (ra_Vessel : PySem.W.readsIn K C_Vessel (.type "type") = true)
    (gb_Vessel : PySem.W.specialIn K (.ref C_Vessel) "__getattribute__" = some (some (.builtin "type.__getattribute__")))
    (ra_IceError : PySem.W.readsIn K C_IceError (.type "type") = true)
    (gb_IceError : PySem.W.specialIn K (.ref C_IceError) "__getattribute__" = some (some (.builtin "type.__getattribute__")))
    (vj_IceError : PySem.W.findCls K (.ref C_IceError) (.type "type") "__init__" = some (.val (.builtin "ValueError.__init__")))
    (cn_Vessel___init__ : PySem.W.findCls K (.ref C_Vessel) (.type "type") "__init__" = some (.val (.ref f20)))
    (cn_Vessel_row : PySem.W.findCls K (.ref C_Vessel) (.type "type") "row" = some (.val (.ref f23)))
    {nm_NoName q_NoName : Str} {N_NoName : Addr} {bs_NoName : List Value} {sn_NoName : List Str} {sub_NoName : List Value} {ab_NoName : Bool} {col_NoName : Option Bool} {dd_NoName : Option Addr} {m0_NoName m1_NoName m2_NoName m3_NoName m5_NoName : Option Value}
    (xl_NoName : K.lookup C_NoName = some (excClassObj nm_NoName q_NoName C_NoName N_NoName bs_NoName [.ref C_IceError, .type "ValueError", .type "Exception", .type "BaseException", .type "object"] true sn_NoName sub_NoName ab_NoName col_NoName dd_NoName m0_NoName m1_NoName m2_NoName m3_NoName m5_NoName "ValueError.__new__"))
    (xs_NoName : PySem.W.findIn K (.ref C_NoName) "__setattr__" = some (some (.builtin "object.__setattr__")))
    (xe_NoName : PySem.W.subIn K (.ref C_NoName) (.type "BaseException") = some true)
    (xt_NoName : PySem.W.typeIn K (.ref C_NoName) = some (.type "type"))
    (xk_NoName : PySem.W.keepIn K (.ref C_NoName) = true)
    (xy_NoName : PySem.W.typeIn K (.ref f1) = some (.type "function"))
    (xg_NoName : PySem.W.findIn K (.ref C_NoName) "__getattribute__" = some (some (.builtin "BaseException.__getattribute__")))
    (xh_NoName : PySem.W.findIn K (.ref C_NoName) "__getattr__" = some none)
    (xd_NoName : PySem.W.hasDictIn K C_NoName = true)
    (nn_NoName_found : PySem.W.findIn K (.ref C_NoName) "found" = some none)
    {nm_NoNumber q_NoNumber : Str} {N_NoNumber : Addr} {bs_NoNumber : List Value} {sn_NoNumber : List Str} {sub_NoNumber : List Value} {ab_NoNumber : Bool} {col_NoNumber : Option Bool} {dd_NoNumber : Option Addr} {m0_NoNumber m1_NoNumber m2_NoNumber m3_NoNumber m5_NoNumber : Option Value}
    (xl_NoNumber : K.lookup C_NoNumber = some (excClassObj nm_NoNumber q_NoNumber C_NoNumber N_NoNumber bs_NoNumber [.ref C_IceError, .type "ValueError", .type "Exception", .type "BaseException", .type "object"] true sn_NoNumber sub_NoNumber ab_NoNumber col_NoNumber dd_NoNumber m0_NoNumber m1_NoNumber m2_NoNumber m3_NoNumber m5_NoNumber "ValueError.__new__"))
    (xs_NoNumber : PySem.W.findIn K (.ref C_NoNumber) "__setattr__" = some (some (.builtin "object.__setattr__")))
    (xe_NoNumber : PySem.W.subIn K (.ref C_NoNumber) (.type "BaseException") = some true)
    (xt_NoNumber : PySem.W.typeIn K (.ref C_NoNumber) = some (.type "type"))
    (xk_NoNumber : PySem.W.keepIn K (.ref C_NoNumber) = true)
    (xy_NoNumber : PySem.W.typeIn K (.ref f2) = some (.type "function"))
    (xg_NoNumber : PySem.W.findIn K (.ref C_NoNumber) "__getattribute__" = some (some (.builtin "BaseException.__getattribute__")))
    (xh_NoNumber : PySem.W.findIn K (.ref C_NoNumber) "__getattr__" = some none)
    (xd_NoNumber : PySem.W.hasDictIn K C_NoNumber = true)
    (nn_NoNumber_found : PySem.W.findIn K (.ref C_NoNumber) "found" = some none)
    {nm_NoPort q_NoPort : Str} {N_NoPort : Addr} {bs_NoPort : List Value} {sn_NoPort : List Str} {sub_NoPort : List Value} {ab_NoPort : Bool} {col_NoPort : Option Bool} {dd_NoPort : Option Addr} {m0_NoPort m1_NoPort m2_NoPort m3_NoPort m5_NoPort : Option Value}
    (xl_NoPort : K.lookup C_NoPort = some (excClassObj nm_NoPort q_NoPort C_NoPort N_NoPort bs_NoPort [.ref C_IceError, .type "ValueError", .type "Exception", .type "BaseException", .type "object"] true sn_NoPort sub_NoPort ab_NoPort col_NoPort dd_NoPort m0_NoPort m1_NoPort m2_NoPort m3_NoPort m5_NoPort "ValueError.__new__"))
    (xs_NoPort : PySem.W.findIn K (.ref C_NoPort) "__setattr__" = some (some (.builtin "object.__setattr__")))
    (xe_NoPort : PySem.W.subIn K (.ref C_NoPort) (.type "BaseException") = some true)
    (xt_NoPort : PySem.W.typeIn K (.ref C_NoPort) = some (.type "type"))
    (xk_NoPort : PySem.W.keepIn K (.ref C_NoPort) = true)
    (xy_NoPort : PySem.W.typeIn K (.ref f3) = some (.type "function"))
    (xg_NoPort : PySem.W.findIn K (.ref C_NoPort) "__getattribute__" = some (some (.builtin "BaseException.__getattribute__")))
    (xh_NoPort : PySem.W.findIn K (.ref C_NoPort) "__getattr__" = some none)
    (xd_NoPort : PySem.W.hasDictIn K C_NoPort = true)
    (nn_NoPort_found : PySem.W.findIn K (.ref C_NoPort) "found" = some none)
    {nm_NoChannel q_NoChannel : Str} {N_NoChannel : Addr} {bs_NoChannel : List Value} {sn_NoChannel : List Str} {sub_NoChannel : List Value} {ab_NoChannel : Bool} {col_NoChannel : Option Bool} {dd_NoChannel : Option Addr} {m0_NoChannel m1_NoChannel m2_NoChannel m3_NoChannel m5_NoChannel : Option Value}
    (xl_NoChannel : K.lookup C_NoChannel = some (excClassObj nm_NoChannel q_NoChannel C_NoChannel N_NoChannel bs_NoChannel [.ref C_IceError, .type "ValueError", .type "Exception", .type "BaseException", .type "object"] true sn_NoChannel sub_NoChannel ab_NoChannel col_NoChannel dd_NoChannel m0_NoChannel m1_NoChannel m2_NoChannel m3_NoChannel m5_NoChannel "ValueError.__new__"))
    (xs_NoChannel : PySem.W.findIn K (.ref C_NoChannel) "__setattr__" = some (some (.builtin "object.__setattr__")))
    (xe_NoChannel : PySem.W.subIn K (.ref C_NoChannel) (.type "BaseException") = some true)
    (xt_NoChannel : PySem.W.typeIn K (.ref C_NoChannel) = some (.type "type"))
    (xk_NoChannel : PySem.W.keepIn K (.ref C_NoChannel) = true)
    (xy_NoChannel : PySem.W.typeIn K (.ref f4) = some (.type "function"))
    (xg_NoChannel : PySem.W.findIn K (.ref C_NoChannel) "__getattribute__" = some (some (.builtin "BaseException.__getattribute__")))
    (xh_NoChannel : PySem.W.findIn K (.ref C_NoChannel) "__getattr__" = some none)
    (xd_NoChannel : PySem.W.hasDictIn K C_NoChannel = true)
    (nn_NoChannel_found : PySem.W.findIn K (.ref C_NoChannel) "found" = some none)
    {nm_NoVessel q_NoVessel : Str} {N_NoVessel : Addr} {bs_NoVessel : List Value} {sn_NoVessel : List Str} {sub_NoVessel : List Value} {ab_NoVessel : Bool} {col_NoVessel : Option Bool} {dd_NoVessel : Option Addr} {m0_NoVessel m1_NoVessel m2_NoVessel m3_NoVessel m5_NoVessel : Option Value}
    (xl_NoVessel : K.lookup C_NoVessel = some (excClassObj nm_NoVessel q_NoVessel C_NoVessel N_NoVessel bs_NoVessel [.ref C_IceError, .type "ValueError", .type "Exception", .type "BaseException", .type "object"] true sn_NoVessel sub_NoVessel ab_NoVessel col_NoVessel dd_NoVessel m0_NoVessel m1_NoVessel m2_NoVessel m3_NoVessel m5_NoVessel "ValueError.__new__"))
    (xs_NoVessel : PySem.W.findIn K (.ref C_NoVessel) "__setattr__" = some (some (.builtin "object.__setattr__")))
    (xe_NoVessel : PySem.W.subIn K (.ref C_NoVessel) (.type "BaseException") = some true)
    (xt_NoVessel : PySem.W.typeIn K (.ref C_NoVessel) = some (.type "type"))
    (xk_NoVessel : PySem.W.keepIn K (.ref C_NoVessel) = true)
    (xy_NoVessel : PySem.W.typeIn K (.ref f5) = some (.type "function"))
    (xg_NoVessel : PySem.W.findIn K (.ref C_NoVessel) "__getattribute__" = some (some (.builtin "BaseException.__getattribute__")))
    (xh_NoVessel : PySem.W.findIn K (.ref C_NoVessel) "__getattr__" = some none)
    (xd_NoVessel : PySem.W.hasDictIn K C_NoVessel = true)
    (nn_NoVessel_found : PySem.W.findIn K (.ref C_NoVessel) "found" = some none)
    {nm_NoWorld q_NoWorld : Str} {N_NoWorld : Addr} {bs_NoWorld : List Value} {sn_NoWorld : List Str} {sub_NoWorld : List Value} {ab_NoWorld : Bool} {col_NoWorld : Option Bool} {dd_NoWorld : Option Addr} {m0_NoWorld m1_NoWorld m2_NoWorld m3_NoWorld m5_NoWorld : Option Value}
    (xl_NoWorld : K.lookup C_NoWorld = some (excClassObj nm_NoWorld q_NoWorld C_NoWorld N_NoWorld bs_NoWorld [.ref C_IceError, .type "ValueError", .type "Exception", .type "BaseException", .type "object"] true sn_NoWorld sub_NoWorld ab_NoWorld col_NoWorld dd_NoWorld m0_NoWorld m1_NoWorld m2_NoWorld m3_NoWorld m5_NoWorld "ValueError.__new__"))
    (xs_NoWorld : PySem.W.findIn K (.ref C_NoWorld) "__setattr__" = some (some (.builtin "object.__setattr__")))
    (xe_NoWorld : PySem.W.subIn K (.ref C_NoWorld) (.type "BaseException") = some true)
    (xt_NoWorld : PySem.W.typeIn K (.ref C_NoWorld) = some (.type "type"))
    (xk_NoWorld : PySem.W.keepIn K (.ref C_NoWorld) = true)
    (xy_NoWorld : PySem.W.typeIn K (.ref f6) = some (.type "function"))
    (xg_NoWorld : PySem.W.findIn K (.ref C_NoWorld) "__getattribute__" = some (some (.builtin "BaseException.__getattribute__")))
    (xh_NoWorld : PySem.W.findIn K (.ref C_NoWorld) "__getattr__" = some none)
    (xd_NoWorld : PySem.W.hasDictIn K C_NoWorld = true)
    (nn_NoWorld_found : PySem.W.findIn K (.ref C_NoWorld) "found" = some none)
    {nm_NoTable q_NoTable : Str} {N_NoTable : Addr} {bs_NoTable : List Value} {sn_NoTable : List Str} {sub_NoTable : List Value} {ab_NoTable : Bool} {col_NoTable : Option Bool} {dd_NoTable : Option Addr} {m0_NoTable m1_NoTable m2_NoTable m3_NoTable m5_NoTable : Option Value}
    (xl_NoTable : K.lookup C_NoTable = some (excClassObj nm_NoTable q_NoTable C_NoTable N_NoTable bs_NoTable [.ref C_IceError, .type "ValueError", .type "Exception", .type "BaseException", .type "object"] true sn_NoTable sub_NoTable ab_NoTable col_NoTable dd_NoTable m0_NoTable m1_NoTable m2_NoTable m3_NoTable m5_NoTable "ValueError.__new__"))
    (xs_NoTable : PySem.W.findIn K (.ref C_NoTable) "__setattr__" = some (some (.builtin "object.__setattr__")))
    (xe_NoTable : PySem.W.subIn K (.ref C_NoTable) (.type "BaseException") = some true)
    (xt_NoTable : PySem.W.typeIn K (.ref C_NoTable) = some (.type "type"))
    (xk_NoTable : PySem.W.keepIn K (.ref C_NoTable) = true)
    (xy_NoTable : PySem.W.typeIn K (.ref f7) = some (.type "function"))
    (xg_NoTable : PySem.W.findIn K (.ref C_NoTable) "__getattribute__" = some (some (.builtin "BaseException.__getattribute__")))
    (xh_NoTable : PySem.W.findIn K (.ref C_NoTable) "__getattr__" = some none)
    (xd_NoTable : PySem.W.hasDictIn K C_NoTable = true)
    (nn_NoTable_found : PySem.W.findIn K (.ref C_NoTable) "found" = some none)
    {nm_Doubled q_Doubled : Str} {N_Doubled : Addr} {bs_Doubled : List Value} {sn_Doubled : List Str} {sub_Doubled : List Value} {ab_Doubled : Bool} {col_Doubled : Option Bool} {dd_Doubled : Option Addr} {m0_Doubled m1_Doubled m2_Doubled m3_Doubled m5_Doubled : Option Value}
    (xl_Doubled : K.lookup C_Doubled = some (excClassObj nm_Doubled q_Doubled C_Doubled N_Doubled bs_Doubled [.ref C_IceError, .type "ValueError", .type "Exception", .type "BaseException", .type "object"] true sn_Doubled sub_Doubled ab_Doubled col_Doubled dd_Doubled m0_Doubled m1_Doubled m2_Doubled m3_Doubled m5_Doubled "ValueError.__new__"))
    (xs_Doubled : PySem.W.findIn K (.ref C_Doubled) "__setattr__" = some (some (.builtin "object.__setattr__")))
    (xe_Doubled : PySem.W.subIn K (.ref C_Doubled) (.type "BaseException") = some true)
    (xt_Doubled : PySem.W.typeIn K (.ref C_Doubled) = some (.type "type"))
    (xk_Doubled : PySem.W.keepIn K (.ref C_Doubled) = true)
    (xy_Doubled : PySem.W.typeIn K (.ref f8) = some (.type "function"))
    (xg_Doubled : PySem.W.findIn K (.ref C_Doubled) "__getattribute__" = some (some (.builtin "BaseException.__getattribute__")))
    (xh_Doubled : PySem.W.findIn K (.ref C_Doubled) "__getattr__" = some none)
    (xd_Doubled : PySem.W.hasDictIn K C_Doubled = true)
    (nn_Doubled_name : PySem.W.findIn K (.ref C_Doubled) "name" = some none)
    (xe_IceError : PySem.W.subIn K (.ref C_IceError) (.type "BaseException") = some true)
    (xt_IceError : PySem.W.typeIn K (.ref C_IceError) = some (.type "type"))
    (xc_IceError : PySem.W.isClsIn K C_IceError = true)
    (tf_NoName_IceError : PySem.W.subIn K (.ref C_NoName) (.ref C_IceError) = some true)
    (tf_NoNumber_IceError : PySem.W.subIn K (.ref C_NoNumber) (.ref C_IceError) = some true)
    (tf_NoPort_IceError : PySem.W.subIn K (.ref C_NoPort) (.ref C_IceError) = some true)
    (tf_NoChannel_IceError : PySem.W.subIn K (.ref C_NoChannel) (.ref C_IceError) = some true)
    (tf_NoVessel_IceError : PySem.W.subIn K (.ref C_NoVessel) (.ref C_IceError) = some true)
    (tf_NoWorld_IceError : PySem.W.subIn K (.ref C_NoWorld) (.ref C_IceError) = some true)
    (tf_NoTable_IceError : PySem.W.subIn K (.ref C_NoTable) (.ref C_IceError) = some true)
    (tf_Doubled_IceError : PySem.W.subIn K (.ref C_Doubled) (.ref C_IceError) = some true)
    (xc_NoNumber : PySem.W.isClsIn K C_NoNumber = true)
    (tf_NoName_NoNumber : PySem.W.subIn K (.ref C_NoName) (.ref C_NoNumber) = some false)
    (tf_NoNumber_NoNumber : PySem.W.subIn K (.ref C_NoNumber) (.ref C_NoNumber) = some true)
    (tf_NoPort_NoNumber : PySem.W.subIn K (.ref C_NoPort) (.ref C_NoNumber) = some false)
    (tf_NoChannel_NoNumber : PySem.W.subIn K (.ref C_NoChannel) (.ref C_NoNumber) = some false)
    (tf_NoVessel_NoNumber : PySem.W.subIn K (.ref C_NoVessel) (.ref C_NoNumber) = some false)
    (tf_NoWorld_NoNumber : PySem.W.subIn K (.ref C_NoWorld) (.ref C_NoNumber) = some false)
    (tf_NoTable_NoNumber : PySem.W.subIn K (.ref C_NoTable) (.ref C_NoNumber) = some false)
    (tf_Doubled_NoNumber : PySem.W.subIn K (.ref C_Doubled) (.ref C_NoNumber) = some false)
    : ∃ fd : FuncData, (∀ (s : Shared) (v : Value), BindsTo s fd ⟨[v], []⟩ [("_law_script", v)]) ∧ ∀ base : Heap, K.In base → base.Ns mainGlobals mg → FnOkG l.prog w K mg base 12 fa fd ["_law_script"] (sp_law K) := by
  have e := hfa.symm.trans (PySem.W.mg_of X G a66)
  cases e
  have F0 := fun_mk (st := s_wall) l0 c0 k0
  have b0 := F0.binds (ps := ["k"]) fun _ _ _ _ _ _ us hl => match us, hl with | [_], _ => rfl
  have F1 := fun_mk (st := s_NoName___init__) l1 c1 k1
  have b1 := F1.binds (ps := ["self", "found"]) fun _ _ _ _ _ _ us hl => match us, hl with | [_, _], _ => rfl
  have F2 := fun_mk (st := s_NoNumber___init__) l2 c2 k2
  have b2 := F2.binds (ps := ["self", "found"]) fun _ _ _ _ _ _ us hl => match us, hl with | [_, _], _ => rfl
  have F3 := fun_mk (st := s_NoPort___init__) l3 c3 k3
  have b3 := F3.binds (ps := ["self", "found"]) fun _ _ _ _ _ _ us hl => match us, hl with | [_, _], _ => rfl
  have F4 := fun_mk (st := s_NoChannel___init__) l4 c4 k4
  have b4 := F4.binds (ps := ["self", "found"]) fun _ _ _ _ _ _ us hl => match us, hl with | [_, _], _ => rfl
  have F5 := fun_mk (st := s_NoVessel___init__) l5 c5 k5
  have b5 := F5.binds (ps := ["self", "found"]) fun _ _ _ _ _ _ us hl => match us, hl with | [_, _], _ => rfl
  have F6 := fun_mk (st := s_NoWorld___init__) l6 c6 k6
  have b6 := F6.binds (ps := ["self", "found"]) fun _ _ _ _ _ _ us hl => match us, hl with | [_, _], _ => rfl
  have F7 := fun_mk (st := s_NoTable___init__) l7 c7 k7
  have b7 := F7.binds (ps := ["self", "found"]) fun _ _ _ _ _ _ us hl => match us, hl with | [_, _], _ => rfl
  have F8 := fun_mk (st := s_Doubled___init__) l8 c8 k8
  have b8 := F8.binds (ps := ["self", "name"]) fun _ _ _ _ _ _ us hl => match us, hl with | [_, _], _ => rfl
  have F9 := fun_mk (st := s_is_whole) l9 c9 k9
  have b9 := F9.binds (ps := ["thing"]) fun _ _ _ _ _ _ us hl => match us, hl with | [_], _ => rfl
  have F10 := fun_mk (st := s_is_within) l10 c10 k10
  have b10 := F10.binds (ps := ["thing", "low", "high"]) fun _ _ _ _ _ _ us hl => match us, hl with | [_, _, _], _ => rfl
  have F11 := fun_mk (st := s_is_name) l11 c11 k11
  have b11 := F11.binds (ps := ["thing"]) fun _ _ _ _ _ _ us hl => match us, hl with | [_], _ => rfl
  have F12 := fun_mk (st := s_is_entry) l12 c12 k12
  have b12 := F12.binds (ps := ["begin", "channels", "thing"]) fun _ _ _ _ _ _ us hl => match us, hl with | [_, _, _], _ => rfl
  have F13 := fun_mk (st := s_are_entries) l13 c13 k13
  have b13 := F13.binds (ps := ["begin", "channels", "thing"]) fun _ _ _ _ _ _ us hl => match us, hl with | [_, _, _], _ => rfl
  have F14 := fun_mk (st := s_is_table) l14 c14 k14
  have b14 := F14.binds (ps := ["world", "thing"]) fun _ _ _ _ _ _ us hl => match us, hl with | [_, _], _ => rfl
  have F15 := fun_mk (st := s_table_told) l15 c15 k15
  have b15 := F15.binds (ps := ["world", "table"]) fun _ _ _ _ _ _ us hl => match us, hl with | [_, _], _ => rfl
  have F16 := fun_mk (st := s_need_names) l16 c16 k16
  have b16 := F16.binds (ps := ["things"]) fun _ _ _ _ _ _ us hl => match us, hl with | [_], _ => rfl
  have F17 := fun_mk (st := s_need_numbers) l17 c17 k17
  have b17 := F17.binds (ps := ["rows"]) fun _ _ _ _ _ _ us hl => match us, hl with | [_], _ => rfl
  have F18 := fun_mk (st := s_Channel___init__) l18 c18 k18
  have b18 := F18.binds (ps := ["self", "name", "one", "other", "hours", "depth", "first", "growth", "most"]) fun _ _ _ _ _ _ us hl => match us, hl with | [_, _, _, _, _, _, _, _, _], _ => rfl
  have F19 := fun_mk (st := s_Channel_row) l19 c19 k19
  have b19 := F19.binds (ps := ["self"]) fun _ _ _ _ _ _ us hl => match us, hl with | [_], _ => rfl
  have F20 := fun_mk (st := s_Vessel___init__) l20 c20 k20
  have b20 := F20.binds (ps := ["self", "name", "port", "hour", "strength", "draught"]) fun _ _ _ _ _ _ us hl => match us, hl with | [_, _, _, _, _, _], _ => rfl
  have F21 := fun_mk (st := s_Vessel_settle) l21 c21 k21
  have b21 := F21.binds (ps := ["self", "name", "port", "hour", "strength", "draught"]) fun _ _ _ _ _ _ us hl => match us, hl with | [_, _, _, _, _, _], _ => rfl
  have F22 := fun_mk (st := s_Vessel_thins) l22 c22 k22
  have b22 := F22.binds (ps := ["self"]) fun _ _ _ _ _ _ us hl => match us, hl with | [_], _ => rfl
  have F23 := fun_mk (st := s_Vessel_row) l23 c23 k23
  have b23 := F23.binds (ps := ["self"]) fun _ _ _ _ _ _ us hl => match us, hl with | [_], _ => rfl
  have F24 := fun_mk (st := s_Breaker___init__) l24 c24 k24
  have b24 := F24.binds (ps := ["self", "name", "port", "hour", "strength", "draught", "cut"]) fun _ _ _ _ _ _ us hl => match us, hl with | [_, _, _, _, _, _, _], _ => rfl
  have F25 := fun_mk (st := s_Breaker_thins) l25 c25 k25
  have b25 := F25.binds (ps := ["self"]) fun _ _ _ _ _ _ us hl => match us, hl with | [_], _ => rfl
  have F26 := fun_mk (st := s_Breaker_row) l26 c26 k26
  have b26 := F26.binds (ps := ["self"]) fun _ _ _ _ _ _ us hl => match us, hl with | [_], _ => rfl
  have F27 := fun_mk (st := s_Ship___init__) l27 c27 k27
  have b27 := F27.binds (ps := ["self", "name", "port", "goal", "hour", "strength", "draught"]) fun _ _ _ _ _ _ us hl => match us, hl with | [_, _, _, _, _, _, _], _ => rfl
  have F28 := fun_mk (st := s_Ship_row) l28 c28 k28
  have b28 := F28.binds (ps := ["self"]) fun _ _ _ _ _ _ us hl => match us, hl with | [_], _ => rfl
  have F29 := fun_mk (st := s_is_list) l29 c29 k29
  have b29 := F29.binds (ps := ["thing", "low", "high"]) fun _ _ _ _ _ _ us hl => match us, hl with | [_, _, _], _ => rfl
  have F30 := fun_mk (st := s_need_kinds) l30 c30 k30
  have b30 := F30.binds (ps := ["ports", "channels", "breakers", "ships"]) fun _ _ _ _ _ _ us hl => match us, hl with | [_, _, _, _], _ => rfl
  have F31 := fun_mk (st := s_need_unlike) l31 c31 k31
  have b31 := F31.binds (ps := ["names"]) fun _ _ _ _ _ _ us hl => match us, hl with | [_], _ => rfl
  have F32 := fun_mk (st := s_need_ports) l32 c32 k32
  have b32 := F32.binds (ps := ["names", "ports"]) fun _ _ _ _ _ _ us hl => match us, hl with | [_, _], _ => rfl
  have F33 := fun_mk (st := s_World___init__) l33 c33 k33
  have b33 := F33.binds (ps := ["self", "begin", "ports", "channels", "breakers", "ships"]) fun _ _ _ _ _ _ us hl => match us, hl with | [_, _, _, _, _, _], _ => rfl
  have F34 := fun_mk (st := s_World_begin_hour) l34 c34 k34
  have b34 := F34.binds (ps := ["self"]) fun _ _ _ _ _ _ us hl => match us, hl with | [_], _ => rfl
  have F35 := fun_mk (st := s_World_ports) l35 c35 k35
  have b35 := F35.binds (ps := ["self"]) fun _ _ _ _ _ _ us hl => match us, hl with | [_], _ => rfl
  have F36 := fun_mk (st := s_World_channels) l36 c36 k36
  have b36 := F36.binds (ps := ["self"]) fun _ _ _ _ _ _ us hl => match us, hl with | [_], _ => rfl
  have F37 := fun_mk (st := s_World_breakers) l37 c37 k37
  have b37 := F37.binds (ps := ["self"]) fun _ _ _ _ _ _ us hl => match us, hl with | [_], _ => rfl
  have F38 := fun_mk (st := s_World_ships) l38 c38 k38
  have b38 := F38.binds (ps := ["self"]) fun _ _ _ _ _ _ us hl => match us, hl with | [_], _ => rfl
  have F39 := fun_mk (st := s_World_vessels) l39 c39 k39
  have b39 := F39.binds (ps := ["self"]) fun _ _ _ _ _ _ us hl => match us, hl with | [_], _ => rfl
  have F40 := fun_mk (st := s_World_channel) l40 c40 k40
  have b40 := F40.binds (ps := ["self", "name"]) fun _ _ _ _ _ _ us hl => match us, hl with | [_, _], _ => rfl
  have F41 := fun_mk (st := s_World_vessel) l41 c41 k41
  have b41 := F41.binds (ps := ["self", "name"]) fun _ _ _ _ _ _ us hl => match us, hl with | [_, _], _ => rfl
  have F42 := fun_mk (st := s_World_told) l42 c42 k42
  have b42 := F42.binds (ps := ["self"]) fun _ _ _ _ _ _ us hl => match us, hl with | [_], _ => rfl
  have F43 := fun_mk (st := s_channel_anew) l43 c43 k43
  have b43 := F43.binds (ps := ["row"]) fun _ _ _ _ _ _ us hl => match us, hl with | [_], _ => rfl
  have F44 := fun_mk (st := s_breaker_anew) l44 c44 k44
  have b44 := F44.binds (ps := ["row"]) fun _ _ _ _ _ _ us hl => match us, hl with | [_], _ => rfl
  have F45 := fun_mk (st := s_ship_anew) l45 c45 k45
  have b45 := F45.binds (ps := ["row"]) fun _ _ _ _ _ _ us hl => match us, hl with | [_], _ => rfl
  have F46 := fun_mk (st := s_world_anew) l46 c46 k46
  have b46 := F46.binds (ps := ["told"]) fun _ _ _ _ _ _ us hl => match us, hl with | [_], _ => rfl
  have F47 := fun_mk (st := s_later_world) l47 c47 k47
  have b47 := F47.binds (ps := ["world", "many"]) fun _ _ _ _ _ _ us hl => match us, hl with | [_, _], _ => rfl
  have F48 := fun_mk (st := s_later_table) l48 c48 k48
  have b48 := F48.binds (ps := ["world", "table", "many"]) fun _ _ _ _ _ _ us hl => match us, hl with | [_, _, _], _ => rfl
  have F49 := fun_mk (st := s_law_cell) l49 c49 k49
  have b49 := F49.binds (ps := ["_law_script", "_law_k"]) fun _ _ _ _ _ _ us hl => match us, hl with | [_, _], _ => rfl
  have F50 := fun_mk (st := s_law_box) l50 c50 k50
  have b50 := F50.binds (ps := ["_law_cell_here"]) fun _ _ _ _ _ _ us hl => match us, hl with | [_], _ => rfl
  have F51 := fun_mk (st := s_law_take) l51 c51 k51
  have b51 := F51.binds (ps := ["_law_box_here", "_law_many"]) fun _ _ _ _ _ _ us hl => match us, hl with | [_, _], _ => rfl
  have F52 := fun_mk (st := s_law_names) l52 c52 k52
  have b52 := F52.binds (ps := ["_law_box_here", "_law_many"]) fun _ _ _ _ _ _ us hl => match us, hl with | [_, _], _ => rfl
  have F53 := fun_mk (st := s_law_number) l53 c53 k53
  have b53 := F53.binds (ps := ["_law_box_here", "_law_low", "_law_high"]) fun _ _ _ _ _ _ us hl => match us, hl with | [_, _, _], _ => rfl
  have F54 := fun_mk (st := s_law_channel) l54 c54 k54
  have b54 := F54.binds (ps := ["_law_box_here", "_law_name", "_law_ports"]) fun _ _ _ _ _ _ us hl => match us, hl with | [_, _, _], _ => rfl
  have F55 := fun_mk (st := s_law_breaker) l55 c55 k55
  have b55 := F55.binds (ps := ["_law_box_here", "_law_name", "_law_ports"]) fun _ _ _ _ _ _ us hl => match us, hl with | [_, _, _], _ => rfl
  have F56 := fun_mk (st := s_law_ship) l56 c56 k56
  have b56 := F56.binds (ps := ["_law_box_here", "_law_name", "_law_ports"]) fun _ _ _ _ _ _ us hl => match us, hl with | [_, _, _], _ => rfl
  have F57 := fun_mk (st := s_law_world) l57 c57 k57
  have b57 := F57.binds (ps := ["_law_box_here", "_law_sizes"]) fun _ _ _ _ _ _ us hl => match us, hl with | [_, _], _ => rfl
  have F58 := fun_mk (st := s_law_few) l58 c58 k58
  have b58 := F58.binds (ps := ["_law_box_here"]) fun _ _ _ _ _ _ us hl => match us, hl with | [_], _ => rfl
  have F59 := fun_mk (st := s_law_made) l59 c59 k59
  have b59 := F59.binds (ps := ["_law_world_here"]) fun _ _ _ _ _ _ us hl => match us, hl with | [_], _ => rfl
  have F60 := fun_mk (st := s_law_table) l60 c60 k60
  have b60 := F60.binds (ps := ["_law_box_here", "_law_world_here"]) fun _ _ _ _ _ _ us hl => match us, hl with | [_, _], _ => rfl
  have F61 := fun_mk (st := s_law_anew) l61 c61 k61
  have b61 := F61.binds (ps := ["_law_world_here", "_law_table_here"]) fun _ _ _ _ _ _ us hl => match us, hl with | [_, _], _ => rfl
  have F62 := fun_mk (st := s_law_due) l62 c62 k62
  have b62 := F62.binds (ps := ["_law_world_here", "_law_many"]) fun _ _ _ _ _ _ us hl => match us, hl with | [_, _], _ => rfl
  have F63 := fun_mk (st := s_law_due_table) l63 c63 k63
  have b63 := F63.binds (ps := ["_law_world_here", "_law_table_here", "_law_many"]) fun _ _ _ _ _ _ us hl => match us, hl with | [_, _, _], _ => rfl
  have F64 := fun_mk (st := s_law_refused) l64 c64 k64
  have b64 := F64.binds (ps := ["_law_made_here", "_law_table_here", "_law_many"]) fun _ _ _ _ _ _ us hl => match us, hl with | [_, _, _], _ => rfl
  have F65 := fun_mk (st := s_law_right) l65 c65 k65
  have b65 := F65.binds (ps := ["_law_box_here", "_law_scene"]) fun _ _ _ _ _ _ us hl => match us, hl with | [_, _], _ => rfl
  have F66 := fun_mk (st := s_law) l66 c66 k66
  have b66 := F66.binds (ps := ["_law_script"]) fun _ _ _ _ _ _ us hl => match us, hl with | [_], _ => rfl
  exact ⟨_, fun s v => .of_eq rfl, fun base _ _ => ok_law (T := { a_IceError := C_IceError, g_IceError := PySem.W.mg_of X G aC_IceError, a_NoName := C_NoName, g_NoName := PySem.W.mg_of X G aC_NoName, a_NoNumber := C_NoNumber, g_NoNumber := PySem.W.mg_of X G aC_NoNumber, a_NoPort := C_NoPort, g_NoPort := PySem.W.mg_of X G aC_NoPort, a_NoChannel := C_NoChannel, g_NoChannel := PySem.W.mg_of X G aC_NoChannel, a_NoVessel := C_NoVessel, g_NoVessel := PySem.W.mg_of X G aC_NoVessel, a_NoWorld := C_NoWorld, g_NoWorld := PySem.W.mg_of X G aC_NoWorld, a_NoTable := C_NoTable, g_NoTable := PySem.W.mg_of X G aC_NoTable, a_Doubled := C_Doubled, g_Doubled := PySem.W.mg_of X G aC_Doubled, a_Channel := C_Channel, g_Channel := PySem.W.mg_of X G aC_Channel, a_Vessel := C_Vessel, g_Vessel := PySem.W.mg_of X G aC_Vessel, a_Breaker := C_Breaker, g_Breaker := PySem.W.mg_of X G aC_Breaker, a_Ship := C_Ship, g_Ship := PySem.W.mg_of X G aC_Ship, a_World := C_World, g_World := PySem.W.mg_of X G aC_World, a_wall := f0, d_wall := _, F_wall := F0, g_wall := PySem.W.mg_of X G a0, b_wall := b0, a_NoName___init__ := f1, d_NoName___init__ := _, F_NoName___init__ := F1, b_NoName___init__ := b1, a_NoNumber___init__ := f2, d_NoNumber___init__ := _, F_NoNumber___init__ := F2, b_NoNumber___init__ := b2, a_NoPort___init__ := f3, d_NoPort___init__ := _, F_NoPort___init__ := F3, b_NoPort___init__ := b3, a_NoChannel___init__ := f4, d_NoChannel___init__ := _, F_NoChannel___init__ := F4, b_NoChannel___init__ := b4, a_NoVessel___init__ := f5, d_NoVessel___init__ := _, F_NoVessel___init__ := F5, b_NoVessel___init__ := b5, a_NoWorld___init__ := f6, d_NoWorld___init__ := _, F_NoWorld___init__ := F6, b_NoWorld___init__ := b6, a_NoTable___init__ := f7, d_NoTable___init__ := _, F_NoTable___init__ := F7, b_NoTable___init__ := b7, a_Doubled___init__ := f8, d_Doubled___init__ := _, F_Doubled___init__ := F8, b_Doubled___init__ := b8, a_is_whole := f9, d_is_whole := _, F_is_whole := F9, g_is_whole := PySem.W.mg_of X G a9, b_is_whole := b9, a_is_within := f10, d_is_within := _, F_is_within := F10, g_is_within := PySem.W.mg_of X G a10, b_is_within := b10, a_is_name := f11, d_is_name := _, F_is_name := F11, g_is_name := PySem.W.mg_of X G a11, b_is_name := b11, a_is_entry := f12, d_is_entry := _, F_is_entry := F12, g_is_entry := PySem.W.mg_of X G a12, b_is_entry := b12, a_are_entries := f13, d_are_entries := _, F_are_entries := F13, g_are_entries := PySem.W.mg_of X G a13, b_are_entries := b13, a_is_table := f14, d_is_table := _, F_is_table := F14, g_is_table := PySem.W.mg_of X G a14, b_is_table := b14, a_table_told := f15, d_table_told := _, F_table_told := F15, g_table_told := PySem.W.mg_of X G a15, b_table_told := b15, a_need_names := f16, d_need_names := _, F_need_names := F16, g_need_names := PySem.W.mg_of X G a16, b_need_names := b16, a_need_numbers := f17, d_need_numbers := _, F_need_numbers := F17, g_need_numbers := PySem.W.mg_of X G a17, b_need_numbers := b17, a_Channel___init__ := f18, d_Channel___init__ := _, F_Channel___init__ := F18, b_Channel___init__ := b18, a_Channel_row := f19, d_Channel_row := _, F_Channel_row := F19, b_Channel_row := b19, a_Vessel___init__ := f20, d_Vessel___init__ := _, F_Vessel___init__ := F20, b_Vessel___init__ := b20, a_Vessel_settle := f21, d_Vessel_settle := _, F_Vessel_settle := F21, b_Vessel_settle := b21, a_Vessel_thins := f22, d_Vessel_thins := _, F_Vessel_thins := F22, b_Vessel_thins := b22, a_Vessel_row := f23, d_Vessel_row := _, F_Vessel_row := F23, b_Vessel_row := b23, a_Breaker___init__ := f24, d_Breaker___init__ := _, F_Breaker___init__ := F24, b_Breaker___init__ := b24, a_Breaker_thins := f25, d_Breaker_thins := _, F_Breaker_thins := F25, b_Breaker_thins := b25, a_Breaker_row := f26, d_Breaker_row := _, F_Breaker_row := F26, b_Breaker_row := b26, a_Ship___init__ := f27, d_Ship___init__ := _, F_Ship___init__ := F27, b_Ship___init__ := b27, a_Ship_row := f28, d_Ship_row := _, F_Ship_row := F28, b_Ship_row := b28, a_is_list := f29, d_is_list := _, F_is_list := F29, g_is_list := PySem.W.mg_of X G a29, b_is_list := b29, a_need_kinds := f30, d_need_kinds := _, F_need_kinds := F30, g_need_kinds := PySem.W.mg_of X G a30, b_need_kinds := b30, a_need_unlike := f31, d_need_unlike := _, F_need_unlike := F31, g_need_unlike := PySem.W.mg_of X G a31, b_need_unlike := b31, a_need_ports := f32, d_need_ports := _, F_need_ports := F32, g_need_ports := PySem.W.mg_of X G a32, b_need_ports := b32, a_World___init__ := f33, d_World___init__ := _, F_World___init__ := F33, b_World___init__ := b33, a_World_begin_hour := f34, d_World_begin_hour := _, F_World_begin_hour := F34, b_World_begin_hour := b34, a_World_ports := f35, d_World_ports := _, F_World_ports := F35, b_World_ports := b35, a_World_channels := f36, d_World_channels := _, F_World_channels := F36, b_World_channels := b36, a_World_breakers := f37, d_World_breakers := _, F_World_breakers := F37, b_World_breakers := b37, a_World_ships := f38, d_World_ships := _, F_World_ships := F38, b_World_ships := b38, a_World_vessels := f39, d_World_vessels := _, F_World_vessels := F39, b_World_vessels := b39, a_World_channel := f40, d_World_channel := _, F_World_channel := F40, b_World_channel := b40, a_World_vessel := f41, d_World_vessel := _, F_World_vessel := F41, b_World_vessel := b41, a_World_told := f42, d_World_told := _, F_World_told := F42, b_World_told := b42, a_channel_anew := f43, d_channel_anew := _, F_channel_anew := F43, g_channel_anew := PySem.W.mg_of X G a43, b_channel_anew := b43, a_breaker_anew := f44, d_breaker_anew := _, F_breaker_anew := F44, g_breaker_anew := PySem.W.mg_of X G a44, b_breaker_anew := b44, a_ship_anew := f45, d_ship_anew := _, F_ship_anew := F45, g_ship_anew := PySem.W.mg_of X G a45, b_ship_anew := b45, a_world_anew := f46, d_world_anew := _, F_world_anew := F46, g_world_anew := PySem.W.mg_of X G a46, b_world_anew := b46, a_later_world := f47, d_later_world := _, F_later_world := F47, g_later_world := PySem.W.mg_of X G a47, b_later_world := b47, a_later_table := f48, d_later_table := _, F_later_table := F48, g_later_table := PySem.W.mg_of X G a48, b_later_table := b48, a_law_cell := f49, d_law_cell := _, F_law_cell := F49, g_law_cell := PySem.W.mg_of X G a49, b_law_cell := b49, a_law_box := f50, d_law_box := _, F_law_box := F50, g_law_box := PySem.W.mg_of X G a50, b_law_box := b50, a_law_take := f51, d_law_take := _, F_law_take := F51, g_law_take := PySem.W.mg_of X G a51, b_law_take := b51, a_law_names := f52, d_law_names := _, F_law_names := F52, g_law_names := PySem.W.mg_of X G a52, b_law_names := b52, a_law_number := f53, d_law_number := _, F_law_number := F53, g_law_number := PySem.W.mg_of X G a53, b_law_number := b53, a_law_channel := f54, d_law_channel := _, F_law_channel := F54, g_law_channel := PySem.W.mg_of X G a54, b_law_channel := b54, a_law_breaker := f55, d_law_breaker := _, F_law_breaker := F55, g_law_breaker := PySem.W.mg_of X G a55, b_law_breaker := b55, a_law_ship := f56, d_law_ship := _, F_law_ship := F56, g_law_ship := PySem.W.mg_of X G a56, b_law_ship := b56, a_law_world := f57, d_law_world := _, F_law_world := F57, g_law_world := PySem.W.mg_of X G a57, b_law_world := b57, a_law_few := f58, d_law_few := _, F_law_few := F58, g_law_few := PySem.W.mg_of X G a58, b_law_few := b58, a_law_made := f59, d_law_made := _, F_law_made := F59, g_law_made := PySem.W.mg_of X G a59, b_law_made := b59, a_law_table := f60, d_law_table := _, F_law_table := F60, g_law_table := PySem.W.mg_of X G a60, b_law_table := b60, a_law_anew := f61, d_law_anew := _, F_law_anew := F61, g_law_anew := PySem.W.mg_of X G a61, b_law_anew := b61, a_law_due := f62, d_law_due := _, F_law_due := F62, g_law_due := PySem.W.mg_of X G a62, b_law_due := b62, a_law_due_table := f63, d_law_due_table := _, F_law_due_table := F63, g_law_due_table := PySem.W.mg_of X G a63, b_law_due_table := b63, a_law_refused := f64, d_law_refused := _, F_law_refused := F64, g_law_refused := PySem.W.mg_of X G a64, b_law_refused := b64, a_law_right := f65, d_law_right := _, F_law_right := F65, g_law_right := PySem.W.mg_of X G a65, b_law_right := b65, a_law := fa, d_law := _, F_law := F66, g_law := PySem.W.mg_of X G a66, b_law := b66, cl_Channel := ⟨p1_Channel, p2_Channel, p3_Channel, p4_Channel⟩, n_Channel_name := nn_Channel_name, n_Channel_one := nn_Channel_one, n_Channel_other := nn_Channel_other, n_Channel_hours := nn_Channel_hours, n_Channel_depth := nn_Channel_depth, n_Channel_first := nn_Channel_first, n_Channel_growth := nn_Channel_growth, n_Channel_most := nn_Channel_most, cl_Vessel := ⟨p1_Vessel, p2_Vessel, p3_Vessel, p4_Vessel⟩, n_Vessel_name := nn_Vessel_name, n_Vessel_port := nn_Vessel_port, n_Vessel_hour := nn_Vessel_hour, n_Vessel_strength := nn_Vessel_strength, n_Vessel_draught := nn_Vessel_draught, cl_Breaker := ⟨p1_Breaker, p2_Breaker, p3_Breaker, p4_Breaker⟩, n_Breaker_name := nn_Breaker_name, n_Breaker_port := nn_Breaker_port, n_Breaker_hour := nn_Breaker_hour, n_Breaker_strength := nn_Breaker_strength, n_Breaker_draught := nn_Breaker_draught, n_Breaker_cut := nn_Breaker_cut, cl_Ship := ⟨p1_Ship, p2_Ship, p3_Ship, p4_Ship⟩, n_Ship_name := nn_Ship_name, n_Ship_port := nn_Ship_port, n_Ship_hour := nn_Ship_hour, n_Ship_strength := nn_Ship_strength, n_Ship_draught := nn_Ship_draught, n_Ship_goal := nn_Ship_goal, cl_World := ⟨p1_World, p2_World, p3_World, p4_World⟩, n_World_beginning := nn_World_beginning, n_World_all_ports := nn_World_all_ports, n_World_all_channels := nn_World_all_channels, n_World_all_breakers := nn_World_all_breakers, n_World_all_ships := nn_World_all_ships, hn_class := hn_class, ht_class := ht_class, ic_Channel := id_Channel, im_Channel := in_Channel, eq_Channel := ⟨ea_Channel, eb_Channel, tf_eo_Channel⟩, ob_Channel := own_of tf_o_Channel_int tf_o_Channel_bool tf_o_Channel_str tf_o_Channel_list tf_o_Channel_tuple tf_o_Channel_dict, ki_Channel_Breaker := kit_sub yc_Breaker yt_Breaker tf_y_Breaker tf_k_Channel_Breaker, ki_Channel_Channel := kit_sub yc_Channel yt_Channel tf_y_Channel tf_k_Channel_Channel, ki_Channel_Ship := kit_sub yc_Ship yt_Ship tf_y_Ship tf_k_Channel_Ship, ic_Vessel := id_Vessel, im_Vessel := in_Vessel, eq_Vessel := ⟨ea_Vessel, eb_Vessel, tf_eo_Vessel⟩, ob_Vessel := own_of tf_o_Vessel_int tf_o_Vessel_bool tf_o_Vessel_str tf_o_Vessel_list tf_o_Vessel_tuple tf_o_Vessel_dict, ki_Vessel_Breaker := kit_sub yc_Breaker yt_Breaker tf_y_Breaker tf_k_Vessel_Breaker, ki_Vessel_Channel := kit_sub yc_Channel yt_Channel tf_y_Channel tf_k_Vessel_Channel, ki_Vessel_Ship := kit_sub yc_Ship yt_Ship tf_y_Ship tf_k_Vessel_Ship, ic_Breaker := id_Breaker, im_Breaker := in_Breaker, eq_Breaker := ⟨ea_Breaker, eb_Breaker, tf_eo_Breaker⟩, ob_Breaker := own_of tf_o_Breaker_int tf_o_Breaker_bool tf_o_Breaker_str tf_o_Breaker_list tf_o_Breaker_tuple tf_o_Breaker_dict, ki_Breaker_Breaker := kit_sub yc_Breaker yt_Breaker tf_y_Breaker tf_k_Breaker_Breaker, ki_Breaker_Channel := kit_sub yc_Channel yt_Channel tf_y_Channel tf_k_Breaker_Channel, ki_Breaker_Ship := kit_sub yc_Ship yt_Ship tf_y_Ship tf_k_Breaker_Ship, ic_Ship := id_Ship, im_Ship := in_Ship, eq_Ship := ⟨ea_Ship, eb_Ship, tf_eo_Ship⟩, ob_Ship := own_of tf_o_Ship_int tf_o_Ship_bool tf_o_Ship_str tf_o_Ship_list tf_o_Ship_tuple tf_o_Ship_dict, ki_Ship_Breaker := kit_sub yc_Breaker yt_Breaker tf_y_Breaker tf_k_Ship_Breaker, ki_Ship_Channel := kit_sub yc_Channel yt_Channel tf_y_Channel tf_k_Ship_Channel, ki_Ship_Ship := kit_sub yc_Ship yt_Ship tf_y_Ship tf_k_Ship_Ship, ic_World := id_World, im_World := in_World, eq_World := ⟨ea_World, eb_World, tf_eo_World⟩, ob_World := own_of tf_o_World_int tf_o_World_bool tf_o_World_str tf_o_World_list tf_o_World_tuple tf_o_World_dict, ki_World_Breaker := kit_sub yc_Breaker yt_Breaker tf_y_Breaker tf_k_World_Breaker, ki_World_Channel := kit_sub yc_Channel yt_Channel tf_y_Channel tf_k_World_Channel, ki_World_Ship := kit_sub yc_Ship yt_Ship tf_y_Ship tf_k_World_Ship, mk_Breaker := ⟨mm_Breaker, mi_Breaker, mf_Breaker, mq_Breaker⟩, mk_Channel := ⟨mm_Channel, mi_Channel, mf_Channel, mq_Channel⟩, mk_Ship := ⟨mm_Ship, mi_Ship, mf_Ship, mq_Ship⟩, mk_World := ⟨mm_World, mi_World, mf_World, mq_World⟩, me_Breaker_row := ⟨ma_Breaker_row, mb_Breaker_row, k26⟩, me_Breaker_settle := ⟨ma_Breaker_settle, mb_Breaker_settle, k21⟩, me_Channel_row := ⟨ma_Channel_row, mb_Channel_row, k19⟩, me_Ship_row := ⟨ma_Ship_row, mb_Ship_row, k28⟩, me_Ship_settle := ⟨ma_Ship_settle, mb_Ship_settle, k21⟩, me_Vessel_settle := ⟨ma_Vessel_settle, mb_Vessel_settle, k21⟩, me_World_begin_hour := ⟨ma_World_begin_hour, mb_World_begin_hour, k34⟩, me_World_channels := ⟨ma_World_channels, mb_World_channels, k36⟩, me_World_told := ⟨ma_World_told, mb_World_told, k42⟩, me_World_vessels := ⟨ma_World_vessels, mb_World_vessels, k39⟩, rd_Vessel := ra_Vessel, ga_Vessel := gb_Vessel, rd_IceError := ra_IceError, ga_IceError := gb_IceError, vi_IceError := vj_IceError, cm_Vessel___init__ := cn_Vessel___init__, cm_Vessel_row := cn_Vessel_row, ox_NoName := ⟨⟨nm_NoName, q_NoName, N_NoName, bs_NoName, _, sn_NoName, sub_NoName, ab_NoName, col_NoName, dd_NoName, m0_NoName, m1_NoName, m2_NoName, m3_NoName, m5_NoName, xl_NoName, refs_ve1⟩, xs_NoName, xe_NoName, xt_NoName, xk_NoName⟩, ix_NoName := a1, tx_NoName := xy_NoName, xf_NoName := ⟨xg_NoName, xh_NoName, xe_NoName, xd_NoName⟩, n_NoName_found := nn_NoName_found, ox_NoNumber := ⟨⟨nm_NoNumber, q_NoNumber, N_NoNumber, bs_NoNumber, _, sn_NoNumber, sub_NoNumber, ab_NoNumber, col_NoNumber, dd_NoNumber, m0_NoNumber, m1_NoNumber, m2_NoNumber, m3_NoNumber, m5_NoNumber, xl_NoNumber, refs_ve1⟩, xs_NoNumber, xe_NoNumber, xt_NoNumber, xk_NoNumber⟩, ix_NoNumber := a2, tx_NoNumber := xy_NoNumber, xf_NoNumber := ⟨xg_NoNumber, xh_NoNumber, xe_NoNumber, xd_NoNumber⟩, n_NoNumber_found := nn_NoNumber_found, ox_NoPort := ⟨⟨nm_NoPort, q_NoPort, N_NoPort, bs_NoPort, _, sn_NoPort, sub_NoPort, ab_NoPort, col_NoPort, dd_NoPort, m0_NoPort, m1_NoPort, m2_NoPort, m3_NoPort, m5_NoPort, xl_NoPort, refs_ve1⟩, xs_NoPort, xe_NoPort, xt_NoPort, xk_NoPort⟩, ix_NoPort := a3, tx_NoPort := xy_NoPort, xf_NoPort := ⟨xg_NoPort, xh_NoPort, xe_NoPort, xd_NoPort⟩, n_NoPort_found := nn_NoPort_found, ox_NoChannel := ⟨⟨nm_NoChannel, q_NoChannel, N_NoChannel, bs_NoChannel, _, sn_NoChannel, sub_NoChannel, ab_NoChannel, col_NoChannel, dd_NoChannel, m0_NoChannel, m1_NoChannel, m2_NoChannel, m3_NoChannel, m5_NoChannel, xl_NoChannel, refs_ve1⟩, xs_NoChannel, xe_NoChannel, xt_NoChannel, xk_NoChannel⟩, ix_NoChannel := a4, tx_NoChannel := xy_NoChannel, xf_NoChannel := ⟨xg_NoChannel, xh_NoChannel, xe_NoChannel, xd_NoChannel⟩, n_NoChannel_found := nn_NoChannel_found, ox_NoVessel := ⟨⟨nm_NoVessel, q_NoVessel, N_NoVessel, bs_NoVessel, _, sn_NoVessel, sub_NoVessel, ab_NoVessel, col_NoVessel, dd_NoVessel, m0_NoVessel, m1_NoVessel, m2_NoVessel, m3_NoVessel, m5_NoVessel, xl_NoVessel, refs_ve1⟩, xs_NoVessel, xe_NoVessel, xt_NoVessel, xk_NoVessel⟩, ix_NoVessel := a5, tx_NoVessel := xy_NoVessel, xf_NoVessel := ⟨xg_NoVessel, xh_NoVessel, xe_NoVessel, xd_NoVessel⟩, n_NoVessel_found := nn_NoVessel_found, ox_NoWorld := ⟨⟨nm_NoWorld, q_NoWorld, N_NoWorld, bs_NoWorld, _, sn_NoWorld, sub_NoWorld, ab_NoWorld, col_NoWorld, dd_NoWorld, m0_NoWorld, m1_NoWorld, m2_NoWorld, m3_NoWorld, m5_NoWorld, xl_NoWorld, refs_ve1⟩, xs_NoWorld, xe_NoWorld, xt_NoWorld, xk_NoWorld⟩, ix_NoWorld := a6, tx_NoWorld := xy_NoWorld, xf_NoWorld := ⟨xg_NoWorld, xh_NoWorld, xe_NoWorld, xd_NoWorld⟩, n_NoWorld_found := nn_NoWorld_found, ox_NoTable := ⟨⟨nm_NoTable, q_NoTable, N_NoTable, bs_NoTable, _, sn_NoTable, sub_NoTable, ab_NoTable, col_NoTable, dd_NoTable, m0_NoTable, m1_NoTable, m2_NoTable, m3_NoTable, m5_NoTable, xl_NoTable, refs_ve1⟩, xs_NoTable, xe_NoTable, xt_NoTable, xk_NoTable⟩, ix_NoTable := a7, tx_NoTable := xy_NoTable, xf_NoTable := ⟨xg_NoTable, xh_NoTable, xe_NoTable, xd_NoTable⟩, n_NoTable_found := nn_NoTable_found, ox_Doubled := ⟨⟨nm_Doubled, q_Doubled, N_Doubled, bs_Doubled, _, sn_Doubled, sub_Doubled, ab_Doubled, col_Doubled, dd_Doubled, m0_Doubled, m1_Doubled, m2_Doubled, m3_Doubled, m5_Doubled, xl_Doubled, refs_ve1⟩, xs_Doubled, xe_Doubled, xt_Doubled, xk_Doubled⟩, ix_Doubled := a8, tx_Doubled := xy_Doubled, xf_Doubled := ⟨xg_Doubled, xh_Doubled, xe_Doubled, xd_Doubled⟩, n_Doubled_name := nn_Doubled_name, te_NoName_IceError := exm_of xe_IceError xc_IceError xt_IceError tf_NoName_IceError, te_NoNumber_IceError := exm_of xe_IceError xc_IceError xt_IceError tf_NoNumber_IceError, te_NoPort_IceError := exm_of xe_IceError xc_IceError xt_IceError tf_NoPort_IceError, te_NoChannel_IceError := exm_of xe_IceError xc_IceError xt_IceError tf_NoChannel_IceError, te_NoVessel_IceError := exm_of xe_IceError xc_IceError xt_IceError tf_NoVessel_IceError, te_NoWorld_IceError := exm_of xe_IceError xc_IceError xt_IceError tf_NoWorld_IceError, te_NoTable_IceError := exm_of xe_IceError xc_IceError xt_IceError tf_NoTable_IceError, te_Doubled_IceError := exm_of xe_IceError xc_IceError xt_IceError tf_Doubled_IceError, te_NoName_NoNumber := exm_of xe_NoNumber xc_NoNumber xt_NoNumber tf_NoName_NoNumber, te_NoNumber_NoNumber := exm_of xe_NoNumber xc_NoNumber xt_NoNumber tf_NoNumber_NoNumber, te_NoPort_NoNumber := exm_of xe_NoNumber xc_NoNumber xt_NoNumber tf_NoPort_NoNumber, te_NoChannel_NoNumber := exm_of xe_NoNumber xc_NoNumber xt_NoNumber tf_NoChannel_NoNumber, te_NoVessel_NoNumber := exm_of xe_NoNumber xc_NoNumber xt_NoNumber tf_NoVessel_NoNumber, te_NoWorld_NoNumber := exm_of xe_NoNumber xc_NoNumber xt_NoNumber tf_NoWorld_NoNumber, te_NoTable_NoNumber := exm_of xe_NoNumber xc_NoNumber xt_NoNumber tf_NoTable_NoNumber, te_Doubled_NoNumber := exm_of xe_NoNumber xc_NoNumber xt_NoNumber tf_Doubled_NoNumber, m_all := PySem.W.mg_none_of X G z_all, m_bool := PySem.W.mg_none_of X G z_bool, m_dict := PySem.W.mg_none_of X G z_dict, m_int := PySem.W.mg_none_of X G z_int, m_isinstance := PySem.W.mg_none_of X G z_isinstance, m_len := PySem.W.mg_none_of X G z_len, m_list := PySem.W.mg_none_of X G z_list, m_max := PySem.W.mg_none_of X G z_max, m_min := PySem.W.mg_none_of X G z_min, m_range := PySem.W.mg_none_of X G z_range, m_repr := PySem.W.mg_none_of X G z_repr, m_str := PySem.W.mg_none_of X G z_str, m_tuple := PySem.W.mg_none_of X G z_tuple, c_LETTERS := ⟨_, PySem.W.mg_of X G y_LETTERS, ⟨_, rfl⟩⟩, c_LONGEST_NAME := ⟨_, PySem.W.mg_of X G y_LONGEST_NAME, ⟨_, rfl⟩⟩, c_LAST_HOUR := ⟨_, PySem.W.mg_of X G y_LAST_HOUR, ⟨_, rfl⟩⟩, c_MOST_HOUR := ⟨_, PySem.W.mg_of X G y_MOST_HOUR, ⟨_, rfl⟩⟩, c_MOST_ICE := ⟨_, PySem.W.mg_of X G y_MOST_ICE, ⟨_, rfl⟩⟩, c_MOST_DEPTH := ⟨_, PySem.W.mg_of X G y_MOST_DEPTH, ⟨_, rfl⟩⟩, c_MOST_LENGTH := ⟨_, PySem.W.mg_of X G y_MOST_LENGTH, ⟨_, rfl⟩⟩, c_MOST_GROWTH := ⟨_, PySem.W.mg_of X G y_MOST_GROWTH, ⟨_, rfl⟩⟩, c_MOST_BEGIN := ⟨_, PySem.W.mg_of X G y_MOST_BEGIN, ⟨_, rfl⟩⟩, c_MOST_PORTS := ⟨_, PySem.W.mg_of X G y_MOST_PORTS, ⟨_, rfl⟩⟩, c_MOST_CHANNELS := ⟨_, PySem.W.mg_of X G y_MOST_CHANNELS, ⟨_, rfl⟩⟩, c_MOST_BREAKERS := ⟨_, PySem.W.mg_of X G y_MOST_BREAKERS, ⟨_, rfl⟩⟩, c_MOST_SHIPS := ⟨_, PySem.W.mg_of X G y_MOST_SHIPS, ⟨_, rfl⟩⟩ })⟩
end My
open PySem PySem.W PyProof.Rows
set_option maxHeartbeats 0 in
theorem PySem.Challenge.cw_iceopened_k75_later_holds : PySem.Challenge.rw_iceopened_k75_later.Holds := by
  w_on; o_law; k_head; (case hw => w_witness2)
  k_fill
  refine My.walk_ofG (l := PySem.Challenge.rw_iceopened_k75_later) (n := 63) (k := 12) (x := "_law_script") (sp := fun w => My.sp_law _) rfl (by decide) rfl ⟨rfl, by decide, by decide⟩ (fun w h Y => PySem.W.kIn_of Y) ?F (fun _ _ a ns hl _ _ hS => ⟨a, ns, rfl, hS, hl, fun _ => rfl⟩)
  case F =>
    intro w mg fa h KX G hmg
    refine' My.all_mk KX G hmg ?aC_IceError ?aC_NoName ?aC_NoNumber ?aC_NoPort ?aC_NoChannel ?aC_NoVessel ?aC_NoWorld ?aC_NoTable ?aC_Doubled ?aC_Channel ?aC_Vessel ?aC_Breaker ?aC_Ship ?aC_World ?a0 ?l0 ?c0 ?k0 ?a1 ?l1 ?c1 ?k1 ?a2 ?l2 ?c2 ?k2 ?a3 ?l3 ?c3 ?k3 ?a4 ?l4 ?c4 ?k4 ?a5 ?l5 ?c5 ?k5 ?a6 ?l6 ?c6 ?k6 ?a7 ?l7 ?c7 ?k7 ?a8 ?l8 ?c8 ?k8 ?a9 ?l9 ?c9 ?k9 ?a10 ?l10 ?c10 ?k10 ?a11 ?l11 ?c11 ?k11 ?a12 ?l12 ?c12 ?k12 ?a13 ?l13 ?c13 ?k13 ?a14 ?l14 ?c14 ?k14 ?a15 ?l15 ?c15 ?k15 ?a16 ?l16 ?c16 ?k16 ?a17 ?l17 ?c17 ?k17 ?a18 ?l18 ?c18 ?k18 ?a19 ?l19 ?c19 ?k19 ?a20 ?l20 ?c20 ?k20 ?a21 ?l21 ?c21 ?k21 ?a22 ?l22 ?c22 ?k22 ?a23 ?l23 ?c23 ?k23 ?a24 ?l24 ?c24 ?k24 ?a25 ?l25 ?c25 ?k25 ?a26 ?l26 ?c26 ?k26 ?a27 ?l27 ?c27 ?k27 ?a28 ?l28 ?c28 ?k28 ?a29 ?l29 ?c29 ?k29 ?a30 ?l30 ?c30 ?k30 ?a31 ?l31 ?c31 ?k31 ?a32 ?l32 ?c32 ?k32 ?a33 ?l33 ?c33 ?k33 ?a34 ?l34 ?c34 ?k34 ?a35 ?l35 ?c35 ?k35 ?a36 ?l36 ?c36 ?k36 ?a37 ?l37 ?c37 ?k37 ?a38 ?l38 ?c38 ?k38 ?a39 ?l39 ?c39 ?k39 ?a40 ?l40 ?c40 ?k40 ?a41 ?l41 ?c41 ?k41 ?a42 ?l42 ?c42 ?k42 ?a43 ?l43 ?c43 ?k43 ?a44 ?l44 ?c44 ?k44 ?a45 ?l45 ?c45 ?k45 ?a46 ?l46 ?c46 ?k46 ?a47 ?l47 ?c47 ?k47 ?a48 ?l48 ?c48 ?k48 ?a49 ?l49 ?c49 ?k49 ?a50 ?l50 ?c50 ?k50 ?a51 ?l51 ?c51 ?k51 ?a52 ?l52 ?c52 ?k52 ?a53 ?l53 ?c53 ?k53 ?a54 ?l54 ?c54 ?k54 ?a55 ?l55 ?c55 ?k55 ?a56 ?l56 ?c56 ?k56 ?a57 ?l57 ?c57 ?k57 ?a58 ?l58 ?c58 ?k58 ?a59 ?l59 ?c59 ?k59 ?a60 ?l60 ?c60 ?k60 ?a61 ?l61 ?c61 ?k61 ?a62 ?l62 ?c62 ?k62 ?a63 ?l63 ?c63 ?k63 ?a64 ?l64 ?c64 ?k64 ?a65 ?l65 ?c65 ?k65 ?a66 ?l66 ?c66 ?k66 ?z_all ?z_bool ?z_dict ?z_int ?z_isinstance ?z_len ?z_list ?z_max ?z_min ?z_range ?z_repr ?z_str ?z_tuple ?y_LETTERS ?y_LONGEST_NAME ?y_LAST_HOUR ?y_MOST_HOUR ?y_MOST_ICE ?y_MOST_DEPTH ?y_MOST_LENGTH ?y_MOST_GROWTH ?y_MOST_BEGIN ?y_MOST_PORTS ?y_MOST_CHANNELS ?y_MOST_BREAKERS ?y_MOST_SHIPS ?p1_Channel ?p2_Channel ?p3_Channel ?p4_Channel ?nn_Channel_name ?nn_Channel_one ?nn_Channel_other ?nn_Channel_hours ?nn_Channel_depth ?nn_Channel_first ?nn_Channel_growth ?nn_Channel_most ?p1_Vessel ?p2_Vessel ?p3_Vessel ?p4_Vessel ?nn_Vessel_name ?nn_Vessel_port ?nn_Vessel_hour ?nn_Vessel_strength ?nn_Vessel_draught ?p1_Breaker ?p2_Breaker ?p3_Breaker ?p4_Breaker ?nn_Breaker_name ?nn_Breaker_port ?nn_Breaker_hour ?nn_Breaker_strength ?nn_Breaker_draught ?nn_Breaker_cut ?p1_Ship ?p2_Ship ?p3_Ship ?p4_Ship ?nn_Ship_name ?nn_Ship_port ?nn_Ship_hour ?nn_Ship_strength ?nn_Ship_draught ?nn_Ship_goal ?p1_World ?p2_World ?p3_World ?p4_World ?nn_World_beginning ?nn_World_all_ports ?nn_World_all_channels ?nn_World_all_breakers ?nn_World_all_ships ?hn_class ?ht_class ?yc_Breaker ?yt_Breaker ?tf_y_Breaker ?yc_Channel ?yt_Channel ?tf_y_Channel ?yc_Ship ?yt_Ship ?tf_y_Ship ?id_Channel ?in_Channel ?ea_Channel ?eb_Channel ?tf_eo_Channel ?tf_o_Channel_int ?tf_o_Channel_bool ?tf_o_Channel_str ?tf_o_Channel_list ?tf_o_Channel_tuple ?tf_o_Channel_dict ?tf_k_Channel_Breaker ?tf_k_Channel_Channel ?tf_k_Channel_Ship ?id_Vessel ?in_Vessel ?ea_Vessel ?eb_Vessel ?tf_eo_Vessel ?tf_o_Vessel_int ?tf_o_Vessel_bool ?tf_o_Vessel_str ?tf_o_Vessel_list ?tf_o_Vessel_tuple ?tf_o_Vessel_dict ?tf_k_Vessel_Breaker ?tf_k_Vessel_Channel ?tf_k_Vessel_Ship ?id_Breaker ?in_Breaker ?ea_Breaker ?eb_Breaker ?tf_eo_Breaker ?tf_o_Breaker_int ?tf_o_Breaker_bool ?tf_o_Breaker_str ?tf_o_Breaker_list ?tf_o_Breaker_tuple ?tf_o_Breaker_dict ?tf_k_Breaker_Breaker ?tf_k_Breaker_Channel ?tf_k_Breaker_Ship ?id_Ship ?in_Ship ?ea_Ship ?eb_Ship ?tf_eo_Ship ?tf_o_Ship_int ?tf_o_Ship_bool ?tf_o_Ship_str ?tf_o_Ship_list ?tf_o_Ship_tuple ?tf_o_Ship_dict ?tf_k_Ship_Breaker ?tf_k_Ship_Channel ?tf_k_Ship_Ship ?id_World ?in_World ?ea_World ?eb_World ?tf_eo_World ?tf_o_World_int ?tf_o_World_bool ?tf_o_World_str ?tf_o_World_list ?tf_o_World_tuple ?tf_o_World_dict ?tf_k_World_Breaker ?tf_k_World_Channel ?tf_k_World_Ship ?mm_Breaker ?mi_Breaker ?mf_Breaker ?mq_Breaker ?mm_Channel ?mi_Channel ?mf_Channel ?mq_Channel ?mm_Ship ?mi_Ship ?mf_Ship ?mq_Ship ?mm_World ?mi_World ?mf_World ?mq_World ?ma_Breaker_row ?mb_Breaker_row ?ma_Breaker_settle ?mb_Breaker_settle ?ma_Channel_row ?mb_Channel_row ?ma_Ship_row ?mb_Ship_row ?ma_Ship_settle ?mb_Ship_settle ?ma_Vessel_settle ?mb_Vessel_settle ?ma_World_begin_hour ?mb_World_begin_hour ?ma_World_channels ?mb_World_channels ?ma_World_told ?mb_World_told ?ma_World_vessels ?mb_World_vessels ?ra_Vessel ?gb_Vessel ?ra_IceError ?gb_IceError ?vj_IceError ?cn_Vessel___init__ ?cn_Vessel_row ?xl_NoName ?xs_NoName ?xe_NoName ?xt_NoName ?xk_NoName ?xy_NoName ?xg_NoName ?xh_NoName ?xd_NoName ?nn_NoName_found ?xl_NoNumber ?xs_NoNumber ?xe_NoNumber ?xt_NoNumber ?xk_NoNumber ?xy_NoNumber ?xg_NoNumber ?xh_NoNumber ?xd_NoNumber ?nn_NoNumber_found ?xl_NoPort ?xs_NoPort ?xe_NoPort ?xt_NoPort ?xk_NoPort ?xy_NoPort ?xg_NoPort ?xh_NoPort ?xd_NoPort ?nn_NoPort_found ?xl_NoChannel ?xs_NoChannel ?xe_NoChannel ?xt_NoChannel ?xk_NoChannel ?xy_NoChannel ?xg_NoChannel ?xh_NoChannel ?xd_NoChannel ?nn_NoChannel_found ?xl_NoVessel ?xs_NoVessel ?xe_NoVessel ?xt_NoVessel ?xk_NoVessel ?xy_NoVessel ?xg_NoVessel ?xh_NoVessel ?xd_NoVessel ?nn_NoVessel_found ?xl_NoWorld ?xs_NoWorld ?xe_NoWorld ?xt_NoWorld ?xk_NoWorld ?xy_NoWorld ?xg_NoWorld ?xh_NoWorld ?xd_NoWorld ?nn_NoWorld_found ?xl_NoTable ?xs_NoTable ?xe_NoTable ?xt_NoTable ?xk_NoTable ?xy_NoTable ?xg_NoTable ?xh_NoTable ?xd_NoTable ?nn_NoTable_found ?xl_Doubled ?xs_Doubled ?xe_Doubled ?xt_Doubled ?xk_Doubled ?xy_Doubled ?xg_Doubled ?xh_Doubled ?xd_Doubled ?nn_Doubled_name ?xe_IceError ?xt_IceError ?xc_IceError ?tf_NoName_IceError ?tf_NoNumber_IceError ?tf_NoPort_IceError ?tf_NoChannel_IceError ?tf_NoVessel_IceError ?tf_NoWorld_IceError ?tf_NoTable_IceError ?tf_Doubled_IceError ?xc_NoNumber ?tf_NoName_NoNumber ?tf_NoNumber_NoNumber ?tf_NoPort_NoNumber ?tf_NoChannel_NoNumber ?tf_NoVessel_NoNumber ?tf_NoWorld_NoNumber ?tf_NoTable_NoNumber ?tf_Doubled_NoNumber
    (case aC_IceError => k_is); (case aC_NoName => k_is); (case aC_NoNumber => k_is); (case aC_NoPort => k_is); (case aC_NoChannel => k_is); (case aC_NoVessel => k_is); (case aC_NoWorld => k_is); (case aC_NoTable => k_is)
    (case aC_Doubled => k_is); (case aC_Channel => k_is); (case aC_Vessel => k_is); (case aC_Breaker => k_is); (case aC_Ship => k_is); (case aC_World => k_is); (case a0 => k_is); (case l0 => k_is)
    (case c0 => k_is); (case k0 => k_is); (case a1 => k_is); (case l1 => k_is); (case c1 => k_is); (case k1 => k_is); (case a2 => k_is); (case l2 => k_is)
    (case c2 => k_is); (case k2 => k_is); (case a3 => k_is); (case l3 => k_is); (case c3 => k_is); (case k3 => k_is); (case a4 => k_is); (case l4 => k_is)
    (case c4 => k_is); (case k4 => k_is); (case a5 => k_is); (case l5 => k_is); (case c5 => k_is); (case k5 => k_is); (case a6 => k_is); (case l6 => k_is)
    (case c6 => k_is); (case k6 => k_is); (case a7 => k_is); (case l7 => k_is); (case c7 => k_is); (case k7 => k_is); (case a8 => k_is); (case l8 => k_is)
    (case c8 => k_is); (case k8 => k_is); (case a9 => k_is); (case l9 => k_is); (case c9 => k_is); (case k9 => k_is); (case a10 => k_is); (case l10 => k_is)
    (case c10 => k_is); (case k10 => k_is); (case a11 => k_is); (case l11 => k_is); (case c11 => k_is); (case k11 => k_is); (case a12 => k_is); (case l12 => k_is)
    (case c12 => k_is); (case k12 => k_is); (case a13 => k_is); (case l13 => k_is); (case c13 => k_is); (case k13 => k_is); (case a14 => k_is); (case l14 => k_is)
    (case c14 => k_is); (case k14 => k_is); (case a15 => k_is); (case l15 => k_is); (case c15 => k_is); (case k15 => k_is); (case a16 => k_is); (case l16 => k_is)
    (case c16 => k_is); (case k16 => k_is); (case a17 => k_is); (case l17 => k_is); (case c17 => k_is); (case k17 => k_is); (case a18 => k_is); (case l18 => k_is)
    (case c18 => k_is); (case k18 => k_is); (case a19 => k_is); (case l19 => k_is); (case c19 => k_is); (case k19 => k_is); (case a20 => k_is); (case l20 => k_is)
    (case c20 => k_is); (case k20 => k_is); (case a21 => k_is); (case l21 => k_is); (case c21 => k_is); (case k21 => k_is); (case a22 => k_is); (case l22 => k_is)
    (case c22 => k_is); (case k22 => k_is); (case a23 => k_is); (case l23 => k_is); (case c23 => k_is); (case k23 => k_is); (case a24 => k_is); (case l24 => k_is)
    (case c24 => k_is); (case k24 => k_is); (case a25 => k_is); (case l25 => k_is); (case c25 => k_is); (case k25 => k_is); (case a26 => k_is); (case l26 => k_is)
    (case c26 => k_is); (case k26 => k_is); (case a27 => k_is); (case l27 => k_is); (case c27 => k_is); (case k27 => k_is); (case a28 => k_is); (case l28 => k_is)
    (case c28 => k_is); (case k28 => k_is); (case a29 => k_is); (case l29 => k_is); (case c29 => k_is); (case k29 => k_is); (case a30 => k_is); (case l30 => k_is)
    (case c30 => k_is); (case k30 => k_is); (case a31 => k_is); (case l31 => k_is); (case c31 => k_is); (case k31 => k_is); (case a32 => k_is); (case l32 => k_is)
    (case c32 => k_is); (case k32 => k_is); (case a33 => k_is); (case l33 => k_is); (case c33 => k_is); (case k33 => k_is); (case a34 => k_is); (case l34 => k_is)
    (case c34 => k_is); (case k34 => k_is); (case a35 => k_is); (case l35 => k_is); (case c35 => k_is); (case k35 => k_is); (case a36 => k_is); (case l36 => k_is)
    (case c36 => k_is); (case k36 => k_is); (case a37 => k_is); (case l37 => k_is); (case c37 => k_is); (case k37 => k_is); (case a38 => k_is); (case l38 => k_is)
    (case c38 => k_is); (case k38 => k_is); (case a39 => k_is); (case l39 => k_is); (case c39 => k_is); (case k39 => k_is); (case a40 => k_is); (case l40 => k_is)
    (case c40 => k_is); (case k40 => k_is); (case a41 => k_is); (case l41 => k_is); (case c41 => k_is); (case k41 => k_is); (case a42 => k_is); (case l42 => k_is)
    (case c42 => k_is); (case k42 => k_is); (case a43 => k_is); (case l43 => k_is); (case c43 => k_is); (case k43 => k_is); (case a44 => k_is); (case l44 => k_is)
    (case c44 => k_is); (case k44 => k_is); (case a45 => k_is); (case l45 => k_is); (case c45 => k_is); (case k45 => k_is); (case a46 => k_is); (case l46 => k_is)
    (case c46 => k_is); (case k46 => k_is); (case a47 => k_is); (case l47 => k_is); (case c47 => k_is); (case k47 => k_is); (case a48 => k_is); (case l48 => k_is)
    (case c48 => k_is); (case k48 => k_is); (case a49 => k_is); (case l49 => k_is); (case c49 => k_is); (case k49 => k_is); (case a50 => k_is); (case l50 => k_is)
    (case c50 => k_is); (case k50 => k_is); (case a51 => k_is); (case l51 => k_is); (case c51 => k_is); (case k51 => k_is); (case a52 => k_is); (case l52 => k_is)
    (case c52 => k_is); (case k52 => k_is); (case a53 => k_is); (case l53 => k_is); (case c53 => k_is); (case k53 => k_is); (case a54 => k_is); (case l54 => k_is)
    (case c54 => k_is); (case k54 => k_is); (case a55 => k_is); (case l55 => k_is); (case c55 => k_is); (case k55 => k_is); (case a56 => k_is); (case l56 => k_is)
    (case c56 => k_is); (case k56 => k_is); (case a57 => k_is); (case l57 => k_is); (case c57 => k_is); (case k57 => k_is); (case a58 => k_is); (case l58 => k_is)
    (case c58 => k_is); (case k58 => k_is); (case a59 => k_is); (case l59 => k_is); (case c59 => k_is); (case k59 => k_is); (case a60 => k_is); (case l60 => k_is)
    (case c60 => k_is); (case k60 => k_is); (case a61 => k_is); (case l61 => k_is); (case c61 => k_is); (case k61 => k_is); (case a62 => k_is); (case l62 => k_is)
    (case c62 => k_is); (case k62 => k_is); (case a63 => k_is); (case l63 => k_is); (case c63 => k_is); (case k63 => k_is); (case a64 => k_is); (case l64 => k_is)
    (case c64 => k_is); (case k64 => k_is); (case a65 => k_is); (case l65 => k_is); (case c65 => k_is); (case k65 => k_is); (case a66 => k_is); (case l66 => k_is)
    (case c66 => k_is); (case k66 => k_is); (case z_all => k_is); (case z_bool => k_is); (case z_dict => k_is); (case z_int => k_is); (case z_isinstance => k_is); (case z_len => k_is)
    (case z_list => k_is); (case z_max => k_is); (case z_min => k_is); (case z_range => k_is); (case z_repr => k_is); (case z_str => k_is); (case z_tuple => k_is); (case y_LETTERS => k_is)
    (case y_LONGEST_NAME => k_is); (case y_LAST_HOUR => k_is); (case y_MOST_HOUR => k_is); (case y_MOST_ICE => k_is); (case y_MOST_DEPTH => k_is); (case y_MOST_LENGTH => k_is); (case y_MOST_GROWTH => k_is); (case y_MOST_BEGIN => k_is)
    (case y_MOST_PORTS => k_is); (case y_MOST_CHANNELS => k_is); (case y_MOST_BREAKERS => k_is); (case y_MOST_SHIPS => k_is); (case p1_Channel => k_is); (case p2_Channel => k_is); (case p3_Channel => k_is); (case p4_Channel => k_is)
    (case nn_Channel_name => k_is); (case nn_Channel_one => k_is); (case nn_Channel_other => k_is); (case nn_Channel_hours => k_is); (case nn_Channel_depth => k_is); (case nn_Channel_first => k_is); (case nn_Channel_growth => k_is); (case nn_Channel_most => k_is)
    (case p1_Vessel => k_is); (case p2_Vessel => k_is); (case p3_Vessel => k_is); (case p4_Vessel => k_is); (case nn_Vessel_name => k_is); (case nn_Vessel_port => k_is); (case nn_Vessel_hour => k_is); (case nn_Vessel_strength => k_is)
    (case nn_Vessel_draught => k_is); (case p1_Breaker => k_is); (case p2_Breaker => k_is); (case p3_Breaker => k_is); (case p4_Breaker => k_is); (case nn_Breaker_name => k_is); (case nn_Breaker_port => k_is); (case nn_Breaker_hour => k_is)
    (case nn_Breaker_strength => k_is); (case nn_Breaker_draught => k_is); (case nn_Breaker_cut => k_is); (case p1_Ship => k_is); (case p2_Ship => k_is); (case p3_Ship => k_is); (case p4_Ship => k_is); (case nn_Ship_name => k_is)
    (case nn_Ship_port => k_is); (case nn_Ship_hour => k_is); (case nn_Ship_strength => k_is); (case nn_Ship_draught => k_is); (case nn_Ship_goal => k_is); (case p1_World => k_is); (case p2_World => k_is); (case p3_World => k_is)
    (case p4_World => k_is); (case nn_World_beginning => k_is); (case nn_World_all_ports => k_is); (case nn_World_all_channels => k_is); (case nn_World_all_breakers => k_is); (case nn_World_all_ships => k_is); (case hn_class => k_is); (case ht_class => k_is)
    (case yc_Breaker => k_is); (case yt_Breaker => k_is); (case tf_y_Breaker => first | rfl | k_is); (case yc_Channel => k_is); (case yt_Channel => k_is); (case tf_y_Channel => first | rfl | k_is); (case yc_Ship => k_is); (case yt_Ship => k_is)
    (case tf_y_Ship => first | rfl | k_is); (case id_Channel => k_is); (case in_Channel => k_is); (case ea_Channel => k_is); (case eb_Channel => k_is); (case tf_eo_Channel => first | rfl | k_is); (case tf_o_Channel_int => first | rfl | k_is); (case tf_o_Channel_bool => first | rfl | k_is)
    (case tf_o_Channel_str => first | rfl | k_is); (case tf_o_Channel_list => first | rfl | k_is); (case tf_o_Channel_tuple => first | rfl | k_is); (case tf_o_Channel_dict => first | rfl | k_is); (case tf_k_Channel_Breaker => first | rfl | k_is); (case tf_k_Channel_Channel => first | rfl | k_is); (case tf_k_Channel_Ship => first | rfl | k_is); (case id_Vessel => k_is)
    (case in_Vessel => k_is); (case ea_Vessel => k_is); (case eb_Vessel => k_is); (case tf_eo_Vessel => first | rfl | k_is); (case tf_o_Vessel_int => first | rfl | k_is); (case tf_o_Vessel_bool => first | rfl | k_is); (case tf_o_Vessel_str => first | rfl | k_is); (case tf_o_Vessel_list => first | rfl | k_is)
    (case tf_o_Vessel_tuple => first | rfl | k_is); (case tf_o_Vessel_dict => first | rfl | k_is); (case tf_k_Vessel_Breaker => first | rfl | k_is); (case tf_k_Vessel_Channel => first | rfl | k_is); (case tf_k_Vessel_Ship => first | rfl | k_is); (case id_Breaker => k_is); (case in_Breaker => k_is); (case ea_Breaker => k_is)
    (case eb_Breaker => k_is); (case tf_eo_Breaker => first | rfl | k_is); (case tf_o_Breaker_int => first | rfl | k_is); (case tf_o_Breaker_bool => first | rfl | k_is); (case tf_o_Breaker_str => first | rfl | k_is); (case tf_o_Breaker_list => first | rfl | k_is); (case tf_o_Breaker_tuple => first | rfl | k_is); (case tf_o_Breaker_dict => first | rfl | k_is)
    (case tf_k_Breaker_Breaker => first | rfl | k_is); (case tf_k_Breaker_Channel => first | rfl | k_is); (case tf_k_Breaker_Ship => first | rfl | k_is); (case id_Ship => k_is); (case in_Ship => k_is); (case ea_Ship => k_is); (case eb_Ship => k_is); (case tf_eo_Ship => first | rfl | k_is)
    (case tf_o_Ship_int => first | rfl | k_is); (case tf_o_Ship_bool => first | rfl | k_is); (case tf_o_Ship_str => first | rfl | k_is); (case tf_o_Ship_list => first | rfl | k_is); (case tf_o_Ship_tuple => first | rfl | k_is); (case tf_o_Ship_dict => first | rfl | k_is); (case tf_k_Ship_Breaker => first | rfl | k_is); (case tf_k_Ship_Channel => first | rfl | k_is)
    (case tf_k_Ship_Ship => first | rfl | k_is); (case id_World => k_is); (case in_World => k_is); (case ea_World => k_is); (case eb_World => k_is); (case tf_eo_World => first | rfl | k_is); (case tf_o_World_int => first | rfl | k_is); (case tf_o_World_bool => first | rfl | k_is)
    (case tf_o_World_str => first | rfl | k_is); (case tf_o_World_list => first | rfl | k_is); (case tf_o_World_tuple => first | rfl | k_is); (case tf_o_World_dict => first | rfl | k_is); (case tf_k_World_Breaker => first | rfl | k_is); (case tf_k_World_Channel => first | rfl | k_is); (case tf_k_World_Ship => first | rfl | k_is); (case mm_Breaker => k_is)
    (case mi_Breaker => k_is); (case mf_Breaker => k_is); (case mq_Breaker => k_is); (case mm_Channel => k_is); (case mi_Channel => k_is); (case mf_Channel => k_is); (case mq_Channel => k_is); (case mm_Ship => k_is)
    (case mi_Ship => k_is); (case mf_Ship => k_is); (case mq_Ship => k_is); (case mm_World => k_is); (case mi_World => k_is); (case mf_World => k_is); (case mq_World => k_is); (case ma_Breaker_row => k_is)
    (case mb_Breaker_row => k_is); (case ma_Breaker_settle => k_is); (case mb_Breaker_settle => k_is); (case ma_Channel_row => k_is); (case mb_Channel_row => k_is); (case ma_Ship_row => k_is); (case mb_Ship_row => k_is); (case ma_Ship_settle => k_is)
    (case mb_Ship_settle => k_is); (case ma_Vessel_settle => k_is); (case mb_Vessel_settle => k_is); (case ma_World_begin_hour => k_is); (case mb_World_begin_hour => k_is); (case ma_World_channels => k_is); (case mb_World_channels => k_is); (case ma_World_told => k_is)
    (case mb_World_told => k_is); (case ma_World_vessels => k_is); (case mb_World_vessels => k_is); (case ra_Vessel => k_is); (case gb_Vessel => k_is); (case ra_IceError => k_is); (case gb_IceError => k_is); (case vj_IceError => k_is)
    (case cn_Vessel___init__ => k_is); (case cn_Vessel_row => k_is); (case xl_NoName => k_is); (case xs_NoName => k_is); (case xe_NoName => k_is); (case xt_NoName => k_is); (case xk_NoName => k_is); (case xy_NoName => k_is)
    (case xg_NoName => k_is); (case xh_NoName => k_is); (case xd_NoName => k_is); (case nn_NoName_found => k_is); (case xl_NoNumber => k_is); (case xs_NoNumber => k_is); (case xe_NoNumber => k_is); (case xt_NoNumber => k_is)
    (case xk_NoNumber => k_is); (case xy_NoNumber => k_is); (case xg_NoNumber => k_is); (case xh_NoNumber => k_is); (case xd_NoNumber => k_is); (case nn_NoNumber_found => k_is); (case xl_NoPort => k_is); (case xs_NoPort => k_is)
    (case xe_NoPort => k_is); (case xt_NoPort => k_is); (case xk_NoPort => k_is); (case xy_NoPort => k_is); (case xg_NoPort => k_is); (case xh_NoPort => k_is); (case xd_NoPort => k_is); (case nn_NoPort_found => k_is)
    (case xl_NoChannel => k_is); (case xs_NoChannel => k_is); (case xe_NoChannel => k_is); (case xt_NoChannel => k_is); (case xk_NoChannel => k_is); (case xy_NoChannel => k_is); (case xg_NoChannel => k_is); (case xh_NoChannel => k_is)
    (case xd_NoChannel => k_is); (case nn_NoChannel_found => k_is); (case xl_NoVessel => k_is); (case xs_NoVessel => k_is); (case xe_NoVessel => k_is); (case xt_NoVessel => k_is); (case xk_NoVessel => k_is); (case xy_NoVessel => k_is)
    (case xg_NoVessel => k_is); (case xh_NoVessel => k_is); (case xd_NoVessel => k_is); (case nn_NoVessel_found => k_is); (case xl_NoWorld => k_is); (case xs_NoWorld => k_is); (case xe_NoWorld => k_is); (case xt_NoWorld => k_is)
    (case xk_NoWorld => k_is); (case xy_NoWorld => k_is); (case xg_NoWorld => k_is); (case xh_NoWorld => k_is); (case xd_NoWorld => k_is); (case nn_NoWorld_found => k_is); (case xl_NoTable => k_is); (case xs_NoTable => k_is)
    (case xe_NoTable => k_is); (case xt_NoTable => k_is); (case xk_NoTable => k_is); (case xy_NoTable => k_is); (case xg_NoTable => k_is); (case xh_NoTable => k_is); (case xd_NoTable => k_is); (case nn_NoTable_found => k_is)
    (case xl_Doubled => k_is); (case xs_Doubled => k_is); (case xe_Doubled => k_is); (case xt_Doubled => k_is); (case xk_Doubled => k_is); (case xy_Doubled => k_is); (case xg_Doubled => k_is); (case xh_Doubled => k_is)
    (case xd_Doubled => k_is); (case nn_Doubled_name => k_is); (case xe_IceError => k_is); (case xt_IceError => k_is); (case xc_IceError => k_is); (case tf_NoName_IceError => first | rfl | k_is); (case tf_NoNumber_IceError => first | rfl | k_is); (case tf_NoPort_IceError => first | rfl | k_is)
    (case tf_NoChannel_IceError => first | rfl | k_is); (case tf_NoVessel_IceError => first | rfl | k_is); (case tf_NoWorld_IceError => first | rfl | k_is); (case tf_NoTable_IceError => first | rfl | k_is); (case tf_Doubled_IceError => first | rfl | k_is); (case xc_NoNumber => k_is); (case tf_NoName_NoNumber => first | rfl | k_is); (case tf_NoNumber_NoNumber => first | rfl | k_is)
    (case tf_NoPort_NoNumber => first | rfl | k_is); (case tf_NoChannel_NoNumber => first | rfl | k_is); (case tf_NoVessel_NoNumber => first | rfl | k_is); (case tf_NoWorld_NoNumber => first | rfl | k_is); (case tf_NoTable_NoNumber => first | rfl | k_is); (case tf_Doubled_NoNumber => first | rfl | k_is)
