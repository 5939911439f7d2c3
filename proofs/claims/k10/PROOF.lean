import PyProof.Rows.All
import HandS.SortInts
import HandS.SetFor
import HandS.TupMul
import Wide.All
import OpenK.AllK
import Wide.FinOn
import HandS.ForMost
import HandS.Exc
import HandS.TryOnly
import HandS.ExcOwn
import HandS.WordsExc
import HandS.IsInst
import HandS.Style
import HandS.Codes
import HandS.Wide
import HandS.TupAny
import HandS.EndBits
import KE.IntTextLaws
import HandS.NoneIn
import HandS.More
import HandS.Walk
import HandS.ExcInit
import HandS.ExcField
import HandS.ClsMeth
import HandS.TryMany
import PySem.Challenge.RW_iceopened_k10_trains
set_option Elab.async false
set_option autoImplicit false
set_option linter.all false
set_option maxRecDepth 100000
set_option maxHeartbeats 4000000
/-! ### P0: more rules over the hand layer, and a tactic for readings (walk_at "rd") -/
namespace My
open PySem PySem.Spec PyProof.Rows L2

/-! #### values that repr shows without looking into the heap -/
def shown0 : V → Option Str
  | .non => some "None"
  | .bl b => some (if b then "True" else "False")
  | .int i => if i.natAbs.log2 < 1920 then some (toString i) else none
  | .str x => if (reprText x).length ≤ sizeLine then some (reprText x) else none
  | _ => none
def rRepr0 : List V → Hp → VK → Prop := fun xs H Q => ∃ v t, xs = [v] ∧ shown0 v = some t ∧ Q (.str t) H
section
variable {X : Cx}
theorem call_repr0 : CallR X (.builtin "repr") rRepr0 := by
  intro pins s σ H xs us Q I r h
  obtain ⟨v, t, rfl, e, q⟩ := h
  obtain ⟨u, rfl, r1⟩ := vals1 r
  cases v with
  | non =>
    cases (show u = Value.none from r1)
    cases e
    exact PySem.P.repr_of_none ⟨.str _, H, I.tok _, ⟨_, rfl⟩, q⟩
  | bl b =>
    cases (show u = Value.bool b from r1)
    cases e
    exact PySem.P.repr_of_bool ⟨.str _, H, I.tok _, ⟨_, rfl⟩, q⟩
  | int i =>
    obtain ⟨t', rfl⟩ := (show ∃ t, u = Value.int i t from r1)
    have e' : (if i.natAbs.log2 < 1920 then some (toString i : Str) else none) = some t := e
    split at e'
    · rename_i hz
      cases e'
      exact PySem.P.repr_of_int hz ⟨.str _, H, I.tok _, ⟨_, rfl⟩, q⟩
    · cases e'
  | str x =>
    obtain ⟨t', rfl⟩ := (show ∃ t, u = Value.str x t from r1)
    have e' : (if (reprText x).length ≤ sizeLine then some (reprText x) else none) = some t := e
    split at e'
    · rename_i hz
      cases e'
      exact PySem.P.repr_of_str ⟨.str _, H, I.tok _, ⟨_, rfl⟩, q⟩ hz
    · cases e'
  | byt _ => cases e
  | flt _ => cases e
  | ref _ => cases e
  | ty _ => cases e

/-! #### a text times a small number -/
def rRepS : R2 := fun x y H Q => ∃ a n, x = .str a ∧ y = .int n ∧ MulOk a n ∧ Q (.str (Txt.mul a n)) H
theorem op_repS : OpR X (binaryOp .Mult) rRepS := by
  intro pins s σ H x y v u Q I rx ry h
  obtain ⟨a, n, rfl, rfl, hm, q⟩ := h
  obtain ⟨t, rfl⟩ := rx
  obtain ⟨t', rfl⟩ := ry
  exact SB.mul hm fun t2 k => ⟨.str _, H, I.tok k, ⟨_, rfl⟩, q⟩
end

/-! #### rules with the written part named -/
section
variable {X : Cx} {K : PySem.W.Frag}
theorem ixK (h : X.K = K) : IxR X (rIx K) := h ▸ ix_seq
theorem ixLK (h : X.K = K) : IxR X (rIxL K) := h ▸ ix_list
theorem ixTK (h : X.K = K) : IxR X (rIxT K) := h ▸ ix_tup
def rLenA (K : PySem.W.Frag) : List V → Hp → VK → Prop := fun xs H Q => ∃ x n, xs = [x] ∧ LenV K x H n ∧ Q (.int n) H
theorem lenK (h : X.K = K) : CallR X (.builtin "len") (rLenA K) := h ▸ call_len
theorem isiK (h : X.K = K) : CallR X (.builtin "isinstance") (rIsi K) := h ▸ call_isi
theorem isiTK (h : X.K = K) : CallR X (.builtin "isinstance") (rIsiT K) := h ▸ call_isiT
theorem allK (h : X.K = K) (hc : X.calm = true) : CallR X (.builtin "all") (rAll K) := h ▸ cr_all hc
theorem anyK (h : X.K = K) (hc : X.calm = true) : CallR X (.builtin "any") (rAny K) := h ▸ cr_any hc
def rInt1 : List V → Hp → VK → Prop := fun xs H Q => (∃ i, xs = [.int i] ∧ Q (.int i) H) ∨ ∃ k, xs = [.bl k] ∧ Q (.int (if k then 1 else 0)) H
theorem int1 : CallR X (.type "int") rInt1 := call_int1
theorem slTK (h : X.K = K) : SlR X (rSlA K) := h ▸ sl_tupA
theorem eqDK (h : X.K = K) (hu : X.A.units + 64 < cLine) : OpR X (compareOp .Eq) (rEqD K) := h ▸ op_eqD hu
theorem neDK (h : X.K = K) (hu : X.A.units + 64 < cLine) : OpR X (compareOp .NotEq) (rNeD K) := h ▸ op_neD hu
theorem catAK (h : X.K = K) : OpR X (binaryOp .Add) (rCatA K) := h ▸ op_catA
theorem inSeqK (h : X.K = K) : OpR X (compareOp .In) (rIn K false) := h ▸ op_in_seq
theorem notInSeqK (h : X.K = K) : OpR X (compareOp .NotIn) (rIn K true) := h ▸ op_notIn_seq
theorem slLK (h : X.K = K) : SlR X (rSlL K) := h ▸ sl_list
theorem pi_listK {tg l : Expr} {tl : TE} (h : X.K = K) (hl : PE X l tl) : PI X tg l (iList K tl) := h ▸ pi_list hl
theorem pi_tupK {tg l : Expr} {tl : TE} (h : X.K = K) (hl : PE X l tl) : PI X tg l (iTup K tl) := h ▸ pi_tup hl
theorem pe_revLK {e : Expr} {te : TE} {k : Nat} {p1 p2 p3 pos : Pos} (h : X.K = K) (he : PE X e te) : PE X (.Subscript e (.Slice none none (some (.UnaryOp .USub (.Constant (.int 1) k p1) p2)) p3) pos) (tRevL K te) := h ▸ pe_revL he
def rAddSt : R2 := fun x y H Q => ∃ i j, x = .str i ∧ y = .str j ∧ i.length + j.length ≤ sizeLine ∧ Q (.str (i ++ j)) H
theorem addS : OpR X (binaryOp .Add) rAddSt := op_add_str
def rInSg : R2 := fun x y H Q => ∃ (c : Nat) (z : Str), x = .str ⟨#[c]⟩ ∧ y = .str z ∧ Q (.bl (decide (c ∈ z.cps.toList))) H
theorem inSg : OpR X (compareOp .In) rInSg := op_in_sign
def rNotInSg : R2 := fun x y H Q => ∃ (c : Nat) (z : Str), x = .str ⟨#[c]⟩ ∧ y = .str z ∧ Q (.bl (!decide (c ∈ z.cps.toList))) H
theorem notInSg : OpR X (compareOp .NotIn) rNotInSg := op_notIn_sign
def rIntS : List V → Hp → VK → Prop := fun xs H Q => ∃ a n, xs = [.str a] ∧ PySem.intText? a = some n ∧ a.length ≤ 640 ∧ Q (.int n) H
theorem intS : CallR X (.type "int") rIntS := call_int_str
def rStrI : List V → Hp → VK → Prop := fun xs H Q => ∃ i : Int, xs = [.int i] ∧ i.natAbs.log2 < 1920 ∧ Q (.str (toString i)) H
theorem strI : CallR X (.type "str") rStrI := call_str_int
def rMax2 : List V → Hp → VK → Prop := fun xs H Q => ∃ i j, xs = [.int i, .int j] ∧ Q (.int (if j > i then j else i)) H
theorem max2 (hc : X.calm = true) : CallR X (.builtin "max") rMax2 := call_max2 hc
def rMin2 : List V → Hp → VK → Prop := fun xs H Q => ∃ i j, xs = [.int i, .int j] ∧ Q (.int (if j < i then j else i)) H
theorem min2 (hc : X.calm = true) : CallR X (.builtin "min") rMin2 := call_min2 hc
def rFind : V → List V → Hp → VK → Prop := fun x xs H Q => ∃ a b, x = .str a ∧ xs = [.str b] ∧ Q (.int (Txt.find a b)) H
theorem findS : MtR X "str.find" rFind := mt_find
/-- is True, is False, of anything -/
def rIsBA : R2 := fun x y H Q => ∃ b, y = .bl b ∧ Q (.bl (decide (x = .bl b))) H
theorem isBA : OpR X (compareOp .Is) rIsBA := by
  intro pins s σ H x y v u Q I rx ry h
  obtain ⟨b, rfl, q⟩ := h
  cases (show u = Value.bool b from ry)
  have no : ∀ z : V, z ≠ .bl b → Q (.bl (decide (z = .bl b))) H → Q (.bl false) H := fun z hz q => by
    rw [decide_eq_false hz] at q
    exact q
  cases x with
  | bl a =>
    cases (show v = Value.bool a from rx)
    by_cases e : a = b
    · subst e
      exact wpAny_is_self rfl ⟨.bl true, H, I, rfl, by simpa using q⟩
    · exact wpAny_is_other rfl (fun z => e (Value.bool.inj z)) ⟨.bl false, H, I, rfl, by simpa [e] using q⟩
  | non => cases (show v = Value.none from rx); exact wpAny_is_other rfl (fun z => by cases z) ⟨.bl false, H, I, rfl, no _ (fun z => by cases z) q⟩
  | int i => obtain ⟨t, rfl⟩ := (show ∃ t, v = Value.int i t from rx); exact wpAny_is_other rfl (fun z => by cases z) ⟨.bl false, H, I, rfl, no _ (fun z => by cases z) q⟩
  | str i => obtain ⟨t, rfl⟩ := (show ∃ t, v = Value.str i t from rx); exact wpAny_is_other rfl (fun z => by cases z) ⟨.bl false, H, I, rfl, no _ (fun z => by cases z) q⟩
  | byt i => obtain ⟨t, rfl⟩ := (show ∃ t, v = Value.bytes i t from rx); exact wpAny_is_other rfl (fun z => by cases z) ⟨.bl false, H, I, rfl, no _ (fun z => by cases z) q⟩
  | flt i => obtain ⟨t, rfl⟩ := (show ∃ t, v = Value.float i t from rx); exact wpAny_is_other rfl (fun z => by cases z) ⟨.bl false, H, I, rfl, no _ (fun z => by cases z) q⟩
  | ref a => cases (show v = Value.ref a from rx); exact wpAny_is_other rfl (fun z => by cases z) ⟨.bl false, H, I, rfl, no _ (fun z => by cases z) q⟩
  | ty n => cases (show v = Value.type n from rx); exact wpAny_is_other rfl (fun z => by cases z) ⟨.bl false, H, I, rfl, no _ (fun z => by cases z) q⟩
def rJoin (K : PySem.W.Frag) : V → List V → Hp → VK → Prop := fun x xs H Q => ∃ a p, ∃ ys : List Str, x = .str a ∧ xs = [.ref p] ∧ (SqL K H p (ys.map V.str) ∨ SqT K H p (ys.map V.str)) ∧ (ys.map (·.length)).sum + ys.length * a.length ≤ 16777216 ∧ Q (.str (Txt.join a ys)) H
theorem pe_joinK {o e : Expr} {to te : TE} {pos apos : Pos} (h : X.K = K) (ho : PE X o to) (he : PE X e te) (hs : starEach [e] X.env = [(false, eval e X.env)] := by rfl) (hbase : attributeBase o "join" X.env (eval o X.env) = eval o X.env := by rfl)
    (hline : (apos.endLine == pos.line) = true := by rfl) : PE X (.Call (.Attribute o "join" apos) [e] [] pos) (tM1 (rJoin K) to te) := by
  subst h
  exact pe_join ho he hs hbase hline
end

/-! #### a list that is set aside while an expression is evaluated -/
/-- the heap without what stands at D -/
def Wo (D : Addr) (H : Hp) : Hp := fun b => if b = D then none else H b
theorem wo_same {D : Addr} {H : Hp} : Wo D H D = none := if_pos rfl
theorem wo_ne {D b : Addr} {H : Hp} (h : b ≠ D) : Wo D H b = H b := if_neg h
theorem wo_upd {D : Addr} {H : Hp} {o : HO} (h : H D = none) : Wo D (upd H D o) = H := by
  funext b
  by_cases e : b = D
  · subst e
    rw [wo_same, h]
  · rw [wo_ne e, upd_ne e]
def tFrm (te : TE) : TE := fun σ H Q => ∃ (D : Addr) (xs : List V), H D = some (.lst xs) ∧ te σ (Wo D H) fun v H' => H' D = none → Q v (upd H' D (.lst xs))
theorem pe_frm {X : Cx} {e : Expr} {te : TE} (he : PE X e te) : PE X e (tFrm te) := by
  refine ⟨fun pins s σ H Q I h => ?_⟩
  obtain ⟨D, xs, hD, h⟩ := h
  obtain ⟨hz, its, n, rv, hg⟩ := (show ObjOk X.prog X.w H s.heap D (.lst xs) from I.hok D _ hD)
  have nD : ∀ b, H b = none → b ≠ D := fun b hb e => by rw [e, hD] at hb; cases hb
  have nO : ∀ b o, H b = some o → o ≠ .lst xs → b ≠ D := fun b o hb ho e => by rw [e, hD] at hb; exact ho (Option.some.inj hb).symm
  have I2 : Inv X ((D, { cls := .type "list", data := .seq its.toArray n }) :: pins) σ (Wo D H) s := by
    refine ⟨I.ok, I.os, I.bare, ⟨I.base.keep, I.base.slot, fun b o e1 e2 e3 => ?_, I.base.there, fun b ys e => ?_, fun b o u e => ?_, fun b ps e => ?_⟩, I.loc, I.cell, ?_, fun x c e => ?_, fun p hp => ?_, fun a o e => ?_, I.len⟩
    · have q := I.base.free b o e1 e2 e3
      rw [wo_ne (nD b q)]
      exact q
    · have q := I.base.tups b ys e
      rw [wo_ne (nO b _ q (fun z => by cases z))]
      exact q
    · have q := I.base.frzs b o u e
      rw [wo_ne (nO b _ q (fun z => by cases z))]
      exact q
    · obtain ⟨m, q⟩ := I.base.tbls b ps e
      exact ⟨m, by rw [wo_ne (nO b _ q (fun z => by cases z))]; exact q⟩
    · rw [wo_ne (nD _ I.free)]
      exact I.free
    · rw [wo_ne (nD _ (I.freeC x c e))]
      exact I.freeC x c e
    · have old : ∀ p ∈ X.pn ++ pins, s.heap.get? p.1 = some p.2 ∧ Wo D H p.1 = none ∧ p.1 ≠ X.env.locals ∧ p.1 ∉ X.fs ∧ ∀ v, p.2.data ≠ .cell v := fun p hp => by
        obtain ⟨a1, a2, a3, a4, a5⟩ := I.pin p hp
        exact ⟨a1, by rw [wo_ne (nD _ a2)]; exact a2, a3, a4, a5⟩
      rcases List.mem_append.mp hp with hp | hp
      · exact old p (List.mem_append_left _ hp)
      · rcases List.mem_cons.mp hp with rfl | hp
        · refine ⟨hg, wo_same, fun z => nD _ I.free z.symm, fun z => ?_, fun v z => by cases z⟩
          by_cases hf : H D = none
          · rw [hD] at hf
            cases hf
          · obtain ⟨_, ob, ho, _⟩ := I.ok.funs.mem z
            exact hf (I.base.free D ob ho (I.ok.frf D z) fun y => I.ok.exfs D y z)
        · exact old p (List.mem_append_right _ hp)
    · by_cases ha : a = D
      · subst ha
        rw [wo_same] at e
        cases e
      · rw [wo_ne ha] at e
        refine (I.hok a o e).stay (fun b u _ q => q) (fun b q => ?_) fun b ys q => ?_
        · rw [wo_ne (nO b _ q (fun z => by cases z))]
          exact q
        · rw [wo_ne (nO b _ q (fun z => by cases z))]
          exact q
  refine thn (he.run _ s σ (Wo D H) _ I2 h) fun u s1 hh => ?_
  obtain ⟨v, H', I', r, q⟩ := hh
  obtain ⟨p1, p2, p3, p4, _⟩ := I'.pin (D, { cls := .type "list", data := .seq its.toArray n }) (List.mem_append_right _ List.mem_cons_self)
  have p1 : s1.heap.get? D = some { cls := .type "list", data := .seq its.toArray n } := p1
  have p2 : H' D = none := p2
  have mD : ∀ b o, H' b = some o → b ≠ D := fun b o e z => by rw [z, p2] at e; cases e
  refine ⟨v, upd H' D (.lst xs), ⟨I'.ok, I'.os, I'.bare, ⟨I'.base.keep, I'.base.slot, fun b o e1 e2 e3 => ?_, I'.base.there, fun b ys e => ?_, fun b o u e => ?_, fun b ps e => ?_⟩, I'.loc, I'.cell, ?_, fun x c e => ?_, fun p hp => ?_, fun a o e => ?_, I'.len⟩, r, q p2⟩
  · rw [upd_ne (nD _ (I.base.free b o e1 e2 e3))]
    exact I'.base.free b o e1 e2 e3
  · have z := I'.base.tups b ys e
    rw [upd_ne (mD _ _ z)]
    exact z
  · have z := I'.base.frzs b o u e
    rw [upd_ne (mD _ _ z)]
    exact z
  · obtain ⟨m, z⟩ := I'.base.tbls b ps e
    exact ⟨m, by rw [upd_ne (mD _ _ z)]; exact z⟩
  · rw [upd_ne (fun z => p3 z.symm)]
    exact I'.free
  · rw [upd_ne (nD _ (I.freeC x c e))]
    exact I'.freeC x c e
  · obtain ⟨a1, a2, a3, a4, a5⟩ := I'.pin p (by
      rcases List.mem_append.mp hp with hp | hp
      · exact List.mem_append_left _ hp
      · exact List.mem_append_right _ (List.mem_cons_of_mem _ hp))
    exact ⟨a1, by rw [upd_ne (nD _ (I.pin p hp).2.1)]; exact a2, a3, a4, a5⟩
  · by_cases ha : a = D
    · subst ha
      rw [upd_same] at e
      cases e
      exact ⟨hz, its, n, rv, p1⟩
    · rw [upd_ne ha] at e
      refine (I'.hok a o e).stay (fun b u _ q => q) (fun b z => ?_) fun b ys z => ?_
      · rw [upd_ne (mD _ _ z)]
        exact z
      · rw [upd_ne (mD _ _ z)]
        exact z

/-! #### readings, one step each -/
section
variable {K : PySem.W.Frag} {σ : L2.St} {H : Hp} {i : Nat} {v x y : V} {Q : VK} {r : R2} {ta tb te : TE} {D : Ends} {t u : TS} {tt tu : TT} {g : TG} {tr : TA}
theorem rd_var (h : σ[i]? = some (some v)) (q : Q v H) : tVar i σ H Q := ⟨v, h, q⟩
theorem rd_c (q : Q v H) : tC v σ H Q := q
theorem rd_op (h : ta σ H fun x H1 => tb σ H1 fun y H2 => r x y H2 Q) : tOp r ta tb σ H Q := h
theorem rd_seq (h : t { D with nx := u D } σ H) : tSeq t u D σ H := h
theorem rd_asg (h : te σ H fun x H1 => g x σ H1 D.nx) : tAsg te g D σ H := h
theorem rd_name {P : L2.St → Hp → Prop} (h : P (σ.set i (some v)) H) : gName i v σ H P := h
theorem rd_aug {ti : TIp} (h : σ[i]? = some (some v)) (q : te σ H fun y H1 => ti v y H1 fun z H2 => D.nx (σ.set i (some z)) H2) : tAug i te ti D σ H := ⟨v, h, q⟩
theorem rd_ipI {f : Int → Int → Int} {a b : Int} (q : Q (.int (f a b)) H) : ipI f (.int a) (.int b) H Q := ⟨a, b, rfl, rfl, q⟩
theorem rd_next (h : D.nx σ H) : tNext D σ H := h
theorem rd_ret (h : te σ H D.rt) : tRet te D σ H := h
theorem rd_retN (h : D.rt .non H) : tRetN D σ H := h
theorem rd_drop (h : te σ H fun _ H1 => D.nx σ H1) : tDrop te D σ H := h
theorem rd_ifS {tc : TT} (h : tc σ H fun b H1 => if b = true then t D σ H1 else u D σ H1) : tIfS tc t u D σ H := h
theorem rd_if {tc : TT} (h : tc σ H fun c H1 => if c = true then ta σ H1 Q else tb σ H1 Q) : tIf tc ta tb σ H Q := h
theorem rd_test {P : Bool → Hp → Prop} (h : te σ H fun x H' => ∃ k, x = .bl k ∧ P k H') : tTest te σ H P := h
theorem rd_B {P : Bool → Hp → Prop} (h : te σ H fun x H' => ∃ k, x = .bl k ∧ P k H') : tB te σ H P := h
theorem rd_not {P : Bool → Hp → Prop} (h : tt σ H fun c H1 => P (!c) H1) : tNot tt σ H P := h
theorem rd_and {P : Bool → Hp → Prop} (h : tt σ H fun c H1 => if c = true then tu σ H1 P else P false H1) : tAnd tt tu σ H P := h
theorem rd_or {P : Bool → Hp → Prop} (h : tt σ H fun c H1 => if c = true then P true H1 else tu σ H1 P) : tOr tt tu σ H P := h
theorem rd_nil {P : List V → Hp → Prop} (h : P [] H) : tNil σ H P := h
theorem rd_cons {P : List V → Hp → Prop} (h : te σ H fun x H1 => tr σ H1 fun xs H2 => P (x :: xs) H2) : tCons te tr σ H P := h
theorem rd_cb {rr : List V → Hp → VK → Prop} (h : tr σ H fun vs H1 => rr vs H1 Q) : tCB rr tr σ H Q := h
theorem rd_call {sp : Sp} {dvs : List V} {E : XK} (h : tr σ H fun vs H1 => sp (vs ++ dvs) H1 Q E) : tCall sp dvs E tr σ H Q := h
theorem rd_I0 {f : Int → Int → V} {a b : Int} (h : Q (f a b) H) : rI0 f (.int a) (.int b) H Q := ⟨a, b, rfl, rfl, h⟩
theorem rd_I {C : Int → Int → Prop} {f : Int → Int → V} {a b : Int} (hc : C a b) (h : Q (f a b) H) : rI C f (.int a) (.int b) H Q := ⟨a, b, rfl, rfl, hc, h⟩
theorem rd_eq (h : scal x y = true) (q : Q (.bl (decide (x = y))) H) : rEq x y H Q := ⟨h, q⟩
theorem rd_ne (h : scal x y = true) (q : Q (.bl (!decide (x = y))) H) : rNe x y H Q := ⟨h, q⟩
theorem rd_ex_bl {P : Bool → Prop} {b : Bool} (h : P b) : ∃ k, V.bl b = V.bl k ∧ P k := ⟨b, rfl, h⟩
theorem rd_un {rr : V → Hp → VK → Prop} (h : ta σ H fun x H1 => rr x H1 Q) : tUn rr ta σ H Q := h
theorem rd_U {f : Int → V} {a : Int} (h : Q (f a) H) : rU f (.int a) H Q := ⟨a, rfl, h⟩
theorem rd_chain {r' : R2} {tc : TE} (h : ta σ H fun x H1 => tb σ H1 fun y H2 => r x y H2 fun z H3 => ∃ k, z = .bl k ∧ (if k = true then tc σ H3 fun w' H4 => r' y w' H4 Q else Q (.bl false) H3)) : tChain r r' ta tb tc σ H Q := h
/-- what a new list, a new tuple hands on -/
def LstK (Q : VK) : List V → Hp → Prop := fun xs H1 => xs.length ≤ sizeLine ∧ ∀ p, H1 p = none → Q (.ref p) (upd H1 p (.lst xs))
def TupK (Q : VK) : List V → Hp → Prop := fun xs H1 => xs.length ≤ sizeLine ∧ ∀ p, H1 p = none → Q (.ref p) (upd H1 p (.tup xs))
theorem rd_lst (h : tr σ H (LstK Q)) : tLst tr σ H Q := h
theorem rd_tup (h : tr σ H (TupK Q)) : tTup tr σ H Q := h
theorem rd_andV (h : ta σ H fun x H1 => ∃ c, x = .bl c ∧ if c = true then tb σ H1 Q else Q (.bl false) H1) : tAndV ta tb σ H Q := h
theorem rd_orV (h : ta σ H fun x H1 => ∃ c, x = .bl c ∧ if c = true then Q (.bl true) H1 else tb σ H1 Q) : tOrV ta tb σ H Q := h
theorem rd_notV (h : ta σ H fun x H1 => ∃ c, x = .bl c ∧ Q (.bl (!c)) H1) : tNotV ta σ H Q := h
theorem rd_sub {tt3 : V → V → V → Hp → (Hp → Prop) → Prop} {P : L2.St → Hp → Prop} (h : ta σ H fun o H1 => tb σ H1 fun i H2 => tt3 o i v H2 fun H3 => P σ H3) : gSub ta tb tt3 v σ H P := h
theorem rd_ite {c : Prop} [Decidable c] {A B : Prop} (h1 : c → A) (h2 : ¬ c → B) : if c then A else B := ite2 h1 h2
theorem rd_iteD {c : Prop} [Decidable c] {A B : Prop} (h1 : c → A) (h2 : ¬ c → B) : if decide c = true then A else B := by
  by_cases h : c
  · rw [if_pos (decide_eq_true h)]; exact h1 h
  · rw [if_neg (by simpa using h)]; exact h2 h
theorem rd_iteN {b : Bool} {A B : Prop} (h : if b = true then B else A) : if (!b) = true then A else B := by
  cases b with
  | true => exact iteF (by simpa using h)
  | false => exact iteT (by simpa using h)
theorem rd_iteND {c : Prop} [Decidable c] {A B : Prop} (h1 : c → B) (h2 : ¬ c → A) : if (!decide c) = true then A else B := rd_iteN (rd_iteD h1 h2)
theorem rd_ixL {xs : List V} {p : Addr} {k : Int} (h : SqL K H p xs) (ha : atI xs k = some v) (q : Q v H) : rIx K (.ref p) (.int k) H Q := .inl ⟨p, xs, k, v, rfl, rfl, h, ha, q⟩
theorem rd_ixL1 {xs : List V} {p : Addr} {k : Int} (h : SqL K H p xs) (ha : atI xs k = some v) (q : Q v H) : rIxL K (.ref p) (.int k) H Q := ⟨p, xs, k, v, rfl, rfl, h, ha, q⟩
theorem rd_ixT {xs : List V} {p : Addr} {k : Int} (h : SqT K H p xs) (ha : atI xs k = some v) (q : Q v H) : rIx K (.ref p) (.int k) H Q := .inr (.inl ⟨p, xs, k, v, rfl, rfl, h, ha, q⟩)
theorem rd_ixT1 {xs : List V} {p : Addr} {k : Int} (h : SqT K H p xs) (ha : atI xs k = some v) (q : Q v H) : rIxT K (.ref p) (.int k) H Q := ⟨p, xs, k, v, rfl, rfl, h, ha, q⟩
theorem rd_ixS {z : Str} {k : Int} {c : Nat} (h : z.length ≤ sizeLine) (ha : atI z.cps.toList k = some c) (q : Q (.str ⟨#[c]⟩) H) : rIx K (.str z) (.int k) H Q := .inr (.inr ⟨z, k, c, rfl, rfl, h, ha, q⟩)
theorem rd_ixS1 {z : Str} {k : Int} {c : Nat} (h : z.length ≤ sizeLine) (ha : atI z.cps.toList k = some c) (q : Q (.str ⟨#[c]⟩) H) : rIxS (.str z) (.int k) H Q := ⟨z, k, c, rfl, rfl, h, ha, q⟩
theorem rd_modA {i j : Int} (hj : 0 < j) (q : ∀ r, 0 ≤ r → r < j → Q (.int r) H) : rI (fun _ j => 0 < j) (fun i j => .int (i % j)) (.int i) (.int j) H Q :=
  ⟨i, j, rfl, rfl, hj, q _ (Int.emod_nonneg _ (by omega)) (Int.emod_lt_of_pos _ hj)⟩
theorem rd_setL {p : Addr} {xs : List V} {k : Int} {j : Nat} {P : Hp → Prop} (h : H p = some (.lst xs)) (hj : ixN xs.length k = some j) (q : P (upd H p (.lst (xs.set j v)))) : rSetL (.ref p) (.int k) v H P := ⟨p, xs, k, j, rfl, rfl, h, hj, q⟩
theorem rd_isi {t n : String} {b : Bool} (ty : TyX K H v (.type t)) (k : kitB t n = some b) (q : Q (.bl b) H) : rIsi K [v, .ty n] H Q := ⟨v, .ty n, _, _, b, rfl, ClsV.ty n, ty, kit_ty k, q⟩
theorem rd_lenS {z : Str} (h : z.length ≤ sizeLine) (q : Q (.int (z.length : Nat)) H) : rLenA K [.str z] H Q := ⟨_, _, rfl, ⟨h, rfl⟩, q⟩
theorem rd_lenL {p : Addr} {xs : List V} (h : SqL K H p xs) (q : Q (.int (xs.length : Nat)) H) : rLenA K [.ref p] H Q := ⟨_, _, rfl, .inl ⟨_, h, rfl⟩, q⟩
theorem rd_lenT {p : Addr} {xs : List V} (h : SqT K H p xs) (q : Q (.int (xs.length : Nat)) H) : rLenA K [.ref p] H Q := ⟨_, _, rfl, .inr ⟨_, h, rfl⟩, q⟩
theorem rd_inS {z : Str} {c : Nat} (q : Q (.bl (decide (c ∈ z.cps.toList))) H) : rInSg (.str ⟨#[c]⟩) (.str z) H Q := ⟨c, z, rfl, rfl, q⟩
theorem rd_notInS {z : Str} {c : Nat} (q : Q (.bl (!decide (c ∈ z.cps.toList))) H) : rNotInSg (.str ⟨#[c]⟩) (.str z) H Q := ⟨c, z, rfl, rfl, q⟩
theorem rd_max2 {a b : Int} (q : ∀ c : Int, (c = a ∧ b ≤ a ∨ c = b ∧ a < b) → Q (.int c) H) : rMax2 [.int a, .int b] H Q := ⟨a, b, rfl, q _ (by by_cases h : b > a <;> simp [h] <;> omega)⟩
theorem rd_min2 {a b : Int} (q : ∀ c : Int, (c = a ∧ a ≤ b ∨ c = b ∧ b < a) → Q (.int c) H) : rMin2 [.int a, .int b] H Q := ⟨a, b, rfl, q _ (by by_cases h : b < a <;> simp [h] <;> omega)⟩
theorem rd_find {a b : Str} (q : Q (.int (Txt.find a b)) H) : rFind (.str a) [.str b] H Q := ⟨a, b, rfl, rfl, q⟩
theorem rd_m1 {rr : V → List V → Hp → VK → Prop} (h : ta σ H fun x H1 => (∃ a, x = .str a) ∧ tb σ H1 fun y H2 => rr x [y] H2 Q) : tM1 rr ta tb σ H Q := h
theorem rd_exStr {a : Str} {B : Prop} (h : B) : (∃ b, V.str a = V.str b) ∧ B := ⟨⟨a, rfl⟩, h⟩
theorem small_sz {n : Nat} (h : n ≤ 100000) : n ≤ sizeLine := Nat.le_trans h (by decide)
/-- what a comprehension's turn hands on: the list at D has one more item -/
def LcK (n : Nat) (D : Addr) (Pv : Nat → List V → Hp → Prop) (i : Nat) : VK := fun y H4 => ∃ acc, H4 D = some (.lst acc) ∧ acc.length < sizeLine ∧ ∃ acc', acc'.length = i + 1 ∧ (upd H4 D (.lst (acc ++ [y]))) D = some (.lst acc') ∧ Pv (i + 1) acc' (upd H4 D (.lst (acc ++ [y])))
theorem lcK {n : Nat} {D : Addr} {Pv : Nat → List V → Hp → Prop} {i : Nat} {y : V} {H4 : Hp} {acc : List V} (h : H4 D = some (.lst acc)) (hl : acc.length = i) (hn : i < n) (hz : n ≤ 100000) (hp : Pv (i + 1) (acc ++ [y]) (upd H4 D (.lst (acc ++ [y])))) : LcK n D Pv i y H4 :=
  ⟨acc, h, Nat.lt_of_lt_of_le (show acc.length < 100000 by omega) (by decide), acc ++ [y], by rw [List.length_append, hl]; rfl, upd_same, hp⟩
theorem lc_yes {J : It} {n : Nat} {G : Hp → Prop} {Y : Nat → Hp → V → Hp → Prop} (w : Walk J n G Y) {te : TE} {vs : List Nat} {σ : L2.St} {H1 : Hp} {D : Addr} {Qd : Hp → Prop} (Pv : Nat → List V → Hp → Prop) (h0 : Pv 0 [] (upd H1 D (.lst [])))
    (hG : ∀ i acc H, i ≤ n → Pv i acc H → G H)
    (hs : ∀ i x acc H H', i < n → acc.length = i → H D = some (.lst acc) → Pv i acc H → Y i H x H' → g x (wipe σ vs) H' fun σ2 H2 => wipe σ2 vs = wipe σ vs ∧ te σ2 H2 (LcK n D Pv i))
    (hd : ∀ acc H, acc.length = n → H D = some (.lst acc) → Pv n acc H → Qd H) :
    ∃ W : Nat → Nat → Hp → Prop, (∃ m, W 0 m (upd H1 D (.lst []))) ∧ ∀ i m H, W i m H →
      (J.stop i H ∧ Qd H) ∨ (J.go i H ∧ ∃ Nx : Hp → Prop, (∀ H', Nx H' → ∃ m', m' < m ∧ W (i + 1) m' H') ∧ ∀ x H', J.yld i H x H' → g x (wipe σ vs) H' fun σ2 H2 => wipe σ2 vs = wipe σ vs ∧ tYes σ2 H2 fun b H3 =>
        if b = true then te σ2 H3 fun y H4 => ∃ acc, H4 D = some (.lst acc) ∧ acc.length < sizeLine ∧ Nx (upd H4 D (.lst (acc ++ [y]))) else Nx H3) :=
  lc_it w (fun i H => ∃ acc, acc.length = i ∧ H D = some (.lst acc) ∧ Pv i acc H) ⟨[], rfl, upd_same, h0⟩ (fun i H hi ⟨acc, _, _, p⟩ => hG i acc H hi p)
    (fun i x H H' hi ⟨acc, hl, hD, p⟩ y => hs i x acc H H' hi hl hD p y) (fun H ⟨acc, hl, hD, p⟩ => hd acc H hl hD p)
/-! what is walked, comprehensions, loops -/
def Rng1K (R : It → Hp → Prop) : List V → Hp → Prop := fun vs H1 => ∃ j : Int, vs = [.int j] ∧ -(2 ^ 62) ≤ j ∧ j < 2 ^ 62 ∧ R (Itr 0 j.toNat) H1
def Rng2K (R : It → Hp → Prop) : List V → Hp → Prop := fun vs H1 => ∃ i j : Int, vs = [.int i, .int j] ∧ (-(2 ^ 62) ≤ i ∧ i < 2 ^ 62 ∧ -(2 ^ 62) ≤ j ∧ j < 2 ^ 62) ∧ R (Itr i (j - i).toNat) H1
def LstIt (K : PySem.W.Frag) (R : It → Hp → Prop) : VK := fun x H1 => ∃ a, x = .ref a ∧ (∃ xs, SqL K H1 a xs) ∧ R (Itl K a) H1
def TupIt (K : PySem.W.Frag) (R : It → Hp → Prop) : VK := fun x H1 => ∃ a, x = .ref a ∧ (∃ xs, SqT K H1 a xs) ∧ R (Itt K a) H1
def StrIt (R : It → Hp → Prop) : VK := fun v H1 => ∃ x, v = .str x ∧ R (Its x) H1
theorem rd_iR1 {R : It → Hp → Prop} (h : tr σ H (Rng1K R)) : iRng1 tr σ H R := h
theorem rd_iR2 {R : It → Hp → Prop} (h : tr σ H (Rng2K R)) : iRng2 tr σ H R := h
theorem rd_iL {R : It → Hp → Prop} (h : te σ H (LstIt K R)) : iList K te σ H R := h
theorem rd_iT {R : It → Hp → Prop} (h : te σ H (TupIt K R)) : iTup K te σ H R := h
theorem rd_iS {R : It → Hp → Prop} (h : te σ H (StrIt R)) : iStr te σ H R := h
theorem rd_r1 {R : It → Hp → Prop} {j : Int} (h0 : -1000000 ≤ j) (h1 : j ≤ 1000000) (q : R (Itr 0 j.toNat) H) : Rng1K R [.int j] H := ⟨j, rfl, by omega, by omega, q⟩
theorem rd_r2 {R : It → Hp → Prop} {i j : Int} (h0 : -1000000000000 ≤ i ∧ i ≤ 1000000000000) (h1 : -1000000000000 ≤ j ∧ j ≤ 1000000000000) (q : R (Itr i (j - i).toNat) H) : Rng2K R [.int i, .int j] H := ⟨i, j, rfl, by omega, q⟩
theorem rd_il {R : It → Hp → Prop} {p : Addr} {xs : List V} (h : SqL K H p xs) (q : R (Itl K p) H) : LstIt K R (.ref p) H := ⟨p, rfl, ⟨xs, h⟩, q⟩
theorem rd_it {R : It → Hp → Prop} {p : Addr} {xs : List V} (h : SqT K H p xs) (q : R (Itt K p) H) : TupIt K R (.ref p) H := ⟨p, rfl, ⟨xs, h⟩, q⟩
theorem rd_is {R : It → Hp → Prop} {z : Str} (q : R (Its z) H) : StrIt R (.str z) H := ⟨z, rfl, q⟩
def LcGo (J : It) (g : TG) (tt : TT) (te : TE) (vs : List Nat) (σ : L2.St) (H1 : Hp) (Q : VK) : Prop := ∀ D, H1 D = none → ∃ W : Nat → Nat → Hp → Prop, (∃ m, W 0 m (upd H1 D (.lst []))) ∧ ∀ i m H, W i m H →
  (J.stop i H ∧ Q (.ref D) H) ∨ (J.go i H ∧ ∃ Nx : Hp → Prop, (∀ H', Nx H' → ∃ m', m' < m ∧ W (i + 1) m' H') ∧ ∀ x H', J.yld i H x H' → g x (wipe σ vs) H' fun σ2 H2 => wipe σ2 vs = wipe σ vs ∧ tt σ2 H2 fun b H3 =>
    if b = true then te σ2 H3 fun y H4 => ∃ acc, H4 D = some (.lst acc) ∧ acc.length < sizeLine ∧ Nx (upd H4 D (.lst (acc ++ [y]))) else Nx H3)
theorem rd_lc {wi : TI} {vs : List Nat} (h : wi σ H fun J H1 => LcGo J g tt te vs σ H1 Q) : tLc wi g tt te vs σ H Q := h
theorem lcgo {J : It} {n : Nat} {G : Hp → Prop} {Y : Nat → Hp → V → Hp → Prop} (w : Walk J n G Y) {vs : List Nat} {H1 : Hp} (Pv : Addr → Nat → List V → Hp → Prop) (h0 : ∀ D, H1 D = none → Pv D 0 [] (upd H1 D (.lst [])))
    (hG : ∀ D i acc H, H1 D = none → i ≤ n → Pv D i acc H → G H)
    (hs : ∀ D i x acc H H', H1 D = none → i < n → acc.length = i → H D = some (.lst acc) → Pv D i acc H → Y i H x H' → g x (wipe σ vs) H' fun σ2 H2 => wipe σ2 vs = wipe σ vs ∧ te σ2 H2 (LcK n D (Pv D) i))
    (hd : ∀ D acc H, H1 D = none → acc.length = n → H D = some (.lst acc) → Pv D n acc H → Q (.ref D) H) : LcGo J g tYes te vs σ H1 Q :=
  fun D hD => lc_yes w (Pv D) (h0 D hD) (fun i acc H a b => hG D i acc H hD a b) (fun i x acc H H' a b c d e => hs D i x acc H H' hD a b c d e) fun acc H a b c => hd D acc H hD a b c
def ForGo (J : It) (g : TG) (tb : TS) (D : Ends) (σ : L2.St) (H1 : Hp) : Prop := ∃ W : Nat → Nat → L2.St → Hp → Prop, (∃ m, W 0 m σ H1) ∧ ∀ i m σ H, W i m σ H →
  (J.stop i H ∧ D.nx σ H) ∨ (J.go i H ∧ ∃ N : L2.St → Hp → Prop, (∀ σ' H', N σ' H' → ∃ m', m' < m ∧ W (i + 1) m' σ' H') ∧ ∀ x H', J.yld i H x H' → g x σ H' fun σ2 H2 => tb { D with nx := N, ct := N, bk := D.nx } σ2 H2)
theorem rd_for {wi : TI} (h : wi σ H fun J H1 => ForGo J g t D σ H1) : tFor wi g t D σ H := h
theorem forgo {J : It} {n : Nat} {G : Hp → Prop} {Y : Nat → Hp → V → Hp → Prop} (w : Walk J n G Y) (Pv : Nat → L2.St → Hp → Prop) (h0 : Pv 0 σ H) (hG : ∀ i σ H, i ≤ n → Pv i σ H → G H)
    (hs : ∀ i x σ H H', i < n → Pv i σ H → Y i H x H' → g x σ H' fun σ2 H2 => t { D with nx := Pv (i + 1), ct := Pv (i + 1), bk := D.nx } σ2 H2) (hd : ∀ σ H, Pv n σ H → D.nx σ H) : ForGo J g t D σ H := for_it w Pv h0 hG hs hd
theorem rd_lstA {xs : List V} (hz : xs.length ≤ 100000) (q : ∀ p H', H p = none → Same H H' → H' p = some (.lst xs) → Q (.ref p) H') : LstK Q xs H :=
  ⟨Nat.le_trans hz (by decide), fun p hp => q p _ hp (fun b x e => by rw [upd_ne (ne_of_none e hp)]; exact e) upd_same⟩
theorem rd_tupA {xs : List V} (hz : xs.length ≤ 100000) (q : ∀ p H', H p = none → Same H H' → H' p = some (.tup xs) → Q (.ref p) H') : TupK Q xs H :=
  ⟨Nat.le_trans hz (by decide), fun p hp => q p _ hp (fun b x e => by rw [upd_ne (ne_of_none e hp)]; exact e) upd_same⟩
theorem len_le : ∀ {xs : List V} {n : Nat}, xs.length = n → n ≤ 100000 → xs.length ≤ 100000 := fun e h => e ▸ h
theorem rd_nx {a c d : L2.St → Hp → Prop} {b : VK} (h : a σ H) : Ends.nx ⟨a, b, c, d⟩ σ H := h
theorem rd_rt {a c d : L2.St → Hp → Prop} {b : VK} (h : b v H) : Ends.rt ⟨a, b, c, d⟩ v H := h
theorem rd_sl {rs : V → Option Int → Option Int → Hp → VK → Prop} {tl th : TO} (h : ta σ H fun x H1 => tl σ H1 fun lo H2 => th σ H2 fun hi H3 => rs x lo hi H3 Q) : tSl rs ta tl th σ H Q := h
theorem rd_nopart {P : Option Int → Hp → Prop} (h : P none H) : tNoPart σ H P := h
theorem rd_part {P : Option Int → Hp → Prop} (h : te σ H fun x H1 => ∃ i, x = .int i ∧ P (some i) H1) : tPart te σ H P := h
theorem rd_ex_int {P : Int → Prop} {b : Int} (h : P b) : ∃ k, V.int b = V.int k ∧ P k := ⟨b, rfl, h⟩
theorem rd_slS {z : Str} {lo hi : Option Int} (hz : z.length ≤ sizeLine) (h : Q (.str (cutS z lo hi)) H) : rSlS (.str z) lo hi H Q := ⟨z, rfl, hz, h⟩
theorem rd_addS {a b : Str} (hz : a.length + b.length ≤ 100000) (h : Q (.str (a ++ b)) H) : rAddSt (.str a) (.str b) H Q := ⟨a, b, rfl, rfl, Nat.le_trans hz (by decide), h⟩
theorem rd_repS {a : Str} {n : Int} (hm : MulOk a n) (h : Q (.str (Txt.mul a n)) H) : rRepS (.str a) (.int n) H Q := ⟨a, n, rfl, rfl, hm, h⟩
theorem rd_repr0 {t : Str} (h : shown0 v = some t) (q : Q (.str t) H) : rRepr0 [v] H Q := ⟨v, t, rfl, h, q⟩
def RevK (K : PySem.W.Frag) (Q : VK) : VK := fun x H1 => ∃ a xs, x = .ref a ∧ SqL K H1 a xs ∧ ∀ p, H1 p = none → Q (.ref p) (upd H1 p (.lst xs.reverse))
theorem rd_revL (h : te σ H (RevK K Q)) : tRevL K te σ H Q := h
theorem rd_revK {p : Addr} {xs : List V} (h : SqL K H p xs) (q : ∀ p H', H p = none → Same H H' → H' p = some (.lst xs.reverse) → Q (.ref p) H') : RevK K Q (.ref p) H :=
  ⟨p, xs, rfl, h, fun p hp => q p _ hp (fun b x e => by rw [upd_ne (ne_of_none e hp)]; exact e) upd_same⟩
theorem rd_cat {l b : Addr} {xs zs : List V} (h1 : H l = some (.lst xs)) (h2 : H b = some (.lst zs)) (hz : xs.length + zs.length ≤ 100000) (q : ∀ p H', H p = none → Same H H' → H' p = some (.lst (xs ++ zs)) → Q (.ref p) H') : rCat (.ref l) (.ref b) H Q :=
  ⟨l, b, xs, zs, rfl, rfl, h1, h2, Nat.le_trans hz (by decide), fun p hp => q p _ hp (fun b x e => by rw [upd_ne (ne_of_none e hp)]; exact e) upd_same⟩
theorem rd_catA {a b : Addr} {x y : V} {xs ys : List V} (h1 : SqT K H a (x :: xs)) (h2 : SqT K H b (y :: ys)) (hz : (x :: xs).length + (y :: ys).length ≤ 100000) (q : ∀ p H', H p = none → Same H H' → H' p = some (.tup ((x :: xs) ++ (y :: ys))) → Q (.ref p) H') : rCatA K (.ref a) (.ref b) H Q :=
  ⟨a, b, _, _, rfl, rfl, h1, h2, Nat.le_trans hz (by decide), (fun e => nomatch e), (fun _ e => nomatch e), fun _ _ p hp => q p _ hp (fun b x e => by rw [upd_ne (ne_of_none e hp)]; exact e) upd_same⟩
theorem cutV_whole {xs : List V} {lo hi : Option Int} (h : HT.sIx xs.length 0 lo = 0 ∧ HT.sIx xs.length xs.length hi = xs.length) : cutV xs lo hi = xs := by
  unfold cutV
  rw [h.1, h.2, List.drop_zero, Nat.sub_zero, List.take_length]
/-- a part of a tuple -/
theorem rd_slA {a : Addr} {xs : List V} {lo hi : Option Int} (h : H a = some (.tup xs)) (q : ∀ p H', Same H H' → H' p = some (.tup (cutV xs lo hi)) → Q (.ref p) H') : rSlA K (.ref a) lo hi H Q :=
  ⟨a, xs, rfl, .inl (.inl h), fun w => q a H (Same.refl H) (by rw [cutV_whole w]; exact h), fun _ p hp => q p _ (fun b x e => by rw [upd_ne (ne_of_none e hp)]; exact e) upd_same⟩
theorem rd_neD {x y : V} {d e : PyData} (hd : Dp K H x d) (he : Dp K H y e) (sd : SeqAt.shaped d = true) (se : SeqAt.shaped e = true) (q : Q (.bl (!PyData.eqv d e)) H) : rNeD K x y H Q := ⟨d, e, hd, he, sd, se, q⟩
theorem rd_eqD {x y : V} {d e : PyData} (hd : Dp K H x d) (he : Dp K H y e) (sd : SeqAt.shaped d = true) (se : SeqAt.shaped e = true) (q : Q (.bl (PyData.eqv d e)) H) : rEqD K x y H Q := ⟨d, e, hd, he, sd, se, q⟩
theorem rd_inT {x : V} {p : Addr} {xs : List V} (h : SqT K H p xs) (f1 : flatV x = true) (f2 : xs.all flatV = true) (q : Q (.bl (inV x xs)) H) : rIn K false x (.ref p) H Q := ⟨p, xs, rfl, .inr h, f1, f2, q⟩
theorem rd_inL {x : V} {p : Addr} {xs : List V} (h : SqL K H p xs) (f1 : flatV x = true) (f2 : xs.all flatV = true) (q : Q (.bl (inV x xs)) H) : rIn K false x (.ref p) H Q := ⟨p, xs, rfl, .inl h, f1, f2, q⟩
theorem rd_isBA {b : Bool} (q : Q (.bl (decide (v = .bl b))) H) : rIsBA v (.bl b) H Q := ⟨b, rfl, q⟩
theorem rd_gtup {n : Nat} {tt2 : List V → L2.St → Hp → (L2.St → Hp → Prop) → Prop} {P : L2.St → Hp → Prop} {p : Addr} {xs : List V} (h : SqT K H p xs) (hl : xs.length = n) (q : tt2 xs σ H P) : gTup K n tt2 (.ref p) σ H P := ⟨p, xs, rfl, h, hl, q⟩
theorem rd_glst {n : Nat} {tt2 : List V → L2.St → Hp → (L2.St → Hp → Prop) → Prop} {P : L2.St → Hp → Prop} {p : Addr} {xs : List V} (h : SqL K H p xs) (hl : xs.length = n) (q : tt2 xs σ H P) : gLst K n tt2 (.ref p) σ H P := ⟨p, xs, rfl, h, hl, q⟩
theorem rd_intB {b : Bool} (q : ∀ i : Int, 0 ≤ i → i < 2 → Q (.int i) H) : rInt1 [.bl b] H Q := .inr ⟨b, rfl, q _ (by cases b <;> decide) (by cases b <;> decide)⟩
theorem rd_gcons {tt2 : List V → L2.St → Hp → (L2.St → Hp → Prop) → Prop} {P : L2.St → Hp → Prop} {xs : List V} (h : g v σ H fun σ' H' => tt2 xs σ' H' P) : gCons g tt2 (v :: xs) σ H P := ⟨v, xs, rfl, h⟩
theorem rd_gnil {P : L2.St → Hp → Prop} (h : P σ H) : gNil [] σ H P := ⟨rfl, h⟩
/-- xs.append(e) -/
theorem rd_bm {T : String} {rr : V → List V → Hp → VK → Prop} (h : te σ H fun x H1 => tyV K T x H1 ∧ tr σ H1 fun xs H2 => rr x xs H2 Q) : tBM K T rr te tr σ H Q := h
theorem rd_tyL {p : Addr} {xs : List V} {B : Prop} (h : SqL K H p xs) (q : B) : tyV K "list" (.ref p) H ∧ B := ⟨.inl ⟨rfl, xs, h⟩, q⟩
theorem rd_append {l : Addr} {xs : List V} {y : V} (h : H l = some (.lst xs)) (hz : xs.length < 100000) (q : Q .non (upd H l (.lst (xs ++ [y])))) : rAppend (.ref l) [y] H Q := ⟨l, xs, y, rfl, rfl, h, Nat.lt_of_lt_of_le hz (by decide), q⟩
theorem rd_frm {D : Addr} {xs : List V} (h : H D = some (.lst xs)) (q : te σ (Wo D H) fun v H' => H' D = none → Q v (upd H' D (.lst xs))) : tFrm te σ H Q := ⟨D, xs, h, q⟩
theorem join_len {ys : List Str} (h : ∀ y ∈ ys, y.length = 1) : (Txt.join (Str.ofString "") ys).length ≤ ys.length ∧ (ys.map (·.length)).sum = ys.length := by
  have e : (ys.map (·.length)).sum = ys.length := by
    induction ys with
    | nil => rfl
    | cons a r ih =>
      rw [List.map_cons, List.sum_cons, ih fun y hy => h y (List.mem_cons_of_mem _ hy), h a List.mem_cons_self, List.length_cons]
      omega
  refine ⟨?_, e⟩
  have := size_glued (Str.ofString "") ys
  have e0 : (Str.ofString "").length = 0 := by decide +kernel
  rw [e0, Nat.mul_zero, Nat.add_zero, e] at this
  exact Nat.le_of_eq this
/-- "".join of signs -/
theorem rd_join1 {p : Addr} {ys : List Str} (h : SqL K H p (ys.map V.str)) (h1 : ∀ y ∈ ys, y.length = 1) (hl : ys.length ≤ 100000) (q : ∀ z : Str, z = Txt.join (Str.ofString "") ys → z.length ≤ ys.length → Q (.str z) H) : rJoin K (.str (Str.ofString "")) [.ref p] H Q := by
  obtain ⟨j1, j2⟩ := join_len h1
  have e0 : (Str.ofString "").length = 0 := by decide +kernel
  refine ⟨_, p, ys, rfl, rfl, .inl h, ?_, q _ rfl j1⟩
  rw [j2, e0]
  omega
theorem rd_disp1 {tk tv : TE} {kx : Key} {y : V} (hk : ∀ H' (P : VK), P (kV kx) H' → tk σ H' P) (hv : ∀ H' (P : VK), P y H' → tv σ H' P) (q : ∀ p H', H p = none → Same H H' → H' p = some (.dK [(kx, y)]) → Q (.ref p) H') : tDisp [(tk, tv)] σ H Q := by
  intro p hp
  refine hk _ _ (hv _ _ ⟨upd_same, [(kx, y)], rfl, (show 1 ≤ 15 by decide), ?_⟩)
  rw [upd_upd]
  exact q p _ hp (fun b x e => by rw [upd_ne (ne_of_none e hp)]; exact e) upd_same
theorem rd_dnew (q : ∀ p H', H p = none → Same H H' → H' p = some (.dK []) → Q (.ref p) H') : tDNewK σ H Q :=
  fun p hp => q p _ hp (fun b x e => by rw [upd_ne (ne_of_none e hp)]; exact e) upd_same
theorem atI_mem {xs : List V} {k : Int} (h0 : 0 ≤ k) (h1 : k < (xs.length : Int)) : ∃ v, v ∈ xs ∧ atI xs k = some v := by
  obtain ⟨j, rfl⟩ : ∃ j : Nat, k = (j : Int) := ⟨k.toNat, by omega⟩
  have hj : j < xs.length := by omega
  exact ⟨xs[j], List.getElem_mem hj, atI_nat (List.getElem?_eq_getElem hj)⟩
theorem rd_ixAny1 {xs : List V} {p : Addr} {k : Int} (h : SqL K H p xs) (h0 : 0 ≤ k) (h1 : k < (xs.length : Int)) (q : ∀ v, v ∈ xs → Q v H) : rIxL K (.ref p) (.int k) H Q := by
  obtain ⟨v, hv, ha⟩ := atI_mem h0 h1
  exact ⟨p, xs, k, v, rfl, rfl, h, ha, q v hv⟩
theorem rd_ixAny {xs : List V} {p : Addr} {k : Int} (h : SqL K H p xs) (h0 : 0 ≤ k) (h1 : k < (xs.length : Int)) (q : ∀ v, v ∈ xs → Q v H) : rIx K (.ref p) (.int k) H Q := .inl (rd_ixAny1 h h0 h1 q)
theorem rd_ixSany {z : Str} {k : Int} (hz : z.length ≤ 100000) (h0 : 0 ≤ k) (h1 : k < (z.length : Int)) (q : ∀ c, c ∈ z.cps.toList → Q (.str ⟨#[c]⟩) H) : rIxS (.str z) (.int k) H Q := by
  obtain ⟨j, rfl⟩ : ∃ j : Nat, k = (j : Int) := ⟨k.toNat, by omega⟩
  have hl : z.length = z.cps.toList.length := by simp [Str.length]
  have hj : j < z.cps.toList.length := by omega
  exact ⟨z, _, z.cps.toList[j], rfl, rfl, Nat.le_trans hz (by decide), atI_nat (List.getElem?_eq_getElem hj), q _ (List.getElem_mem hj)⟩
/-- a comprehension whose list is set aside while an element is evaluated -/
theorem lcgoF {J : It} {n k : Nat} {G : Hp → Prop} {Y : Nat → Hp → V → Hp → Prop} {te : TE} {vs : List Nat} {H1 : Hp} (w : Walk J n G Y) (hz : n ≤ 100000) (Yx : Nat → V → Prop) (hY : ∀ i H x H', i < n → G H → Y i H x H' → H' = H ∧ Yx i x)
    (hw : ∀ x, wipe ((wipe σ vs).set k (some x)) vs = wipe σ vs) (Pv : Nat → List V → Hp → Prop) (h0 : Pv 0 [] H1) (hG : ∀ i acc H D, i ≤ n → Pv i acc H → H D = none → G (upd H D (.lst acc)))
    (hs : ∀ i x acc H (Qc : VK), i < n → acc.length = i → Pv i acc H → Yx i x → (∀ y H', Pv (i + 1) (acc ++ [y]) H' → Qc y H') → te ((wipe σ vs).set k (some x)) H Qc)
    (hd : ∀ acc H D, acc.length = n → Pv n acc H → H D = none → Q (.ref D) (upd H D (.lst acc))) : LcGo J (gName k) tYes (tFrm te) vs σ H1 Q := by
  refine fun D hD => lc_yes w (fun i acc H => ∃ H0, H = upd H0 D (.lst acc) ∧ H0 D = none ∧ Pv i acc H0) ⟨H1, rfl, hD, h0⟩ (fun i acc H hi ⟨H0, e, hn, p⟩ => e ▸ hG i acc H0 D hi p hn) ?_ ?_
  · rintro i x acc H H' hi hla hDa ⟨H0, rfl, hn, p⟩ y
    obtain ⟨rfl, yx⟩ := hY i _ x H' hi (hG i acc H0 D (Nat.le_of_lt hi) p hn) y
    refine ⟨hw _, D, acc, upd_same, ?_⟩
    rw [wo_upd hn]
    exact hs i x acc H0 _ hi hla p yx fun y H' p' hD' => lcK (acc := acc) upd_same hla hi hz ⟨H', by rw [upd_upd], hD', p'⟩
  · rintro acc H hla hDa ⟨H0, rfl, hn, p⟩
    exact hd acc H0 D hla p hn
theorem walkR_Y {lo : Int} {i : Nat} {H : Hp} {x : V} {H' : Hp} (h : YFn (fun i => .int (lo + (i : Nat))) i H x H') : H' = H ∧ x = .int (lo + (i : Nat)) := h
/-- a comprehension over the signs of a text, its element a function of the sign -/
theorem lcgo_str {te : TE} {vs : List Nat} {k : Nat} {f : Nat → V} {z : Str} (hz : z.length ≤ 100000) (hw : ∀ x, wipe ((wipe σ vs).set k (some x)) vs = wipe σ vs)
    (he : ∀ (c : Nat) (H' : Hp) (Q' : VK), c ∈ z.cps.toList → Q' (f c) H' → te ((wipe σ vs).set k (some (.str ⟨#[c]⟩))) H' Q')
    (hq : ∀ D, H D = none → Q (.ref D) (upd H D (.lst (z.cps.toList.map f)))) : LcGo (Its z) (gName k) tYes (tFrm te) vs σ H Q := by
  have hl : z.cps.size = z.cps.toList.length := by simp
  refine lcgoF walk_str hz (fun i x => ∃ c, z.cps.toList[i]? = some c ∧ x = .str ⟨#[c]⟩) (fun i H x H' _ _ ⟨e, c, hc, hx⟩ => ⟨e, c, by simpa using hc, hx⟩) hw (fun i acc H' => H' = H ∧ acc = (z.cps.toList.take i).map f) ⟨rfl, rfl⟩ (fun _ _ _ _ _ _ _ => trivial) ?_ ?_
  · rintro i x acc H' Qc hin hla ⟨rfl, ha⟩ ⟨c, hc, rfl⟩ hq'
    refine he c _ _ (List.mem_of_getElem? hc) (hq' _ _ ⟨rfl, ?_⟩)
    rw [List.take_add_one, hc, List.map_append, ← ha]
    rfl
  · rintro acc H' D hla ⟨rfl, ha⟩ hD
    have e : z.cps.toList.take z.cps.size = z.cps.toList := List.take_of_length_le (by rw [← hl]; exact Nat.le_refl _)
    rw [e] at ha
    subst ha
    exact hq D hD
theorem rd_all {p : Addr} {bs : List Bool} (h : SqL K H p (bs.map V.bl)) (q : Q (.bl (bs.all id)) H) : rAll K [.ref p] H Q := ⟨p, bs, rfl, h, q⟩
theorem rd_intStr {z : Str} {n : Int} (h : PySem.intText? z = some n) (hz : z.length ≤ 640) (q : Q (.int n) H) : rIntS [.str z] H Q := ⟨z, n, rfl, h, hz, q⟩
theorem rd_strI {i : Int} (h : i.natAbs.log2 < 1920) (q : Q (.str (toString i)) H) : rStrI [.int i] H Q := ⟨i, rfl, h, q⟩
theorem atI0 {α : Type} {a : α} {l : List α} : atI (a :: l) (0 : Int) = some a := atI_nat (j := 0) rfl
theorem atI1 {α : Type} {a b : α} {l : List α} : atI (a :: b :: l) (1 : Int) = some b := atI_nat (j := 1) rfl
theorem atI2 {α : Type} {a b c : α} {l : List α} : atI (a :: b :: c :: l) (2 : Int) = some c := atI_nat (j := 2) rfl
theorem atI3 {α : Type} {a b c d : α} {l : List α} : atI (a :: b :: c :: d :: l) (3 : Int) = some d := atI_nat (j := 3) rfl
theorem atI4 {α : Type} {a b c d e : α} {l : List α} : atI (a :: b :: c :: d :: e :: l) (4 : Int) = some e := atI_nat (j := 4) rfl
theorem atI5 {α : Type} {a b c d e f : α} {l : List α} : atI (a :: b :: c :: d :: e :: f :: l) (5 : Int) = some f := atI_nat (j := 5) rfl
theorem atI6 {α : Type} {a b c d e f g : α} {l : List α} : atI (a :: b :: c :: d :: e :: f :: g :: l) (6 : Int) = some g := atI_nat (j := 6) rfl
theorem atI7 {α : Type} {a b c d e f g h : α} {l : List α} : atI (a :: b :: c :: d :: e :: f :: g :: h :: l) (7 : Int) = some h := atI_nat (j := 7) rfl
theorem sqL_of {K : PySem.W.Frag} {H : Hp} {p : Addr} {xs : List V} (h : H p = some (.lst xs)) : SqL K H p xs := .inl (.inl h)
theorem sqT_of {K : PySem.W.Frag} {H : Hp} {p : Addr} {xs : List V} (h : H p = some (.tup xs)) : SqT K H p xs := .inl (.inl h)
end
end My
local macro_rules | `(tactic| walk_at "sql") => `(tactic| first | assumption | exact My.sqL_of L2.upd_same | (refine My.sqL_of ?_; assumption))
local macro_rules | `(tactic| walk_at "sz") => `(tactic| first | assumption | exact My.small_sz (by omega) | exact My.small_sz (by decide +kernel))
local macro_rules | `(tactic| walk_at "sqt") => `(tactic| first | assumption | exact My.sqT_of L2.upd_same | (refine My.sqT_of ?_; assumption))
local macro_rules | `(tactic| walk_at "ati") => `(tactic| first | with_reducible exact My.atI0 | with_reducible exact My.atI1 | with_reducible exact My.atI2 | with_reducible exact My.atI3 | with_reducible exact My.atI4 | with_reducible exact My.atI5 | with_reducible exact My.atI6 | with_reducible exact My.atI7)
local macro_rules | `(tactic| walk_at "ri") => `(tactic| first | exact ⟨by decide, by decide, by decide⟩ | exact ⟨by decide, by decide +kernel⟩ | exact .inl ⟨by decide, by decide⟩ | exact .inr ⟨by decide, by decide⟩)
local macro_rules | `(tactic| walk_at "rd1") => `(tactic| first
  | (with_reducible refine My.rd_seq ?_)
  | (with_reducible refine My.rd_asg ?_)
  | ((with_reducible refine My.rd_var (v := ?vv) ?hvar ?_); (case hvar => exact rfl))
  | (with_reducible refine My.rd_c ?_)
  | (with_reducible refine My.rd_op ?_)
  | (with_reducible refine My.rd_I0 ?_)
  | ((with_reducible refine My.rd_I ?hri ?_); (case hri => walk_at "ri"))
  | (with_reducible refine My.rd_name ?_)
  | ((with_reducible refine My.rd_aug (v := ?vv) ?hvar ?_); (case hvar => exact rfl))
  | (with_reducible refine My.rd_ipI ?_)
  | (with_reducible refine My.rd_next ?_)
  | (with_reducible refine My.rd_ret ?_)
  | (with_reducible refine My.rd_retN ?_)
  | (with_reducible refine My.rd_drop ?_)
  | (with_reducible refine My.rd_ifS ?_)
  | (with_reducible refine My.rd_if ?_)
  | (with_reducible refine My.rd_test ?_)
  | (with_reducible refine My.rd_B ?_)
  | (with_reducible refine My.rd_not ?_)
  | (with_reducible refine My.rd_and ?_)
  | (with_reducible refine My.rd_or ?_)
  | (with_reducible refine My.rd_nil ?_)
  | (with_reducible refine My.rd_cons ?_)
  | (with_reducible refine My.rd_cb ?_)
  | (with_reducible refine My.rd_call ?_)
  | (with_reducible refine My.rd_ex_bl ?_)
  | (with_reducible refine L2.iteT ?_)
  | (with_reducible refine L2.iteF ?_)
  | (with_reducible refine My.rd_iteN ?_)
  | (with_reducible refine My.rd_inS ?_)
  | (with_reducible refine My.rd_notInS ?_)
  | (with_reducible refine My.rd_find ?_)
  | (with_reducible refine My.rd_gcons ?_)
  | (with_reducible refine My.rd_gnil ?_)
  | (with_reducible refine My.rd_bm ?_)
  | (with_reducible refine My.rd_isBA ?_)
  | (with_reducible refine My.rd_m1 ?_)
  | (with_reducible refine My.rd_exStr ?_)
  | ((with_reducible refine My.rd_lenS ?hsz ?_); (case hsz => walk_at "sz"))
  | ((with_reducible refine My.rd_lenL (xs := ?xx) ?hsql ?_); (case hsql => walk_at "sql"))
  | ((with_reducible refine My.rd_lenT (xs := ?xx) ?hsql ?_); (case hsql => walk_at "sqt"))
  | (with_reducible refine My.rd_nx ?_)
  | (with_reducible refine My.rd_rt ?_)
  | (with_reducible refine My.rd_lc ?_)
  | (with_reducible refine My.rd_for ?_)
  | (with_reducible refine My.rd_iR1 ?_)
  | (with_reducible refine My.rd_iR2 ?_)
  | (with_reducible refine My.rd_iL ?_)
  | (with_reducible refine My.rd_iT ?_)
  | (with_reducible refine My.rd_iS ?_)
  | (with_reducible refine My.rd_is ?_)
  | (with_reducible refine My.rd_sl ?_)
  | (with_reducible refine My.rd_revL ?_)
  | (with_reducible refine My.rd_nopart ?_)
  | (with_reducible refine My.rd_part ?_)
  | (with_reducible refine My.rd_ex_int ?_)
  | ((with_reducible refine My.rd_slS ?hsz ?_); (case hsz => walk_at "sz"))
  | (with_reducible refine My.rd_un ?_)
  | (with_reducible refine My.rd_U ?_)
  | (with_reducible refine My.rd_chain ?_)
  | (with_reducible refine My.rd_lst ?_)
  | (with_reducible refine My.rd_tup ?_)
  | (with_reducible refine My.rd_andV ?_)
  | (with_reducible refine My.rd_orV ?_)
  | (with_reducible refine My.rd_notV ?_)
  | (with_reducible refine My.rd_sub ?_)
  | ((with_reducible refine My.rd_ixL (v := ?vv) (xs := ?xx) ?hsql ?hati ?_); (case hsql => walk_at "sql"); (case hati => walk_at "ati"))
  | ((with_reducible refine My.rd_ixL1 (v := ?vv) (xs := ?xx) ?hsql ?hati ?_); (case hsql => walk_at "sql"); (case hati => walk_at "ati"))
  | ((with_reducible refine My.rd_ixT (v := ?vv) (xs := ?xx) ?hsql ?hati ?_); (case hsql => walk_at "sqt"); (case hati => walk_at "ati"))
  | ((with_reducible refine My.rd_ixT1 (v := ?vv) (xs := ?xx) ?hsql ?hati ?_); (case hsql => walk_at "sqt"); (case hati => walk_at "ati"))
  | ((with_reducible refine My.rd_eq ?hscal ?_); (case hscal => rfl))
  | ((with_reducible refine My.rd_ne ?hscal ?_); (case hscal => rfl)))
local macro_rules | `(tactic| walk_at "rd") => `(tactic| (repeat' walk_at "rd1"))

/-! ### P0G: defs that are called where no repr is under way (so that repr of lists, tuples, dicts is told), and the law's end for such a def -/
namespace My
open PySem PySem.Spec PyProof.Rows L2
/-- as FnOk, where the guards around are known to be none; no exception leaves the def -/
structure FnOkG (P : Program) (w : World) (K : PySem.W.Frag) (mg : Str → Option Value) (base : Heap) (k : Nat) (f : Addr) (fd : FuncData) (ps : List Str) (sp : Sp) : Prop where
  len : ∀ vs H Q E, sp vs H Q E → vs.length = ps.length
  run : ∀ (A : Around) (outer : List Env) (s : Shared) (H : Hp) (args : Args) (us : List Value) (vs : List V) (Q : VK) (E : XK), A.guards = some [] → Room k A → Env0 P w K mg base A outer s H →
    BindsTo s fd args (ps.zip us) → Vals vs us → sp vs H Q E → codeAny (model P w) A (.call (.ref f) args) (CR CX0 outer P w H s Q E) s
section
variable {P : Program} {w : World} {K : PySem.W.Frag} {mg : Str → Option Value} {base : Heap}
theorem okG {x qual : Str} {st : Stmt} {f : Addr} {fd : FuncData} {N ps : List Str} {k : Nat} {sp : Sp} (F : Fun K x qual st f fd) (S : FnScope N ps (defScope st)) (len : ∀ vs H Q E, sp vs H Q E → vs.length = ps.length)
    (hbody : ∀ (cdv : Value) (A : Around) (outer : List Env) (s : Shared) (H : Hp) (vs : List V) (Q : VK) (E : XK), A.guards = some [] → Room k (A.deeper (envOfC qual (defScope st) s.heap.objs.size f cdv)) → sp vs H Q E →
      ∃ t, PSs (cxOf CX0 P w K mg base N qual (defScope st) f cdv A outer s H E).nox (defBody st) t ∧ t { nx := fun _ H' => Q .non H', rt := Q } (L2.start N vs) H) : FnOkG P w K mg base (k + 1) f fd ps sp := by
  obtain ⟨oc, od, kV, doc, pm, an, cdv, ct, osl, rfl, lk, hcd⟩ := F.ex
  constructor
  · exact len
  intro A outer s H args us vs Q E hguard hroom env bind rel hsp
  have inK : K.In s.heap := env.mod.kin.keeps fun b o e => And.left (env.bs b o e)
  have nolim : s.heap.NoLimit := env.mod.nolimit.keeps fun b o e => And.left (env.bs b o e)
  have kinds : ∀ y ∈ ps.zip us, (defScope st).names.lookup y.1 = some .local ∨ ((defScope st).names.lookup y.1 = some .cell ∧ ((cellsFrom (s.heap.objs.size + 1) (defScope st).names []).lookup y.1).isSome = true) := by
    rintro ⟨n, v⟩ hy
    have hn : n ∈ ps := And.left (List.of_mem_zip hy)
    exact (S.par n hn).imp id fun q => ⟨q, PySem.W.cellsFrom_some _ _ _ (.inl q)⟩
  have cr := PySem.W.codeRec_of inK hcd
  refine codeAny_call_function (Room.depth hroom) (inK _ _ lk) rfl S.co S.gen rfl cr (bind _ _ _ _ ?enter)
  case enter =>
    refine wpAny_newFunctionEnv_cells S.kind kinds ?_
    rintro env' rfl s1 made
    refine ⟨Heap.NoLimit.keeps nolim made.toInCall.keep, ?_⟩
    refine codeAny_func ?_
    obtain ⟨t, drv, rd⟩ := hbody cdv A outer s H vs Q E hguard (Room.deeper hroom _) hsp
    have I0 := inv_start (CX := CX0) (cd := cdv) (A := A) (E := E) S hroom.hd env (len _ _ _ _ hsp) rel made
    refine wpAny_mono (drv.nox.run [] s1 (L2.start N vs) H _ I0 rd) ?_ fun e s' q => q
    intro fl s' q
    cases fl with
    | next =>
      obtain ⟨σ', H', J, z⟩ := q
      exact ⟨V.non, H', J.os, J.bare, J.base, J.hok, rfl, z⟩
    | ret u =>
      obtain ⟨v, σ', H', J, rv, z⟩ := q
      exact ⟨v, H', J.os, J.bare, J.base, J.hok, rv, z⟩
    | brk => exact q.elim fun _ q => q.elim fun _ q => False.elim q.2
    | cont => exact q.elim fun _ q => q.elim fun _ q => False.elim q.2
/-- f(e, ..), f such a def -/
theorem pe_callG {X : Cx} {k : Nat} {f : Addr} {fd : FuncData} {ps : List Str} {sp : Sp} {x : Str} {p pos : Pos} {e : Expr} {es : List Expr} {t : TA} (hG : X.A.guards = some []) (F : FnOkG X.prog X.w X.K X.mg X.base k f fd ps sp) (hr : Room k X.A) (hg : Gl X x)
    (hm : X.mg x = some (.ref f)) (hk : PySem.W.keepIn X.K (.ref f) = true) (hb : Binds X.K fd ps []) (ha : PA X (e :: es) t) (hdb : (x == ("__debug__" : Str)) = false := by decide)
    (he : starEach (e :: es) X.env = (false, eval e X.env) :: starEach es X.env := by rfl) (hpl : (backTo pos (starEach es X.env)).any (·.1) = false := by rfl) : PE X (.Call (.Name x p) (e :: es) [] pos) (tCall sp [] E0 t) := by
  constructor
  intro pins s σ H Q I h
  refine wpAny_Call_Name_kw (ld_glob I hg hm ?go hdb)
  case go =>
    have args := ha.run pos pins s σ H _ I h
    refine PySem.W.callWith_K (h₀ := X.base) I.ok.mod.kin hk (thn args ?then_) he hpl
    rintro us s1 ⟨vs, H1, I1, rel, q⟩
    have q : sp vs H1 Q E0 := by rw [List.append_nil] at q; exact q
    have hl : us.length = ps.length := rel.length.symm.trans (F.len _ _ _ _ q)
    have bind := hb s1 us I1.kIn (by rw [List.append_nil]; exact hl)
    rw [List.append_nil] at bind
    refine ⟨I1.kIn, wpAny_call (codeAny_mono (F.run X.A X.stack s1 H1 ⟨us, []⟩ us vs Q E0 hG hr I1.env0 bind rel q) ?_)⟩
    intro r s2 hq
    match r, hq with
    | .error _, hq => exact False.elim hq
    | .ok (.ret u), hq => exact I1.after hq
    | .ok .next, hq => exact False.elim hq
    | .ok .brk, hq => exact False.elim hq
    | .ok .cont, hq => exact False.elim hq
/-- the script's list in the abstract heap: tracked as it stands, or an object of the written part -/
theorem script_heap {s : Shared} {a : Addr} {vs : List Value} {ns : List Int} (KX : K.In s.heap) (ha : s.heap.get? a = some { cls := .type "list", data := .seq vs.toArray }) (hi : IntsAre vs ns) (hl : ns.length ≤ sizeLine) :
    ∃ H : Hp, Only H ∧ SqL K H a (ns.map V.int) ∧ HOk P w H s.heap ∧ ∀ b u, H b = some u → b = a ∧ K.lookup a = none := by
  have rv := vals_ints hi
  cases hk : K.lookup a with
  | some o =>
    have e := KX a o hk
    rw [ha] at e
    cases e
    have no : ∀ (b : Addr) (u : HO), ¬ (fun _ => none : Hp) b = some u := fun b u z => by
      have z' : (none : Option HO) = some u := z
      cases z'
    refine ⟨fun _ => none, fun _ => .inl rfl, ?_, fun b u z => (no b u z).elim, fun b u z => (no b u z).elim⟩
    exact .inr ⟨_, vs.toArray, _, hk, rfl, rfl, rfl, by rw [List.size_toArray, hi.length]; exact hl, by simpa using rv⟩
  | none =>
    refine ⟨fun b => if b = a then some (.frz { cls := .type "list", data := .seq vs.toArray } (.lst (ns.map V.int))) else none, ?_, .inl (.inr ⟨_, if_pos rfl⟩), ?_, ?_⟩
    · intro b
      by_cases e : b = a
      · exact .inr ⟨_, _, if_pos e⟩
      · exact .inl (if_neg e)
    · intro b u z
      by_cases e : b = a
      · subst e
        cases (if_pos rfl).symm.trans z
        refine ⟨ha, ?_, vs, _, rv, ha⟩
        rw [List.length_map]
        exact hl
      · cases (if_neg e).symm.trans z
    · intro b u z
      by_cases e : b = a
      · exact ⟨e, rfl⟩
      · cases (if_neg e).symm.trans z
/-- the law's def, called at the heap behind the top -/
theorem law_callG {mb : Str → Option Value} {k : Nat} {fa a : Addr} {fd : FuncData} {x : Str} {sp : Sp} {s : Shared} {vs : List Value} {ns : List Int} (KX : K.In s.heap) (hns : s.heap.Ns mainGlobals mg) (hb : s.heap.Ns builtinsNs mb)
    (hbb : ∀ x : Str, x ≠ "__name__" → mb x = bootBuiltins x) (hlim : s.heap.NoLimit) (hg : s.gens = #[]) (ha : s.heap.get? a = some { cls := .type "list", data := .seq vs.toArray }) (hi : IntsAre vs ns) (hl : ns.length ≤ sizeLine) (hr : Room k callerA)
    (F : ∀ base : Heap, K.In base → base.Ns mainGlobals mg → FnOkG P w K mg base k fa fd [x] sp) (hbind : ∀ (s : Shared) (u : Value), BindsTo s fd ⟨[u], []⟩ [(x, u)])
    (hsp : ∀ H : Hp, Only H → SqL K H a (ns.map V.int) → sp [.ref a] H (fun v _ => v = .bl true) fun _ _ _ => False) :
    codeAny (model P w) callerA (.call (.ref fa) ⟨[.ref a], []⟩) (fun r s' => r = .ok (.ret (.bool true)) ∧ OldK s.heap s'.heap ∧ s'.os = s.os ∧ AllBare s'.gens) s := by
  obtain ⟨H, only, seq, hok, at_⟩ := script_heap (P := P) (w := w) KX ha hi hl
  have hid : ∀ {b : Addr} {o : Obj}, s.heap.get? b = some o → (∀ u, H b ≠ some u) → (hidT s.heap H).get? b = some o := fun {b o} e n => hidT_get e (by
    cases q : H b with
    | none => rfl
    | some u => exact (n u q).elim)
  have nodict : ∀ {b : Addr} {o : Obj} {es : Array DictEntry} {ep : Nat}, s.heap.get? b = some o → o.data = .dict es ep → ∀ u, H b ≠ some u := fun {b o es ep} e d u q => by
    have eb := (at_ b u q).1
    subst eb
    rw [ha] at e
    cases e
    cases (show Data.seq vs.toArray _ = Data.dict es ep from d)
  have names : ∀ {b : Addr} {m : Str → Option Value}, s.heap.Ns b m → (hidT s.heap H).Ns b m := by
    rintro b m ⟨o, es, ep, e, d, r⟩
    exact ⟨o, es, ep, hid e (nodict e d), d, r⟩
  have inK : K.In (hidT s.heap H) := by
    intro b o e
    refine hid (KX b o e) fun u q => ?_
    obtain ⟨eb, ek⟩ := at_ b u q
    rw [← eb, e] at ek
    cases ek
  have md : Mod K mg (hidT s.heap H) := by
    obtain ⟨mc, h1, h2⟩ := hlim
    exact ⟨inK, names hns, ⟨mb, names hb, hbb⟩, mc, names h1, h2⟩
  have env : Env0 P w K mg (hidT s.heap H) callerA [] s H := by
    refine ⟨rfl, md, ?_, Nat.le_of_eq (hidT_size _ _), trivial, fun b hb => absurd hb (List.not_mem_nil (a := b)), hok, .of_eq hg⟩
    exact fun b o e => of_hidT e
  have run := (F _ inK (names hns)).run callerA [] s H ⟨[.ref a], []⟩ [.ref a] [.ref a] _ _ rfl hr env (hbind s (.ref a)) (.cons rfl .nil) (hsp H only seq)
  refine codeAny_mono run ?_
  intro r s' h
  match r, h with
  | .error _, h => exact False.elim h
  | .ok .next, h => exact False.elim h
  | .ok .brk, h => exact False.elim h
  | .ok .cont, h => exact False.elim h
  | .ok (.ret u), h =>
    obtain ⟨v, H', os, bare, un, hok', rel, rfl⟩ := h
    cases (show u = Value.bool true from rel)
    refine ⟨rfl, OldK.of_keep ?_, os, bare⟩
    intro b o e
    cases q : H b with
    | none => exact un.keep b o e q (List.not_mem_nil (a := b)) (List.not_mem_nil (a := b))
    | some u =>
      rcases only b with z | ⟨ob, xs, z⟩
      · rw [q] at z
        cases z
      · have g1 := (hok b _ z).1
        have g2 := (hok' b _ (un.frzs b ob _ z)).1
        rw [g1] at e
        cases e
        exact g2
end
theorem walk_ofG {l : PySem.W.OpenLaw} {n k : Nat} {q : Program} {loose : List Str} {XP : (Str → Option Value) → Heap → Prop} {YP : World → Heap → Prop} {d : DefRec} {K : Params → PySem.W.Frag} {sp : World → Sp} {x : Str} (hn : l.most = some n) (hn2 : n ≤ sizeLine)
    (hdf : d.params.defaults = []) (hr : Room k callerA) (hY : ∀ (w : World) (h : Heap), YP w h → (K w.params).In h)
    (F : ∀ (w : World) (mg : Str → Option Value) (fa : Addr) (h : Heap), (K w.params).In h → h.Ns mainGlobals mg → mg d.name = some (.ref fa) →
      ∃ fd : FuncData, (∀ (s : Shared) (u : Value), BindsTo s fd ⟨[u], []⟩ [(x, u)]) ∧ ∀ base : Heap, (K w.params).In base → base.Ns mainGlobals mg → FnOkG l.prog w (K w.params) mg base k fa fd [x] (sp w))
    (hsp : ∀ (w : World) (H : Hp) (a : Addr) (ns : List Int), ns.length ≤ n → (∀ z ∈ ns, Builtin.Int.intBits z ≤ 1048576) → Only H → SqL (K w.params) H a (ns.map V.int) → sp w [.ref a] H (fun v _ => v = .bl true) fun _ _ _ => False) :
    PySem.W.WalkO q loose XP YP l.row.toRowW d [] (fun f vs => PySem.call f vs) := by
  refine Att.attach_callB hn hdf ?_
  intro w s0 s1 mg mb fa o pm cd doc a vs ns G Y _ _ _ hmg hobj hints hlen hbits hgens
  have KX := hY w _ Y
  obtain ⟨fd, hb, hF⟩ := F w mg fa _ KX G.T.g hmg
  exact law_callG KX G.T.g G.T.b G.T.builtins G.T.nolimit hgens hobj hints (Nat.le_trans hlen hn2) hr hF hb fun H hO hS => hsp w H a ns hlen hbits hO hS
/-! #### repr of data -/
mutual
theorem dp_nodict {K : PySem.W.Frag} {H : Hp} : ∀ (d : PyData) (v : V), Dp K H v d → d.hasDict = false
  | .none, _, _ => by simp only [PyData.hasDict]
  | .bool _, _, _ => by simp only [PyData.hasDict]
  | .int _, _, _ => by simp only [PyData.hasDict]
  | .str _, _, _ => by simp only [PyData.hasDict]
  | .list ds, _, h => by
    cases h with
    | lst _ ha =>
      simp only [PyData.hasDict]
      exact dp_nodictAll ds _ ha
  | .tuple ds, _, h => by
    cases h with
    | tup _ ha =>
      simp only [PyData.hasDict]
      exact dp_nodictAll ds _ ha
  | .dict _, _, h => by cases h
theorem dp_nodictAll {K : PySem.W.Frag} {H : Hp} : ∀ (ds : List PyData) (vs : List V), DpAll K H vs ds → PyData.hasDictAll ds = false
  | [], _, _ => by simp only [PyData.hasDictAll]
  | d :: ds, _, h => by
    cases h with
    | cons h1 h2 => simp only [PyData.hasDictAll, dp_nodict d _ h1, dp_nodictAll ds _ h2, Bool.or_self]
end
def rReprD (K : PySem.W.Frag) : List V → Hp → VK → Prop := fun xs H Q => ∃ v d, xs = [v] ∧ Dp K H v d ∧ d.showable = true ∧ d.depth ≤ 60 ∧ d.shown.length ≤ 10000000 ∧ Q (.str d.shown) H
theorem reprD {X : Cx} {K : PySem.W.Frag} (hK : X.K = K) (hG : X.A.guards = some []) (hu : X.A.units + 64 < cLine) : CallR X (.builtin "repr") (rReprD K) := by
  subst hK
  intro pins s σ H xs us Q I r h
  obtain ⟨v, d, rfl, hd, hs, hdep, hlen, q⟩ := h
  obtain ⟨u, rfl, r1⟩ := vals1 r
  have hlen' : d.shown.length ≤ sizeLine := Nat.le_trans hlen (by decide)
  cases v with
  | ref a =>
    cases (show u = Value.ref a from r1)
    obtain ⟨as, rd⟩ := Dp.reads I d (.ref a) (.ref a) hd rfl
    refine repr_of_reads' rd hs (PyData.noDict_hsm (dp_nodict d _ hd)) hG (by omega) (fun b o e => e) (fun h' u tk keep => ?_) hlen'
    exact ⟨.str _, H, I.kept (t' := tk) keep, ⟨_, rfl⟩, q⟩
  | non =>
    cases hd
    cases (show u = Value.none from r1)
    simp only [PyData.shown] at q
    exact PySem.P.repr_of_none ⟨.str _, H, I.tok _, ⟨_, rfl⟩, q⟩
  | bl b =>
    cases hd
    cases (show u = Value.bool b from r1)
    simp only [PyData.shown] at q
    refine PySem.P.repr_of_bool ⟨.str _, H, I.tok _, ⟨_, rfl⟩, ?_⟩
    cases b <;> exact q
  | int i =>
    cases hd
    obtain ⟨t', rfl⟩ := (show ∃ t, u = Value.int i t from r1)
    simp only [PyData.shown] at q
    simp only [PyData.showable, decide_eq_true_eq] at hs
    exact PySem.P.repr_of_int hs ⟨.str _, H, I.tok _, ⟨_, rfl⟩, q⟩
  | str x =>
    cases hd
    obtain ⟨t', rfl⟩ := (show ∃ t, u = Value.str x t from r1)
    simp only [PyData.shown] at q hlen'
    exact PySem.P.repr_of_str ⟨.str _, H, I.tok _, ⟨_, rfl⟩, q⟩ hlen'
  | byt _ => cases hd
  | flt _ => cases hd
  | ty _ => cases hd
theorem rd_reprD {K : PySem.W.Frag} {H : Hp} {Q : VK} {v : V} {d : PyData} (hd : Dp K H v d) (h1 : d.showable = true) (h2 : d.depth ≤ 60) (h3 : d.shown.length ≤ 10000000) (q : Q (.str d.shown) H) : rReprD K [v] H Q := ⟨v, d, rfl, hd, h1, h2, h3, q⟩
theorem dp_tup {K : PySem.W.Frag} {H : Hp} {p : Addr} {xs : List V} {ds : List PyData} (h : H p = some (.tup xs)) (a : DpAll K H xs ds) : Dp K H (.ref p) (.tuple ds) := .tup (sqT_of h) a
theorem dp_lst {K : PySem.W.Frag} {H : Hp} {p : Addr} {xs : List V} {ds : List PyData} (h : H p = some (.lst xs)) (a : DpAll K H xs ds) : Dp K H (.ref p) (.list ds) := .lst (sqL_of h) a
mutual
theorem dp_same {K : PySem.W.Frag} {H H' : Hp} (e : ∀ b o, H b = some o → H' b = some o) : ∀ (d : PyData) (v : V), Dp K H v d → Dp K H' v d
  | .none, _, h => by cases h; exact .non
  | .bool b, _, h => by cases h; exact .bl b
  | .int i, _, h => by cases h; exact .int i
  | .str x, _, h => by cases h; exact .str x
  | .list ds, _, h => by
    cases h with
    | lst hs ha =>
      refine .lst ?_ (dp_sameAll e ds _ ha)
      rcases hs with (h | ⟨o, h⟩) | h
      · exact .inl (.inl (e _ _ h))
      · exact .inl (.inr ⟨o, e _ _ h⟩)
      · exact .inr h
  | .tuple ds, _, h => by
    cases h with
    | tup hs ha =>
      refine .tup ?_ (dp_sameAll e ds _ ha)
      rcases hs with (h | ⟨o, h⟩) | h
      · exact .inl (.inl (e _ _ h))
      · exact .inl (.inr ⟨o, e _ _ h⟩)
      · exact .inr h
  | .dict _, _, h => by cases h
theorem dp_sameAll {K : PySem.W.Frag} {H H' : Hp} (e : ∀ b o, H b = some o → H' b = some o) : ∀ (ds : List PyData) (vs : List V), DpAll K H vs ds → DpAll K H' vs ds
  | [], _, h => by cases h; exact .nil
  | d :: ds, _, h => by
    cases h with
    | cons h1 h2 => exact .cons (dp_same e d _ h1) (dp_sameAll e ds _ h2)
end
end My

/-! ### P0E: == and != of nested lists, tuples, objects (by identity), flat values: what comes of it, as it comes -/
namespace My
open PySem PySem.Spec PyProof.Rows L2
/-- two sequences -/
def EqS (K : PySem.W.Frag) (H : Hp) (E : V → V → Bool → Prop) (x y : V) (c : Bool) : Prop :=
  (∃ (a b : Addr) (xs ys : List V) (e : Nat → Bool), x = .ref a ∧ y = .ref b ∧ SqL K H a xs ∧ SqL K H b ys ∧ (a ≠ b ∨ c = true) ∧ xs.length = ys.length ∧ (∀ j u v, xs[j]? = some u → ys[j]? = some v → E u v (e j)) ∧ c = (List.range xs.length).all e) ∨
  (∃ (a b : Addr) (xs ys : List V) (e : Nat → Bool), x = .ref a ∧ y = .ref b ∧ SqT K H a xs ∧ SqT K H b ys ∧ (a ≠ b ∨ c = true) ∧ (∀ j u v, xs[j]? = some u → ys[j]? = some v → E u v (e j)) ∧ c = ((List.range (min xs.length ys.length)).all e && xs.length == ys.length)) ∨
  (∃ (a b : Addr) (xs ys : List V), x = .ref a ∧ y = .ref b ∧ SqL K H a xs ∧ SqL K H b ys ∧ a ≠ b ∧ xs.length ≠ ys.length ∧ c = false)
/-- what x == y comes to, of nesting below n -/
def EqQ (K : PySem.W.Frag) (H : Hp) : Nat → V → V → Bool → Prop
  | 0 => fun _ _ _ => False
  | n + 1 => fun x y c => (flatV x = true ∧ flatV y = true ∧ c = eqV x y) ∨ (∃ a, x = .ref a ∧ y = .ref a ∧ c = true) ∨ EqS K H (EqQ K H n) x y c
theorem rc_atQ {prog : Program} {w : World} {A : Around} {s : Shared} {a b : Value} {k : Bool} {E Q : Value → Shared → Prop} (h : SeqAt.RcAt A s a b k) (q : Q (.bool k) s) : wpAny (model prog w) A (compareOp .Eq a b) Q E s := h prog w E Q q
section
variable {X : Cx} {pins : List (Addr × Obj)} {σ : L2.St} {H : Hp} {s : Shared}
theorem vals_at {xs : List V} {us : List Value} (h : Vals xs us) : ∀ (j : Nat) (x : V) (u : Value), xs[j]? = some x → us[j]? = some u → RelV x u := by
  induction h with
  | nil => exact fun _ _ _ e _ => nomatch e
  | cons r _ ih =>
    intro j x u e1 e2
    cases j with
    | zero =>
      cases e1
      cases e2
      exact r
    | succ j => exact ih j x u e1 e2
theorem get_of {α : Type} {l : List α} {j : Nat} (h : j < l.length) : l[j]? = some l[j] := List.getElem?_eq_getElem h
theorem eqS_run (I : Inv X pins σ H s) {A : Around} {F : V → V → Bool → Prop} (hu : A.units < cLine) (ih : ∀ x y v u c, F x y c → RelV x v → RelV y u → SeqAt.EqAt A.in1 s v u c) {x y : V} {v u : Value} {c : Bool} (h : EqS X.K H F x y c) (rx : RelV x v) (ry : RelV y u) :
    SeqAt.RcAt A s v u c ∧ SeqAt.RcNeAt A s v u (!c) := by
  have items : ∀ {xs ys : List V} {us ws : List Value} {e : Nat → Bool}, Vals xs us → Vals ys ws → (∀ j a b, xs[j]? = some a → ys[j]? = some b → F a b (e j)) → ∀ j (h1 : j < us.toArray.size) (h2 : j < ws.toArray.size), SeqAt.EqAt A.in1 s us.toArray[j] ws.toArray[j] (e j) := by
    intro xs ys us ws e r1 r2 hp j h1 h2
    have l1 : j < xs.length := by rw [r1.length]; simpa using h1
    have l2 : j < ys.length := by rw [r2.length]; simpa using h2
    have q1 := vals_at r1 j _ us[j] (get_of l1) (get_of (by simpa using h1))
    have q2 := vals_at r2 j _ ws[j] (get_of l2) (get_of (by simpa using h2))
    exact ih _ _ _ _ _ (hp j _ _ (get_of l1) (get_of l2)) q1 q2
  rcases h with ⟨a, b, xs, ys, e, rfl, rfl, ha, hb, hn, hl, hp, rfl⟩ | ⟨a, b, xs, ys, e, rfl, rfl, ha, hb, hn, hp, rfl⟩ | ⟨a, b, xs, ys, rfl, rfl, ha, hb, hn, hl, rfl⟩
  · cases (show v = Value.ref a from rx)
    cases (show u = Value.ref b from ry)
    obtain ⟨us, r1, p1, _⟩ := I.list ha
    obtain ⟨ws, r2, p2, _⟩ := I.list hb
    have hsz : us.toArray.size = ws.toArray.size := by
      rw [List.size_toArray, List.size_toArray, ← r1.length, ← r2.length]
      exact hl
    have z1 := SeqAt.RcAt.lists p1.isList p2.isList hsz hu (items r1 r2 hp)
    have z2 := SeqAt.RcNeAt.lists p1.isList p2.isList hsz hu (items r1 r2 hp)
    rw [List.size_toArray, ← r1.length] at z1 z2
    exact ⟨z1, z2⟩
  · cases (show v = Value.ref a from rx)
    cases (show u = Value.ref b from ry)
    obtain ⟨us, r1, p1, _⟩ := I.tuple ha
    obtain ⟨ws, r2, p2, _⟩ := I.tuple hb
    have z1 := SeqAt.RcAt.tuples p1 p2 hu (items r1 r2 hp)
    have z2 := SeqAt.RcNeAt.tuples p1 p2 hu (items r1 r2 hp)
    rw [List.size_toArray, List.size_toArray, ← r1.length, ← r2.length] at z1 z2
    exact ⟨z1, z2⟩
  · cases (show v = Value.ref a from rx)
    cases (show u = Value.ref b from ry)
    obtain ⟨us, r1, p1, _⟩ := I.list ha
    obtain ⟨ws, r2, p2, _⟩ := I.list hb
    have hsz : (us.toArray.size != ws.toArray.size) = true := by
      rw [List.size_toArray, List.size_toArray, ← r1.length, ← r2.length]
      simpa using hl
    exact ⟨SeqAt.RcAt.lists_lengths p1.isList p2.isList hsz hu, SeqAt.RcNeAt.lists_lengths p1.isList p2.isList hsz hu⟩
theorem eqQ_run (I : Inv X pins σ H s) : ∀ (n : Nat) (A : Around), A.units + n < cLine → ∀ (x y : V) (v u : Value) (c : Bool), EqQ X.K H n x y c → RelV x v → RelV y u → SeqAt.EqAt A s v u c
  | 0, _, _, _, _, _, _, _, h, _, _ => (show False from h).elim
  | n + 1, A, hu, x, y, v, u, c, h, rx, ry => by
    rcases h with ⟨f1, f2, rfl⟩ | ⟨a, rfl, rfl, rfl⟩ | h
    · exact eqAt_V rx ry f1 f2
    · cases (show v = Value.ref a from rx)
      cases (show u = Value.ref a from ry)
      exact SeqAt.EqAt.same _
    · have step := (eqS_run I (A := A) (by omega) (eqQ_run I n A.in1 (by show A.units + 1 + n < cLine; omega)) h rx ry).1
      obtain ⟨a, b, rfl, rfl, hab⟩ : ∃ a b, x = .ref a ∧ y = .ref b ∧ (a ≠ b ∨ c = true) := by
        rcases h with ⟨a, b, _, _, _, e1, e2, _, _, h, _⟩ | ⟨a, b, _, _, _, e1, e2, _, _, h, _⟩ | ⟨a, b, _, _, e1, e2, _, _, h, _⟩
        · exact ⟨a, b, e1, e2, h⟩
        · exact ⟨a, b, e1, e2, h⟩
        · exact ⟨a, b, e1, e2, .inl h⟩
      cases (show v = Value.ref a from rx)
      cases (show u = Value.ref b from ry)
      by_cases e : a = b
      · subst e
        rcases hab with h | rfl
        · exact absurd rfl h
        · exact SeqAt.EqAt.same _
      · exact SeqAt.EqAt.of_refs e step
end
section
variable {X : Cx} {K : PySem.W.Frag}
def rEqW (K : PySem.W.Frag) : R2 := fun x y H Q => ∃ n c, n ≤ 60 ∧ EqS K H (EqQ K H n) x y c ∧ Q (.bl c) H
def rNeW (K : PySem.W.Frag) : R2 := fun x y H Q => ∃ n c, n ≤ 60 ∧ EqS K H (EqQ K H n) x y c ∧ Q (.bl (!c)) H
theorem eqW (h : X.K = K) (hu : X.A.units + 64 < cLine) : OpR X (compareOp .Eq) (rEqW K) := by
  subst h
  intro pins s σ H x y v u Q I rx ry h
  obtain ⟨n, c, hn, h, q⟩ := h
  exact (eqS_run I (A := X.A) (by omega) (eqQ_run I n X.A.in1 (by show X.A.units + 1 + n < cLine; omega)) h rx ry).1 _ _ _ _ ⟨.bl c, H, I, rfl, q⟩
theorem neW (h : X.K = K) (hu : X.A.units + 64 < cLine) : OpR X (compareOp .NotEq) (rNeW K) := by
  subst h
  intro pins s σ H x y v u Q I rx ry h
  obtain ⟨n, c, hn, h, q⟩ := h
  exact (eqS_run I (A := X.A) (by omega) (eqQ_run I n X.A.in1 (by show X.A.units + 1 + n < cLine; omega)) h rx ry).2 _ _ _ _ ⟨.bl (!c), H, I, rfl, q⟩
/-- None against a list, too -/
def rEqO (K : PySem.W.Frag) : R2 := fun x y H Q => (x = .non ∧ ∃ b ys, y = .ref b ∧ SqL K H b ys ∧ Q (.bl false) H) ∨ rEqW K x y H Q
theorem eqO (h : X.K = K) (hu : X.A.units + 64 < cLine) : OpR X (compareOp .Eq) (rEqO K) := by
  intro pins s σ H x y v u Q I rx ry hh
  rcases hh with ⟨rfl, b, ys, rfl, hb, q⟩ | hh
  · subst h
    cases (show v = Value.none from rx)
    cases (show u = Value.ref b from ry)
    obtain ⟨ws, r2, p2, _⟩ := I.list hb
    exact SeqAt.RcAt.none_list (A := X.A) p2.isList (by omega) _ _ _ _ ⟨.bl false, H, I, rfl, q⟩
  · exact eqW h hu _ _ _ _ _ _ _ _ _ I rx ry hh
end
/-! #### alike: what compares equal -/
/-- equal, of nesting below n -/
def Alk (K : PySem.W.Frag) (H : Hp) (n : Nat) (x y : V) : Prop := EqQ K H n x y true
def AlkAll (K : PySem.W.Frag) (H : Hp) (n : Nat) (xs ys : List V) : Prop := xs.length = ys.length ∧ ∀ (j : Nat) (u v : V), xs[j]? = some u → ys[j]? = some v → Alk K H n u v
section
variable {K : PySem.W.Frag} {H : Hp} {n : Nat}
theorem Alk.flat {x : V} (h : flatV x = true) : Alk K H (n + 1) x x := .inl ⟨h, h, by
  cases x with
  | non => rfl
  | bl b => exact (beq_self_eq_true b).symm
  | int i => exact (beq_self_eq_true i).symm
  | str z => exact (beq_self_eq_true z).symm
  | _ => cases h⟩
theorem Alk.ref {a : Addr} : Alk K H (n + 1) (.ref a) (.ref a) := .inr (.inl ⟨a, rfl, rfl, rfl⟩)
theorem all_true (k : Nat) : true = (List.range k).all fun _ => true := (List.all_eq_true.mpr fun _ _ => rfl).symm
theorem eqS_lst {a b : Addr} {xs ys : List V} (ha : SqL K H a xs) (hb : SqL K H b ys) (h : AlkAll K H n xs ys) : EqS K H (EqQ K H n) (.ref a) (.ref b) true :=
  .inl ⟨a, b, xs, ys, fun _ => true, rfl, rfl, ha, hb, .inr rfl, h.1, h.2, all_true _⟩
theorem eqS_tup {a b : Addr} {xs ys : List V} (ha : SqT K H a xs) (hb : SqT K H b ys) (h : AlkAll K H n xs ys) : EqS K H (EqQ K H n) (.ref a) (.ref b) true :=
  .inr (.inl ⟨a, b, xs, ys, fun _ => true, rfl, rfl, ha, hb, .inr rfl, h.2, by rw [← all_true, h.1, beq_self_eq_true]; rfl⟩)
theorem Alk.lst {a b : Addr} {xs ys : List V} (ha : SqL K H a xs) (hb : SqL K H b ys) (h : AlkAll K H n xs ys) : Alk K H (n + 1) (.ref a) (.ref b) := .inr (.inr (eqS_lst ha hb h))
theorem Alk.tup {a b : Addr} {xs ys : List V} (ha : SqT K H a xs) (hb : SqT K H b ys) (h : AlkAll K H n xs ys) : Alk K H (n + 1) (.ref a) (.ref b) := .inr (.inr (eqS_tup ha hb h))
theorem AlkAll.nil : AlkAll K H n [] [] := ⟨rfl, fun _ _ _ h => nomatch h⟩
theorem AlkAll.cons {x y : V} {xs ys : List V} (h : Alk K H n x y) (r : AlkAll K H n xs ys) : AlkAll K H n (x :: xs) (y :: ys) := ⟨by rw [List.length_cons, List.length_cons, r.1], fun j u v e1 e2 => by
  cases j with
  | zero =>
    cases e1
    cases e2
    exact h
  | succ j => exact r.2 j u v e1 e2⟩
theorem AlkAll.flat {xs : List V} (h : ∀ x ∈ xs, flatV x = true) : AlkAll K H (n + 1) xs xs := ⟨rfl, fun j u v e1 e2 => by
  cases e1.symm.trans e2
  exact Alk.flat (h _ (List.mem_of_getElem? e1))⟩
theorem rd_eqW {Q : VK} {x y : V} (h : EqS K H (EqQ K H n) x y true) (q : Q (.bl true) H) (hn : n ≤ 60 := by decide) : rEqW K x y H Q := ⟨n, true, hn, h, q⟩
theorem rd_neW {Q : VK} {x y : V} (h : EqS K H (EqQ K H n) x y true) (q : Q (.bl false) H) (hn : n ≤ 60 := by decide) : rNeW K x y H Q := ⟨n, true, hn, h, q⟩
theorem rd_eqWF {Q : VK} {x y : V} (h : EqS K H (EqQ K H n) x y false) (q : Q (.bl false) H) (hn : n ≤ 60 := by decide) : rEqW K x y H Q := ⟨n, false, hn, h, q⟩
theorem rd_neWF {Q : VK} {x y : V} (h : EqS K H (EqQ K H n) x y false) (q : Q (.bl true) H) (hn : n ≤ 60 := by decide) : rNeW K x y H Q := ⟨n, false, hn, h, q⟩
/-- lists, tuples of unlike lengths -/
theorem eqS_len {a b : Addr} {xs ys : List V} (ha : SqL K H a xs) (hb : SqL K H b ys) (h : a ≠ b) (l : xs.length ≠ ys.length) : EqS K H (EqQ K H n) (.ref a) (.ref b) false := .inr (.inr ⟨a, b, xs, ys, rfl, rfl, ha, hb, h, l, rfl⟩)
end
end My

/-! ### P0F: comprehensions with a test; zip of a tuple with a list -/
namespace My
open PySem PySem.Spec PyProof.Rows L2
section
variable {K : PySem.W.Frag} {σ : L2.St} {Q : VK}
/-- the list under construction is set aside while an element is evaluated, not while the test is -/
theorem lcgoT {J : It} {n k : Nat} {G : Hp → Prop} {Y : Nat → Hp → V → Hp → Prop} {te : TE} {tt : TT} {vs : List Nat} {H1 : Hp} (w : Walk J n G Y) (hz : n ≤ 100000) (Yx : Nat → V → Prop) (hY : ∀ i H x H', i < n → G H → Y i H x H' → H' = H ∧ Yx i x)
    (hw : ∀ x, wipe ((wipe σ vs).set k (some x)) vs = wipe σ vs) (Pv : Nat → List V → Hp → Prop) (h0 : Pv 0 [] H1) (hG : ∀ i acc H D, i ≤ n → Pv i acc H → H D = none → G (upd H D (.lst acc)))
    (hs : ∀ i x acc H D, i < n → acc.length ≤ i → Pv i acc H → H D = none → Yx i x → ∃ b : Bool, (∀ P : Bool → Hp → Prop, P b (upd H D (.lst acc)) → tt ((wipe σ vs).set k (some x)) (upd H D (.lst acc)) P) ∧ (b = false → Pv (i + 1) acc H) ∧
      (b = true → ∀ Qc : VK, (∀ y H', Pv (i + 1) (acc ++ [y]) H' → Qc y H') → te ((wipe σ vs).set k (some x)) H Qc))
    (hd : ∀ acc H D, acc.length ≤ n → Pv n acc H → H D = none → Q (.ref D) (upd H D (.lst acc))) : LcGo J (gName k) tt (tFrm te) vs σ H1 Q := by
  refine fun D hD => lc_it w (fun i H => ∃ acc H0, acc.length ≤ i ∧ H = upd H0 D (.lst acc) ∧ H0 D = none ∧ Pv i acc H0) ⟨[], H1, Nat.le_refl _, rfl, hD, h0⟩ (fun i H hi ⟨acc, H0, _, e, hn, p⟩ => e ▸ hG i acc H0 D hi p hn) ?_ ?_
  · rintro i x H H' hi ⟨acc, H0, hla, rfl, hn, p⟩ y
    obtain ⟨rfl, yx⟩ := hY i _ x H' hi (hG i acc H0 D (Nat.le_of_lt hi) p hn) y
    refine ⟨hw _, ?_⟩
    obtain ⟨b, ht, hf, hy⟩ := hs i x acc H0 D hi hla p hn yx
    refine ht _ ?_
    cases b with
    | false => exact iteF ⟨acc, H0, by omega, rfl, hn, hf rfl⟩
    | true =>
      refine iteT ⟨D, acc, upd_same, ?_⟩
      rw [wo_upd hn]
      refine hy rfl _ fun y H' p' hD' => ⟨acc, upd_same, Nat.lt_of_lt_of_le (show acc.length < 100000 by omega) (by decide), acc ++ [y], H', by rw [List.length_append]; show acc.length + 1 ≤ i + 1; omega, by rw [upd_upd], hD', p'⟩
  · rintro H ⟨acc, H0, hla, rfl, hn, p⟩
    exact hd acc H0 D hla p hn
/-- .. its test, its element functions of the item -/
theorem lcgo_filt {J : It} {n k : Nat} {G : Hp → Prop} {Y : Nat → Hp → V → Hp → Prop} {te : TE} {tt : TT} {vs : List Nat} {H1 : Hp} {xs : List V} (w : Walk J n G Y) (hn : xs.length = n) (hz : n ≤ 100000) (f : V → Bool) (g : V → V) (hY : ∀ i H x H', i < n → G H → Y i H x H' → H' = H ∧ xs[i]? = some x)
    (hw : ∀ x, wipe ((wipe σ vs).set k (some x)) vs = wipe σ vs) (hG : ∀ acc D, H1 D = none → G (upd H1 D (.lst acc)))
    (ht : ∀ x ∈ xs, ∀ acc D (P : Bool → Hp → Prop), H1 D = none → P (f x) (upd H1 D (.lst acc)) → tt ((wipe σ vs).set k (some x)) (upd H1 D (.lst acc)) P)
    (he : ∀ x ∈ xs, f x = true → ∀ Q' : VK, Q' (g x) H1 → te ((wipe σ vs).set k (some x)) H1 Q')
    (hq : ∀ D, H1 D = none → Q (.ref D) (upd H1 D (.lst ((xs.filter f).map g)))) : LcGo J (gName k) tt (tFrm te) vs σ H1 Q := by
  refine lcgoT w hz (fun i x => xs[i]? = some x) hY hw (fun i acc H => H = H1 ∧ acc = ((xs.take i).filter f).map g) ⟨rfl, rfl⟩ (fun i acc H D _ p hD => by rw [p.1] at hD ⊢; exact hG acc D hD) ?_ ?_
  · rintro i x acc H D hi hla ⟨rfl, rfl⟩ hD hx
    have hm := List.mem_of_getElem? hx
    have e : xs.take (i + 1) = xs.take i ++ [x] := by rw [List.take_add_one, hx]; rfl
    refine ⟨f x, fun P p => ht x hm _ D P hD p, fun hf => ⟨rfl, ?_⟩, fun hf Qc hq' => he x hm hf _ (hq' _ _ ⟨rfl, ?_⟩)⟩
    · rw [e, List.filter_append, List.filter_cons, hf]
      simp
    · rw [e, List.filter_append, List.filter_cons, hf]
      simp
  · rintro acc H D hla ⟨rfl, rfl⟩ hD
    have e : xs.take n = xs := List.take_of_length_le (by omega)
    rw [e]
    exact hq D hD
/-- .. over the signs of a text -/
theorem lcgo_fstr {te : TE} {tt : TT} {vs : List Nat} {k : Nat} {z : Str} {H : Hp} (f : Nat → Bool) (g : Nat → V) (hz : z.length ≤ 100000) (hw : ∀ x, wipe ((wipe σ vs).set k (some x)) vs = wipe σ vs)
    (ht : ∀ (c : Nat) (H' : Hp) (P : Bool → Hp → Prop), c ∈ z.cps.toList → P (f c) H' → tt ((wipe σ vs).set k (some (.str ⟨#[c]⟩))) H' P)
    (he : ∀ (c : Nat) (H' : Hp) (Q' : VK), c ∈ z.cps.toList → f c = true → Q' (g c) H' → te ((wipe σ vs).set k (some (.str ⟨#[c]⟩))) H' Q')
    (hq : ∀ D, H D = none → Q (.ref D) (upd H D (.lst ((z.cps.toList.filter f).map g)))) : LcGo (Its z) (gName k) tt (tFrm te) vs σ H Q := by
  have hl : z.cps.size = z.cps.toList.length := by simp
  refine lcgoT walk_str hz (fun i x => ∃ c, z.cps.toList[i]? = some c ∧ x = .str ⟨#[c]⟩) (fun i H x H' _ _ ⟨e, c, hc, hx⟩ => ⟨e, c, by simpa using hc, hx⟩) hw (fun i acc H' => H' = H ∧ acc = ((z.cps.toList.take i).filter f).map g) ⟨rfl, rfl⟩ (fun _ _ _ _ _ _ _ => trivial) ?_ ?_
  · rintro i x acc H' D hi hla ⟨rfl, rfl⟩ hD ⟨c, hc, rfl⟩
    have hm := List.mem_of_getElem? hc
    have e : z.cps.toList.take (i + 1) = z.cps.toList.take i ++ [c] := by rw [List.take_add_one, hc]; rfl
    refine ⟨f c, fun P p => ht c _ P hm p, fun hf => ⟨rfl, ?_⟩, fun hf Qc hq' => he c _ _ hm hf (hq' _ _ ⟨rfl, ?_⟩)⟩
    · rw [e, List.filter_append, List.filter_cons, hf]
      simp
    · rw [e, List.filter_append, List.filter_cons, hf]
      simp
  · rintro acc H' D hla ⟨rfl, rfl⟩ hD
    have e : z.cps.toList.take z.cps.size = z.cps.toList := List.take_of_length_le (by rw [← hl]; exact Nat.le_refl _)
    rw [e]
    exact hq D hD
end
end My

/-! ### P0L: lists of tuples, tables with int keys, what a deed leaves alone; comprehensions of any target -/
namespace My
open PySem PySem.Spec PyProof.Rows L2
section
variable {K : PySem.W.Frag} {σ : L2.St} {H : Hp} {Q : VK} {v : V}
/-! #### a comprehension, its target and test of any kind; its list is set aside while an element is evaluated -/
theorem lcgoG {J : It} {n : Nat} {G : Hp → Prop} {Y : Nat → Hp → V → Hp → Prop} {te : TE} {tt : TT} {g : TG} {vs : List Nat} {H1 : Hp} (w : Walk J n G Y) (hz : n ≤ 100000) (Yx : Nat → V → Prop) (hY : ∀ i H x H', i < n → G H → Y i H x H' → H' = H ∧ Yx i x)
    (Pv : Nat → List V → Hp → Prop) (h0 : Pv 0 [] H1) (hG : ∀ i acc H D, i ≤ n → Pv i acc H → H D = none → G (upd H D (.lst acc)))
    (hs : ∀ i x acc H D, i < n → acc.length ≤ i → Pv i acc H → H D = none → Yx i x → ∃ (σ2 : L2.St) (b : Bool), wipe σ2 vs = wipe σ vs ∧
      (∀ P : L2.St → Hp → Prop, P σ2 (upd H D (.lst acc)) → g x (wipe σ vs) (upd H D (.lst acc)) P) ∧
      (∀ P : Bool → Hp → Prop, P b (upd H D (.lst acc)) → tt σ2 (upd H D (.lst acc)) P) ∧ (b = false → Pv (i + 1) acc H) ∧
      (b = true → ∀ Qc : VK, (∀ y H', Pv (i + 1) (acc ++ [y]) H' → Qc y H') → te σ2 H Qc))
    (hd : ∀ acc H D, acc.length ≤ n → Pv n acc H → H D = none → Q (.ref D) (upd H D (.lst acc))) : LcGo J g tt (tFrm te) vs σ H1 Q := by
  refine fun D hD => lc_it w (fun i H => ∃ acc H0, acc.length ≤ i ∧ H = upd H0 D (.lst acc) ∧ H0 D = none ∧ Pv i acc H0) ⟨[], H1, Nat.le_refl _, rfl, hD, h0⟩ (fun i H hi ⟨acc, H0, _, e, hn, p⟩ => e ▸ hG i acc H0 D hi p hn) ?_ ?_
  · rintro i x H H' hi ⟨acc, H0, hla, rfl, hn, p⟩ y
    obtain ⟨rfl, yx⟩ := hY i _ x H' hi (hG i acc H0 D (Nat.le_of_lt hi) p hn) y
    obtain ⟨σ2, b, hw, hg, ht, hf, hy⟩ := hs i x acc H0 D hi hla p hn yx
    refine hg _ ⟨hw, ?_⟩
    refine ht _ ?_
    cases b with
    | false => exact iteF ⟨acc, H0, by omega, rfl, hn, hf rfl⟩
    | true =>
      refine iteT ⟨D, acc, upd_same, ?_⟩
      rw [wo_upd hn]
      refine hy rfl _ fun y H' p' hD' => ⟨acc, upd_same, Nat.lt_of_lt_of_le (show acc.length < 100000 by omega) (by decide), acc ++ [y], H', by rw [List.length_append]; show acc.length + 1 ≤ i + 1; omega, by rw [upd_upd], hD', p'⟩
  · rintro H ⟨acc, H0, hla, rfl, hn, p⟩
    exact hd acc H0 D hla p hn
theorem yes_b {P : Bool → Hp → Prop} (h : P true H) : tYes σ H P := h
/-! #### lists of tuples -/
inductive RowsAt (H : Hp) : List V → List (List V) → Prop
  | nil : RowsAt H [] []
  | cons {t : Addr} {r : List V} {ps : List V} {rs : List (List V)} (h : H t = some (.tup r)) (k : RowsAt H ps rs) : RowsAt H (.ref t :: ps) (r :: rs)
theorem RowsAt.same {H H' : Hp} (s : ∀ b xs, H b = some (.tup xs) → H' b = some (.tup xs)) {ps : List V} {rs : List (List V)} (h : RowsAt H ps rs) : RowsAt H' ps rs := by
  induction h with
  | nil => exact .nil
  | cons h _ ih => exact .cons (s _ _ h) ih
theorem RowsAt.keep {H H' : Hp} (s : Same H H') {ps : List V} {rs : List (List V)} (h : RowsAt H ps rs) : RowsAt H' ps rs := h.same fun b _ e => s b _ e
theorem RowsAt.app {H : Hp} {ps qs : List V} {rs ss : List (List V)} (h : RowsAt H ps rs) (k : RowsAt H qs ss) : RowsAt H (ps ++ qs) (rs ++ ss) := by
  induction h with
  | nil => exact k
  | cons h _ ih => exact .cons h ih
theorem RowsAt.snoc {H : Hp} {ps : List V} {rs : List (List V)} {t : Addr} {r : List V} (h : RowsAt H ps rs) (e : H t = some (.tup r)) : RowsAt H (ps ++ [.ref t]) (rs ++ [r]) := h.app (.cons e .nil)
theorem RowsAt.len {H : Hp} {ps : List V} {rs : List (List V)} (h : RowsAt H ps rs) : ps.length = rs.length := by
  induction h with
  | nil => rfl
  | cons _ _ ih => rw [List.length_cons, List.length_cons, ih]
theorem RowsAt.get {H : Hp} {ps : List V} {rs : List (List V)} (h : RowsAt H ps rs) : ∀ {i : Nat} {x : V}, ps[i]? = some x → ∃ t r, x = .ref t ∧ rs[i]? = some r ∧ H t = some (.tup r) := by
  induction h with
  | nil => intro i x e; simp at e
  | @cons t r ps rs h _ ih =>
    intro i x e
    cases i with
    | zero => exact ⟨t, r, (Option.some.inj e).symm, rfl, h⟩
    | succ i => exact ih (by simpa using e)
theorem RowsAt.mem {H : Hp} {ps : List V} {rs : List (List V)} (h : RowsAt H ps rs) {x : V} (m : x ∈ ps) : ∃ t r, x = .ref t ∧ r ∈ rs ∧ H t = some (.tup r) := by
  obtain ⟨i, hi⟩ := List.getElem?_of_mem m
  obtain ⟨t, r, e, e2, e3⟩ := h.get hi
  exact ⟨t, r, e, List.mem_of_getElem? e2, e3⟩
/-- a test of the items of a list of tuples, as one of the tuples -/
def onTup (H : Hp) (f : List V → Bool) : V → Bool
  | .ref a => match H a with
    | some (.tup xs) => f xs
    | _ => false
  | _ => false
theorem onTup_eq {H : Hp} {f : List V → Bool} {t : Addr} {r : List V} (h : H t = some (.tup r)) : onTup H f (.ref t) = f r := by
  simp only [onTup, h]
theorem RowsAt.filter {H H1 : Hp} (f : List V → Bool) {ps : List V} {rs : List (List V)} (h : RowsAt H ps rs) (s : ∀ b xs, H b = some (.tup xs) → H1 b = some (.tup xs)) : RowsAt H (ps.filter (onTup H1 f)) (rs.filter f) := by
  induction h with
  | nil => exact .nil
  | @cons t r ps rs h k ih =>
    rw [List.filter_cons, List.filter_cons, onTup_eq (s _ _ h)]
    cases f r with
    | true => exact .cons h ih
    | false => exact ih
theorem RowsAt.reverse {H : Hp} {ps : List V} {rs : List (List V)} (h : RowsAt H ps rs) : RowsAt H ps.reverse rs.reverse := by
  induction h with
  | nil => exact .nil
  | cons h _ ih =>
    rw [List.reverse_cons, List.reverse_cons]
    exact ih.snoc h
theorem RowsAt.drop {H : Hp} {ps : List V} {rs : List (List V)} (h : RowsAt H ps rs) : ∀ n : Nat, RowsAt H (ps.drop n) (rs.drop n) := by
  induction h with
  | nil => intro n; simp only [List.drop_nil]; exact .nil
  | cons h k ih =>
    intro n
    cases n with
    | zero => exact .cons h k
    | succ n => exact ih n
theorem RowsAt.dropLast {H : Hp} {ps : List V} {rs : List (List V)} (h : RowsAt H ps rs) : RowsAt H ps.dropLast rs.dropLast := by
  induction h with
  | nil => exact .nil
  | cons h k ih =>
    cases k with
    | nil => exact .nil
    | cons h2 k2 => exact .cons h ih
theorem RowsAt.last {H : Hp} {r : List V} : ∀ {rs : List (List V)} {ps : List V}, RowsAt H ps (rs ++ [r]) → ∃ qs t, ps = qs ++ [.ref t] ∧ RowsAt H qs rs ∧ H t = some (.tup r)
  | [], _, .cons h .nil => ⟨[], _, rfl, .nil, h⟩
  | _ :: _, _, .cons h k => by
    obtain ⟨qs, t, rfl, k2, e⟩ := RowsAt.last k
    exact ⟨_ :: qs, t, rfl, .cons h k2, e⟩
/-- the first number of a tuple, tested -/
def onFst (f : Int → Bool) : List V → Bool
  | .int k :: _ => f k
  | _ => false
/-- such a list as data -/
theorem RowsAt.dp {K : PySem.W.Frag} {H : Hp} {ps : List V} {rs : List (List V)} (f : V → PyData) (h : RowsAt H ps rs) (hf : ∀ r ∈ rs, DpAll K H r (r.map f)) : DpAll K H ps (rs.map fun r => .tuple (r.map f)) := by
  induction h with
  | nil => exact .nil
  | @cons t r ps rs h _ ih => exact .cons (.tup (sqT_of h) (hf r List.mem_cons_self)) (ih fun r hr => hf r (List.mem_cons_of_mem _ hr))
def dI : V → PyData
  | .int i => .int i
  | .str z => .str z
  | .bl b => .bool b
  | _ => .none
theorem dpI {K : PySem.W.Frag} {H : Hp} : ∀ {r : List V}, (∀ x ∈ r, ∃ i : Int, x = .int i) → DpAll K H r (r.map dI)
  | [], _ => .nil
  | x :: r, h => by
    obtain ⟨i, rfl⟩ := h x List.mem_cons_self
    exact .cons (.int i) (dpI fun y hy => h y (List.mem_cons_of_mem _ hy))
/-! #### what a deed leaves alone: all but what may change of S -/
def imm : HO → Bool
  | .lst _ => false
  | .dK _ => false
  | _ => true
def KeepS (S : List Addr) (H H' : Hp) : Prop := ∀ b o, H b = some o → (imm o = true ∨ b ∉ S) → H' b = some o
theorem KeepS.refl (S : List Addr) (H : Hp) : KeepS S H H := fun _ _ h _ => h
theorem KeepS.of {S : List Addr} {H H' : Hp} (s : Same H H') : KeepS S H H' := fun b o h _ => s b o h
theorem KeepS.trans {S : List Addr} {H H1 H2 : Hp} (a : KeepS S H H1) (b : KeepS S H1 H2) : KeepS S H H2 := fun c o h n => b c o (a c o h n) n
theorem KeepS.mono {S S' : List Addr} {H H' : Hp} (s : KeepS S H H') (h : ∀ x ∈ S, x ∈ S') : KeepS S' H H' := fun b o e n => s b o e (n.imp id fun n m => n (h b m))
theorem KeepS.tup {S : List Addr} {H H' : Hp} (s : KeepS S H H') : ∀ b xs, H b = some (.tup xs) → H' b = some (.tup xs) := fun b _ e => s b _ e (.inl rfl)
theorem KeepS.put {S : List Addr} {H H1 : Hp} {p : Addr} {o u : HO} (s : KeepS S H H1) (h : H p = some u) (hu : imm u = false) (m : p ∈ S) : KeepS S H (upd H1 p o) := fun b x e n => by
  by_cases hb : b = p
  · subst hb
    rw [h] at e
    cases e
    rcases n with n | n
    · rw [hu] at n
      cases n
    · exact absurd m n
  · rw [upd_ne hb]
    exact s b x e n
theorem KeepS.new {S : List Addr} {H H1 : Hp} {p : Addr} {o : HO} (s : KeepS S H H1) (h : H p = none) : KeepS S H (upd H1 p o) := fun b x e n => by
  rw [upd_ne (ne_of_none e h)]
  exact s b x e n
theorem hp_ks {S : List Addr} {H H' : Hp} {q : Addr} {o : HO} (s : KeepS S H H') (n : imm o = true ∨ q ∉ S) (h : H q = some o) : H' q = some o := s q o h n
/-! #### dicts with keys of ints and texts -/
def Dg2 (ty tx : TE) (σ : L2.St) (Q : VK) : VK := fun x H1 => ∃ a, x = .ref a ∧ IsD H1 a ∧ ty σ H1 fun y H2 => tx σ H2 fun z H3 => ∃ o, DGet H3 a y o ∧ Q (o.getD z) H3
def Dg2b (a : Addr) (y : V) (Q : VK) : VK := fun z H3 => ∃ o, DGet H3 a y o ∧ Q (o.getD z) H3
theorem rd_dget2 {td ty tx : TE} (h : td σ H (Dg2 ty tx σ Q)) : tDGet2 td ty tx σ H Q := h
theorem rd_dg2 {ty tx : TE} {a : Addr} {kvs : List (Key × V)} (h : H a = some (.dK kvs)) (q : ty σ H fun y H2 => tx σ H2 (Dg2b a y Q)) : Dg2 ty tx σ Q (.ref a) H := ⟨a, rfl, .inl ⟨kvs, .inl h⟩, q⟩
theorem rd_dg2I {a : Addr} {k : Int} {z : V} {kvs : List (Key × V)} (h : H a = some (.dK kvs)) (q : Q ((valV kvs (.inl k)).getD z) H) : Dg2b a (.int k) Q z H := ⟨_, DGet.k (k := .inl k) h, q⟩
theorem rd_dg2S {a : Addr} {k : Str} {z : V} {kvs : List (Key × V)} (h : H a = some (.dK kvs)) (q : Q ((valV kvs (.inr k)).getD z) H) : Dg2b a (.str k) Q z H := ⟨_, DGet.k (k := .inr k) h, q⟩
def Dg1 (ty : TE) (σ : L2.St) (Q : VK) : VK := fun x H1 => ∃ a, x = .ref a ∧ IsD H1 a ∧ ty σ H1 fun y H2 => ∃ o, DGet H2 a y o ∧ Q (o.getD .non) H2
def Dg1b (a : Addr) (Q : VK) : VK := fun y H2 => ∃ o, DGet H2 a y o ∧ Q (o.getD .non) H2
theorem rd_dget1 {td ty : TE} (h : td σ H (Dg1 ty σ Q)) : tDGet1 td ty σ H Q := h
theorem rd_dg1 {ty : TE} {a : Addr} {kvs : List (Key × V)} (h : H a = some (.dK kvs)) (q : ty σ H (Dg1b a Q)) : Dg1 ty σ Q (.ref a) H := ⟨a, rfl, .inl ⟨kvs, .inl h⟩, q⟩
theorem rd_dg1I {a : Addr} {k : Int} {kvs : List (Key × V)} (h : H a = some (.dK kvs)) (q : Q ((valV kvs (.inl k)).getD .non) H) : Dg1b a Q (.int k) H := ⟨_, DGet.k (k := .inl k) h, q⟩
theorem rd_dg1S {a : Addr} {k : Str} {kvs : List (Key × V)} (h : H a = some (.dK kvs)) (q : Q ((valV kvs (.inr k)).getD .non) H) : Dg1b a Q (.str k) H := ⟨_, DGet.k (k := .inr k) h, q⟩
/-- d[k] -/
def Dgt (ty : TE) (σ : L2.St) (Q : VK) : VK := fun x H1 => ty σ H1 fun y H2 => ∃ a v, x = .ref a ∧ DGet H2 a y (some v) ∧ Q v H2
def Dgtb (x : V) (Q : VK) : VK := fun y H2 => ∃ a v, x = .ref a ∧ DGet H2 a y (some v) ∧ Q v H2
theorem rd_dget {td ty : TE} (h : td σ H (Dgt ty σ Q)) : tDGet td ty σ H Q := h
theorem rd_dgt {ty : TE} {x : V} (h : ty σ H (Dgtb x Q)) : Dgt ty σ Q x H := h
theorem rd_dgtI {a : Addr} {k : Int} {kvs : List (Key × V)} (h : H a = some (.dK kvs)) (l : valV kvs (.inl k) = some v) (q : Q v H) : Dgtb (.ref a) Q (.int k) H := ⟨a, v, rfl, l ▸ DGet.k (k := .inl k) h, q⟩
theorem rd_dgtS {a : Addr} {k : Str} {kvs : List (Key × V)} (h : H a = some (.dK kvs)) (l : valV kvs (.inr k) = some v) (q : Q v H) : Dgtb (.ref a) Q (.str k) H := ⟨a, v, rfl, l ▸ DGet.k (k := .inr k) h, q⟩
/-- d[k] = v -/
def Dpt (td ty : TE) (D : Ends) (σ : L2.St) : VK := fun v H1 => td σ H1 fun x H2 => ty σ H2 fun y H3 => ∃ a H4, x = .ref a ∧ DPut H3 a y v H4 ∧ D.nx σ H4
def Dpta (ty : TE) (v : V) (D : Ends) (σ : L2.St) : VK := fun x H2 => ty σ H2 fun y H3 => ∃ a H4, x = .ref a ∧ DPut H3 a y v H4 ∧ D.nx σ H4
def Dptb (v x : V) (D : Ends) (σ : L2.St) : VK := fun y H3 => ∃ a H4, x = .ref a ∧ DPut H3 a y v H4 ∧ D.nx σ H4
theorem rd_dput {td ty tv : TE} {D : Ends} (h : tv σ H (Dpt td ty D σ)) : sDPut td ty tv D σ H := h
theorem rd_dpt {td ty : TE} {D : Ends} (h : td σ H (Dpta ty v D σ)) : Dpt td ty D σ v H := h
theorem rd_dpta {ty : TE} {x : V} {D : Ends} (h : ty σ H (Dptb v x D σ)) : Dpta ty v D σ x H := h
theorem rd_dptI {a : Addr} {k : Int} {D : Ends} {kvs : List (Key × V)} (h : H a = some (.dK kvs)) (l : kvs.length ≤ 100000) (q : D.nx σ (upd H a (.dK (putK kvs (.inl k) v)))) : Dptb v (.ref a) D σ (.int k) H := ⟨a, _, rfl, DPut.k (k := .inl k) h (Nat.lt_of_le_of_lt l (by decide)), q⟩
theorem rd_dptS {a : Addr} {k : Str} {D : Ends} {kvs : List (Key × V)} (h : H a = some (.dK kvs)) (l : kvs.length ≤ 100000) (q : D.nx σ (upd H a (.dK (putK kvs (.inr k) v)))) : Dptb v (.ref a) D σ (.str k) H := ⟨a, _, rfl, DPut.k (k := .inr k) h (Nat.lt_of_le_of_lt l (by decide)), q⟩
/-- k in d -/
def Dib (y : V) (Q : VK) : VK := fun x H2 => ∃ a o, x = .ref a ∧ DGet H2 a y o ∧ Q (.bl o.isSome) H2
def Dnb (y : V) (Q : VK) : VK := fun x H2 => ∃ a o, x = .ref a ∧ DGet H2 a y o ∧ Q (.bl (!o.isSome)) H2
theorem rd_din {ty td : TE} (h : ty σ H fun y H1 => td σ H1 (Dib y Q)) : tDIn ty td σ H Q := h
theorem rd_dnin {ty td : TE} (h : ty σ H fun y H1 => td σ H1 (Dnb y Q)) : tDNotIn ty td σ H Q := h
theorem rd_dinI {a : Addr} {k : Int} {kvs : List (Key × V)} (h : H a = some (.dK kvs)) (q : Q (.bl (valV kvs (.inl k)).isSome) H) : Dib (.int k) Q (.ref a) H := ⟨a, _, rfl, DGet.k (k := .inl k) h, q⟩
theorem rd_dinS {a : Addr} {k : Str} {kvs : List (Key × V)} (h : H a = some (.dK kvs)) (q : Q (.bl (valV kvs (.inr k)).isSome) H) : Dib (.str k) Q (.ref a) H := ⟨a, _, rfl, DGet.k (k := .inr k) h, q⟩
theorem rd_dninI {a : Addr} {k : Int} {kvs : List (Key × V)} (h : H a = some (.dK kvs)) (q : Q (.bl (!(valV kvs (.inl k)).isSome)) H) : Dnb (.int k) Q (.ref a) H := ⟨a, _, rfl, DGet.k (k := .inl k) h, q⟩
theorem rd_dninS {a : Addr} {k : Str} {kvs : List (Key × V)} (h : H a = some (.dK kvs)) (q : Q (.bl (!(valV kvs (.inr k)).isSome)) H) : Dnb (.str k) Q (.ref a) H := ⟨a, _, rfl, DGet.k (k := .inr k) h, q⟩
/-- d.pop(k) -/
def Dpp (ty : TE) (σ : L2.St) (Q : VK) : VK := fun x H1 => ∃ a, x = .ref a ∧ IsD H1 a ∧ ty σ H1 fun y H2 => ∃ kvs k v, H2 a = some (.dK kvs) ∧ y = kV k ∧ valV kvs k = some v ∧ Q v (upd H2 a (.dK (dropK kvs k)))
def Dppb (a : Addr) (Q : VK) : VK := fun y H2 => ∃ kvs k v, H2 a = some (.dK kvs) ∧ y = kV k ∧ valV kvs k = some v ∧ Q v (upd H2 a (.dK (dropK kvs k)))
theorem rd_dpop1 {td ty : TE} (h : td σ H (Dpp ty σ Q)) : tDPop1 td ty σ H Q := h
theorem rd_dpp {ty : TE} {a : Addr} {kvs : List (Key × V)} (h : H a = some (.dK kvs)) (q : ty σ H (Dppb a Q)) : Dpp ty σ Q (.ref a) H := ⟨a, rfl, .inl ⟨kvs, .inl h⟩, q⟩
theorem rd_dppI {a : Addr} {k : Int} {kvs : List (Key × V)} (h : H a = some (.dK kvs)) (l : valV kvs (.inl k) = some v) (q : Q v (upd H a (.dK (dropK kvs (.inl k))))) : Dppb a Q (.int k) H := ⟨kvs, .inl k, v, h, rfl, l, q⟩
/-! #### a written dict -/
def DispK (p : Addr) (Q : VK) : List (V × V) → Hp → Prop := fun ps H2 => H2 p = some (.dK []) ∧ ∃ kvs : List (Key × V), ps = kvs.map (fun kv => (kV kv.1, kv.2)) ∧ kvs.length ≤ 15 ∧ Q (.ref p) (upd H2 p (.dK (mergeK [] kvs)))
theorem rd_disp {trs : List (TE × TE)} (q : ∀ p, H p = none → tPairs trs σ (upd H p (.dK [])) (DispK p Q)) : tDisp trs σ H Q := q
theorem rd_pairsC {tk tv : TE} {r : List (TE × TE)} {P : List (V × V) → Hp → Prop} (h : tk σ H fun k H1 => tv σ H1 fun v H2 => tPairs r σ H2 fun ps H3 => P ((k, v) :: ps) H3) : tPairs ((tk, tv) :: r) σ H P := h
theorem rd_pairsN {P : List (V × V) → Hp → Prop} (h : P [] H) : tPairs [] σ H P := h
theorem rd_dispK {p : Addr} {ps : List (V × V)} (kvs : List (Key × V)) (h : H p = some (.dK [])) (e : ps = kvs.map fun kv => (kV kv.1, kv.2)) (l : kvs.length ≤ 15) (m : mergeK [] kvs = kvs) (q : Q (.ref p) (upd H p (.dK kvs))) : DispK p Q ps H := ⟨h, kvs, e, l, by rw [m]; exact q⟩
/-! #### a, b = x, y -/
def ParK (i j : Nat) (D : Ends) (σ : L2.St) : List V → Hp → Prop := fun vs H1 => ∃ v w, vs = [v, w] ∧ D.nx ((σ.set i (some v)).set j (some w)) H1
theorem rd_par {i j : Nat} {ta : TA} {D : Ends} (h : ta σ H (ParK i j D σ)) : tPar i j ta D σ H := h
theorem rd_parK {i j : Nat} {D : Ends} {w : V} (q : D.nx ((σ.set i (some v)).set j (some w)) H) : ParK i j D σ [v, w] H := ⟨v, w, rfl, q⟩
/-! #### sorted, sum -/
def rSrtDI : List V → Hp → VK → Prop := fun xs H Q => ∃ (a : Addr) (kvs : List (Key × V)) (ks : List Int), xs = [.ref a] ∧ Rd H a (.dK kvs) ∧ kvs.map (·.1) = ks.map Sum.inl ∧ ks.length < 64 ∧
    ∀ (ys : List Int) (p : Addr), ys.Perm ks → ys.Pairwise (· ≤ ·) → H p = none → Q (.ref p) (upd H p (.lst (ys.map V.int)))
theorem sortDI {X : Cx} (hc : X.calm = true) : CallR X (.builtin "sorted") rSrtDI := call_sortedDI hc
theorem sortIK {X : Cx} (h : X.K = K) : CallR X (.builtin "sorted") (rSortedI K) := h ▸ cr_sortedI
theorem sumK {X : Cx} (h : X.K = K) (hc : X.calm = true) : CallR X (.builtin "sum") (rSum K) := h ▸ cr_sum hc
theorem rd_sum {p : Addr} {ns : List Int} (h : SqL K H p (ns.map V.int)) (q : Q (.int ns.sum) H) : rSum K [.ref p] H Q := ⟨p, ns, rfl, h, q⟩
theorem rd_srtDI {a : Addr} {kvs : List (Key × V)} {ks : List Int} (h : H a = some (.dK kvs)) (hk : kvs.map (·.1) = ks.map Sum.inl) (hl : ks.length < 64) (q : ∀ (ys : List Int) (p : Addr) (H' : Hp), ys.Perm ks → ys.Pairwise (· ≤ ·) → H p = none → Same H H' → H' p = some (.lst (ys.map V.int)) → Q (.ref p) H') : rSrtDI [.ref a] H Q :=
  ⟨a, kvs, ks, rfl, .inl h, hk, hl, fun ys p h1 h2 hp => q ys p _ h1 h2 hp (fun b x e => by rw [upd_ne (ne_of_none e hp)]; exact e) upd_same⟩
theorem rd_srtI {a : Addr} {ns : List Int} (h : SqL K H a (ns.map V.int)) (q : ∀ (ys : List Int) (p : Addr) (H' : Hp), ys.Perm ns → ys.Pairwise (· ≤ ·) → H p = none → Same H H' → H' p = some (.lst (ys.map V.int)) → Q (.ref p) H') : rSortedI K [.ref a] H Q :=
  ⟨a, ns, rfl, h, fun ys p h1 h2 hp => q ys p _ h1 h2 hp (fun b x e => by rw [upd_ne (ne_of_none e hp)]; exact e) upd_same⟩
/-- a tuple times a number; the last item taken out -/
theorem repTK {X : Cx} (h : X.K = K) : OpR X (binaryOp .Mult) (rRepT K) := h ▸ op_repT
theorem rd_repT {l : Addr} {xs : List V} {k : Int} (h : SqT K H l xs) (ne : xs ≠ []) (k0 : 2 ≤ k) (k1 : k ≤ 1000) (hl : xs.length ≤ 1000) (q : ∀ (p : Addr) (H' : Hp), Same H H' → H' p = some (.tup (List.replicate k.toNat xs).flatten) → Q (.ref p) H') : rRepT K (.ref l) (.int k) H Q :=
  ⟨l, k, xs, rfl, rfl, h, ne, k0, k1, hl, fun p hp => q p _ (fun b x e => by rw [upd_ne (ne_of_none e hp)]; exact e) upd_same⟩
theorem rd_pop {l : Addr} {xs : List V} {y : V} (h : H l = some (.lst (xs ++ [y]))) (q : Q y (upd H l (.lst xs))) : rPop (.ref l) [] H Q := by
  refine ⟨l, xs ++ [y], y, rfl, rfl, h, by rw [List.length_append]; simp, ?_⟩
  rw [List.dropLast_concat]
  exact q
theorem rd_bm0 {T : String} {rr : V → List V → Hp → VK → Prop} {te : TE} (h : te σ H fun x H1 => tyV K T x H1 ∧ rr x [] H1 Q) : tBM0 K T rr te σ H Q := h
/-- reversed(list) in a for -/
theorem pi_revK {X : Cx} {tg e : Expr} {ta : TA} {p pos : Pos} (h : X.K = K) (hg : Gl X "reversed") (hm : X.mg "reversed" = none) (ha : PA X [e] ta) (hs : starEach [e] X.env = [(false, eval e X.env)] := by rfl) : PI X tg (.Call (.Name "reversed" p) [e] [] pos) (iRev K ta) := h ▸ pi_reversed hg hm ha hs
def RevIt (K : PySem.W.Frag) (R : It → Hp → Prop) : List V → Hp → Prop := fun vs H1 => ∃ (a : Addr) (xs : List V), vs = [.ref a] ∧ SqL K H1 a xs ∧ R (Itv K a xs.length) H1
theorem rd_irev {ta : TA} {R : It → Hp → Prop} (h : ta σ H (RevIt K R)) : iRev K ta σ H R := h
theorem rd_irevK {R : It → Hp → Prop} {a : Addr} {xs : List V} (h : SqL K H a xs) (q : R (Itv K a xs.length) H) : RevIt K R [.ref a] H := ⟨a, xs, rfl, h, q⟩
theorem rd_rep {l : Addr} {xs : List V} {k : Int} (h : H l = some (.lst xs)) (k0 : 0 ≤ k) (k1 : k ≤ 1000) (hl : xs.length ≤ 1000) (q : ∀ (p : Addr) (H' : Hp), H p = none → Same H H' → H' p = some (.lst (List.replicate k.toNat xs).flatten) → Q (.ref p) H') : rRep (.ref l) (.int k) H Q :=
  ⟨l, k, xs, rfl, rfl, h, by omega, by omega, Nat.le_trans (Nat.mul_le_mul hl (show k.toNat ≤ 1000 by omega)) (by decide), fun p hp => q p _ hp (fun b x e => by rw [upd_ne (ne_of_none e hp)]; exact e) upd_same⟩
theorem rd_clear {l : Addr} {xs : List V} (h : H l = some (.lst xs)) (q : Q .non (upd H l (.lst []))) : rClear (.ref l) [] H Q := ⟨l, xs, rfl, rfl, h, q⟩
/-- the last item put otherwise -/
theorem rd_setLast {p : Addr} {xs : List V} {x : V} {P : Hp → Prop} (h : H p = some (.lst (xs ++ [x]))) (q : P (upd H p (.lst (xs ++ [v])))) : rSetL (.ref p) (.int (-1)) v H P := by
  refine rd_setL h (j := xs.length) ?_ ?_
  · unfold ixN
    rw [List.length_append, if_neg (by decide), if_pos (by simp; omega)]
    congr 1
    simp
    omega
  · have e : (xs ++ [x]).set xs.length v = xs ++ [v] := by simp
    rw [e]
    exact q
/-- extend; remove -/
theorem rd_extend {l b : Addr} {xs zs : List V} (h : H l = some (.lst xs)) (h2 : H b = some (.lst zs)) (hz : xs.length + zs.length ≤ 100000) (q : Q .non (upd H l (.lst (xs ++ zs)))) : rExtend (.ref l) [.ref b] H Q := ⟨l, b, xs, zs, rfl, rfl, h, h2, Nat.le_trans hz (by decide), q⟩
theorem rd_remove {l : Addr} {ns : List Int} {k : Int} (h : H l = some (.lst (ns.map V.int))) (m : k ∈ ns) (q : Q .non (upd H l (.lst ((ns.erase k).map V.int)))) : rRemI (.ref l) [.int k] H Q := by
  obtain ⟨i, hi⟩ := List.getElem?_of_mem m
  have hlt : ns.idxOf k < ns.length := List.idxOf_lt_length_of_mem m
  refine ⟨l, ns, k, ns.idxOf k, rfl, rfl, h, ?_, fun j hj e => ?_, ?_⟩
  · rw [List.getElem?_eq_getElem hlt, List.getElem_idxOf]
  · have hj2 : j < ns.length := Nat.lt_trans hj hlt
    rw [List.getElem?_eq_getElem hj2] at e
    exact absurd (beq_iff_eq.mpr (Option.some.inj e)) (by simpa using List.not_of_lt_findIdx (p := (· == k)) hj)
  · rw [← List.erase_eq_eraseIdx_of_idxOf rfl]
    exact q
end
end My
local macro_rules | `(tactic| walk_at "rd1") => `(tactic| first
  | (with_reducible refine My.rd_dget2 ?_)
  | (with_reducible refine My.rd_dget1 ?_)
  | (with_reducible refine My.rd_dget ?_)
  | (with_reducible refine My.rd_dgt ?_)
  | (with_reducible refine My.rd_dput ?_)
  | (with_reducible refine My.rd_dpt ?_)
  | (with_reducible refine My.rd_dpta ?_)
  | (with_reducible refine My.rd_din ?_)
  | (with_reducible refine My.rd_dnin ?_)
  | (with_reducible refine My.rd_dpop1 ?_)
  | (with_reducible refine My.rd_pairsC ?_)
  | (with_reducible refine My.rd_pairsN ?_)
  | (with_reducible refine My.rd_par ?_)
  | (with_reducible refine My.rd_irev ?_)
  | (with_reducible refine My.rd_bm0 ?_)
  | (with_reducible refine My.rd_parK ?_)
  | ((with_reducible refine My.rd_dg2 (kvs := ?kk) ?hd ?_); (case hd => walk_at "hp"))
  | ((with_reducible refine My.rd_dg2I (kvs := ?kk) ?hd ?_); (case hd => walk_at "hp"))
  | ((with_reducible refine My.rd_dg2S (kvs := ?kk) ?hd ?_); (case hd => walk_at "hp"))
  | ((with_reducible refine My.rd_dg1 (kvs := ?kk) ?hd ?_); (case hd => walk_at "hp"))
  | ((with_reducible refine My.rd_dg1I (kvs := ?kk) ?hd ?_); (case hd => walk_at "hp"))
  | ((with_reducible refine My.rd_dg1S (kvs := ?kk) ?hd ?_); (case hd => walk_at "hp"))
  | ((with_reducible refine My.rd_dinI (kvs := ?kk) ?hd ?_); (case hd => walk_at "hp"))
  | ((with_reducible refine My.rd_dinS (kvs := ?kk) ?hd ?_); (case hd => walk_at "hp"))
  | ((with_reducible refine My.rd_dninI (kvs := ?kk) ?hd ?_); (case hd => walk_at "hp"))
  | ((with_reducible refine My.rd_dninS (kvs := ?kk) ?hd ?_); (case hd => walk_at "hp"))
  | ((with_reducible refine My.rd_dpp (kvs := ?kk) ?hd ?_); (case hd => walk_at "hp")))

/-! ### P0I: an own instance compared with itself -/
namespace My
open PySem PySem.Spec PyProof.Rows L2
structure EqC (K : PySem.W.Frag) (C : Addr) : Prop where
  eq : PySem.W.findIn K (.ref C) "__eq__" = some (some (.builtin "object.__eq__"))
  ne : PySem.W.findIn K (.ref C) "__ne__" = some (some (.builtin "object.__ne__"))
  ob : PySem.W.subIn K (.ref C) (.type "object") = some true
section
variable {prog : Program} {w : World} {A : Around} {E : Value → Shared → Prop} {s : Shared} {K : PySem.W.Frag} {x C : Addr} {o : Obj}
theorem eqI_bound {name : Str} {id : String} {args : List Value} {Q : Option Value → Shared → Prop} (X : K.In s.heap) (hx : s.heap.get? x = some o) (hc : o.cls = .ref C)
    (he : PySem.W.findIn K (.ref C) name = some (some (.builtin id))) (S : Slot "object" name id)
    (hcall : wpAny (model prog w) A (call (.builtin id) (.ref x :: args)) (fun v => Q (some v)) E s) : wpAny (model prog w) A (callSpecialIfBound? (.ref x) name args) Q E s := by
  simp only [callSpecialIfBound?, bindSpecialIfBound?]
  refine wpAny_holding (wpAny_bind (wpAny_bind ?_))
  unfold specialOf
  refine wpAny_bind (wpAny_typeOf_ref hx ?_)
  rw [hc]
  refine (PySem.W.looks_findIn X he).here ?_
  simp only [S.bind]
  refine wpAny_bind (wpAny_askSetting (wpAny_ite ?_))
  have fin : wpAny (model prog w) A (call (.builtin id) ([.ref x] ++ args) >>= fun v => pure (some v)) Q E s :=
    wpAny_bind (wpAny_mono hcall (fun v s' h' => wpAny_pure h') fun _ _ h' => h')
  split
  · exact wpAny_bind (wpAny_pure (wpAny_pure fin))
  · exact wpAny_tryCatch (wpAny_bind (wpAny_pure (wpAny_pure fin)))
theorem eqI_check {id n : String} {rest : List Value} {Q : Unit → Shared → Prop} (X : K.In s.heap) (hx : s.heap.get? x = some o) (hc : o.cls = .ref C) (ob : PySem.W.subIn K (.ref C) (.type "object") = some true)
    (hk : builtinKind id = some .slot) (hs : splitId id = some ("object", n)) (ha : argsOk id ⟨.ref x :: rest, []⟩) (hq : Q () s) :
    wpAny (model prog w) A (checkBuiltinCall id ⟨.ref x :: rest, []⟩) Q E s := by
  simp only [checkBuiltinCall, hk, hs]
  refine wpAny_bind ?_
  unfold isInstance
  refine wpAny_bind (wpAny_typeOf_ref hx ?_)
  rw [hc]
  refine (PySem.W.looks_subIn X ob).here ?_
  cases hsig : Manifest.signature? id with
  | none => exact wpAny_pure hq
  | some sig =>
    simp only [argsOk, hsig] at ha
    have h2 : Bind.checkArgs id sig ⟨.ref x :: rest, []⟩ = pure () := ha
    show wpAny (model prog w) A (Bind.checkArgs id sig ⟨.ref x :: rest, []⟩) Q E _
    rw [h2]; exact wpAny_pure hq
theorem eqI_try {Q : Option Value → Shared → Prop} (X : K.In s.heap) (hx : s.heap.get? x = some o) (hc : o.cls = .ref C) (c : EqC K C) (hq : Q (some (.bool true)) s) :
    wpAny (model prog w) A (tryCompare (.ref x) "__eq__" (.ref x)) Q E s := by
  simp only [tryCompare]
  refine wpAny_bind (eqI_bound X hx hc c.eq F.cmp_object.eq ?_)
  refine wpAny_call (codeAny_call_builtin F.cmp_object.eq.plain F.cmpEntry_eq (eqI_check X hx hc c.ob F.cmpKind_eq F.cmpSplit_eq (F.cmpArgs_eq _ _) (objEq_entry_same ?_)))
  exact wpAny_pure hq
theorem eqI_rc {Q : Value → Shared → Prop} (X : K.In s.heap) (hx : s.heap.get? x = some o) (hc : o.cls = .ref C) (c : EqC K C) (hu : A.units < cLine) (hq : Q (.bool true) s) :
    wpAny (model prog w) A (richCompare .Eq (.ref x) (.ref x)) Q E s := by
  simp only [richCompare, cmpInfo_Eq, oneThing_ref]
  repeat (first | with_reducible refine wpAny_cRoomFor hu ?_ | (with_reducible refine wpAny_typeOf_ref hx ?_) | with_reducible refine eqI_try X hx hc c ?_ | wp_step)
  exact hq
end
section
variable {prog : Program} {w : World} {A : Around} {E : Value → Shared → Prop} {s : Shared} {K : PySem.W.Frag} {x C : Addr} {o : Obj}
theorem eqI_spec {Q : Option Value → Shared → Prop} (X : K.In s.heap) (hx : s.heap.get? x = some o) (hc : o.cls = .ref C) (c : EqC K C) (hq : Q (some (.bool true)) s) :
    wpAny (model prog w) A (callSpecialIfBound? (.ref x) "__eq__" [.ref x]) Q E s := by
  refine eqI_bound X hx hc c.eq F.cmp_object.eq ?_
  exact wpAny_call (codeAny_call_builtin F.cmp_object.eq.plain F.cmpEntry_eq (eqI_check X hx hc c.ob F.cmpKind_eq F.cmpSplit_eq (F.cmpArgs_eq _ _) (objEq_entry_same hq)))
theorem neI_entry {Q : Fin → Shared → Prop} (X : K.In s.heap) (hx : s.heap.get? x = some o) (hc : o.cls = .ref C) (c : EqC K C) (hu : A.units < cLine) (hq : Q (.done (.ret (.bool false))) s) :
    wpAny (model prog w) A (Builtin.«object.__ne__» ⟨[.ref x, .ref x], []⟩) Q E s := by
  unfold Builtin.«object.__ne__»
  repeat (first | with_reducible refine wpAny_cRoomFor hu ?_ | with_reducible refine eqI_spec X hx hc c ?_ | wp_step)
  exact hq
theorem neI_try {Q : Option Value → Shared → Prop} (X : K.In s.heap) (hx : s.heap.get? x = some o) (hc : o.cls = .ref C) (c : EqC K C) (hu : A.units + 1 < cLine) (hq : Q (some (.bool false)) s) :
    wpAny (model prog w) A (tryCompare (.ref x) "__ne__" (.ref x)) Q E s := by
  simp only [tryCompare]
  refine wpAny_bind (eqI_bound X hx hc c.ne F.cmp_object.ne ?_)
  refine wpAny_call (codeAny_call_builtin F.cmp_object.ne.plain F.cmpEntry_ne (eqI_check X hx hc c.ob F.cmpKind_ne F.cmpSplit_ne (F.cmpArgs_ne _ _) (neI_entry (A := A.in1) X hx hc c hu ?_)))
  exact wpAny_pure hq
theorem neI_rc {Q : Value → Shared → Prop} (X : K.In s.heap) (hx : s.heap.get? x = some o) (hc : o.cls = .ref C) (c : EqC K C) (hu : A.units + 1 < cLine) (hq : Q (.bool false) s) :
    wpAny (model prog w) A (richCompare .NotEq (.ref x) (.ref x)) Q E s := by
  have hu0 : A.units < cLine := Nat.lt_of_succ_lt hu
  simp only [richCompare, cmpInfo_NotEq, oneThing_ref]
  repeat (first | with_reducible refine wpAny_cRoomFor hu0 ?_ | (with_reducible refine wpAny_typeOf_ref hx ?_) | with_reducible refine neI_try X hx hc c hu ?_ | wp_step)
  exact hq
end
section
variable {X : Cx} {K : PySem.W.Frag}
/-- an own instance, and itself -/
def OwnE (K : PySem.W.Frag) (H : Hp) (a : Addr) : Prop := ∃ C dx fs, H a = some (.ins C dx fs) ∧ EqC K C
def rEqI (K : PySem.W.Frag) : R2 := fun x y H Q => ∃ a, x = .ref a ∧ y = .ref a ∧ OwnE K H a ∧ Q (.bl true) H
def rNeI (K : PySem.W.Frag) : R2 := fun x y H Q => ∃ a, x = .ref a ∧ y = .ref a ∧ OwnE K H a ∧ Q (.bl false) H
theorem eqI (h : X.K = K) (hu : X.A.units + 64 < cLine) : OpR X (compareOp .Eq) (rEqI K) := by
  subst h
  rintro pins s σ H x y v u Q I rx ry ⟨a, rfl, rfl, ⟨C, dx, fs, ha, c⟩, q⟩
  cases (show v = Value.ref a from rx)
  cases (show u = Value.ref a from ry)
  obtain ⟨mA, O, _⟩ := ins_get I.hok ha
  obtain ⟨od, J, _⟩ := O.look
  exact eqI_rc I.kIn J.at_ J.cls c (by omega) ⟨.bl true, H, I, rfl, q⟩
theorem neI (h : X.K = K) (hu : X.A.units + 64 < cLine) : OpR X (compareOp .NotEq) (rNeI K) := by
  subst h
  rintro pins s σ H x y v u Q I rx ry ⟨a, rfl, rfl, ⟨C, dx, fs, ha, c⟩, q⟩
  cases (show v = Value.ref a from rx)
  cases (show u = Value.ref a from ry)
  obtain ⟨mA, O, _⟩ := ins_get I.hok ha
  obtain ⟨od, J, _⟩ := O.look
  exact neI_rc I.kIn J.at_ J.cls c (by omega) ⟨.bl false, H, I, rfl, q⟩
/-- any thing, and itself -/
inductive SelfOk (K : PySem.W.Frag) (H : Hp) : V → Prop where
  | flat {x : V} (h : flatV x = true) : SelfOk K H x
  | lst {a : Addr} {xs : List V} (h : H a = some (.lst xs)) (hx : ∀ x ∈ xs, flatV x = true ∨ ∃ b, x = .ref b) : SelfOk K H (.ref a)
  | tup {a : Addr} {xs : List V} (h : H a = some (.tup xs)) (hx : ∀ x ∈ xs, flatV x = true ∨ ∃ b, x = .ref b) : SelfOk K H (.ref a)
  | dct {a : Addr} (h : H a = some (.dK [])) : SelfOk K H (.ref a)
  | own {a : Addr} (h : OwnE K H a) : SelfOk K H (.ref a)
def rEqSelf (K : PySem.W.Frag) : R2 := fun x y H Q => x = y ∧ SelfOk K H x ∧ Q (.bl true) H
theorem alkSelf {H : Hp} {xs : List V} (hx : ∀ x ∈ xs, flatV x = true ∨ ∃ b, x = .ref b) : AlkAll K H 1 xs xs := ⟨rfl, fun j u v e1 e2 => by
  cases e1.symm.trans e2
  rcases hx _ (List.mem_of_getElem? e1) with h | ⟨b, rfl⟩
  · exact Alk.flat h
  · exact Alk.ref⟩
theorem eqSelf (h : X.K = K) (hu : X.A.units + 64 < cLine) : OpR X (compareOp .Eq) (rEqSelf K) := by
  rintro pins s σ H x y v u Q I rx ry ⟨rfl, so, q⟩
  cases so with
  | flat hf => exact op_eq _ _ _ _ _ _ _ _ _ I rx ry ⟨(by cases x <;> first | rfl | cases hf), by simpa using q⟩
  | lst ha hx => exact eqW h hu _ _ _ _ _ _ _ _ _ I rx ry (rd_eqW (n := 1) (eqS_lst (.inl (.inl ha)) (.inl (.inl ha)) (alkSelf hx)) q)
  | tup ha hx => exact eqW h hu _ _ _ _ _ _ _ _ _ I rx ry (rd_eqW (n := 1) (eqS_tup (.inl (.inl ha)) (.inl (.inl ha)) (alkSelf hx)) q)
  | dct ha => exact op_eq_dict (by omega) _ _ _ _ _ _ _ _ _ I rx ry ⟨_, _, [], rfl, rfl, ha, ha, List.nodup_nil, nofun, q⟩
  | own ho => exact eqI h hu _ _ _ _ _ _ _ _ _ I rx ry ⟨_, rfl, rfl, ho, q⟩
end
end My

/-! ### P0S: what is walked may be a list or a tuple -/
namespace My
open PySem PySem.Spec PyProof.Rows L2
/-- the list or the tuple at a -/
def SqA (K : PySem.W.Frag) (H : Hp) (a : Addr) (xs : List V) : Prop := SqL K H a xs ∨ SqT K H a xs
theorem SqA.keep {K : PySem.W.Frag} {H H' : Hp} {a : Addr} {xs : List V} (h : SqA K H a xs) (k : ∀ o, H a = some o → H' a = some o) : SqA K H' a xs := by
  rcases h with h | h
  · rcases h with (h | ⟨o, h⟩) | h
    · exact .inl (.inl (.inl (k _ h)))
    · exact .inl (.inl (.inr ⟨o, k _ h⟩))
    · exact .inl (.inr h)
  · rcases h with (h | ⟨o, h⟩) | h
    · exact .inr (.inl (.inl (k _ h)))
    · exact .inr (.inl (.inr ⟨o, k _ h⟩))
    · exact .inr (.inr h)
theorem SqA.same {K : PySem.W.Frag} {H H' : Hp} {a : Addr} {xs : List V} (h : SqA K H a xs) (s : Same H H') : SqA K H' a xs := h.keep fun o e => s _ _ e
theorem sqA_l {K : PySem.W.Frag} {H : Hp} {a : Addr} {xs : List V} (h : H a = some (.lst xs)) : SqA K H a xs := .inl (.inl (.inl h))
theorem sqA_t {K : PySem.W.Frag} {H : Hp} {a : Addr} {xs : List V} (h : H a = some (.tup xs)) : SqA K H a xs := .inr (.inl (.inl h))
def iSeq (K : PySem.W.Frag) (tl : TE) : TI := fun σ H R => tl σ H fun x H1 => ∃ a, x = .ref a ∧ ((∃ xs, SqL K H1 a xs) ∧ R (Itl K a) H1 ∨ (∃ xs, SqT K H1 a xs) ∧ R (Itt K a) H1)
theorem pi_seqK {X : Cx} {K : PySem.W.Frag} {tg l : Expr} {tl : TE} (h : X.K = K) (hl : PE X l tl) : PI X tg l (iSeq K tl) := by
  subst h
  refine ⟨fun pins s σ H R I h => ?_⟩
  refine thn (hl.run pins s σ H _ I h) fun v s1 ⟨x, H1, I1, r1, q1⟩ => ?_
  obtain ⟨a, e, q⟩ := q1
  subst e
  cases r1
  rcases q with ⟨⟨xs, hq⟩, q⟩ | ⟨⟨xs, hq⟩, q⟩
  · obtain ⟨its, rv, p, hz⟩ := I1.list hq
    refine wpAny_pyIter_list p.isList ?_
    refine ⟨s1.heap.objs.size, [s1.heap.objs.size], _, _, H1, rfl, I1.kept (t' := s1.toks) fun b o e => Heap.get?_push_of_some _ e, turn_list a _, ⟨_, Heap.get?_push_size _ rfl, rfl, rfl⟩, fun b hb => ?_, q⟩
    have e : b = s1.heap.objs.size := by simpa using hb
    subst e
    exact I1.fpOk (Nat.le_refl _) (I1.hok.fresh (Nat.le_refl _))
  · obtain ⟨its, rv, p, hz⟩ := I1.tuple hq
    refine wpAny_pyIter_tuple (show s1.heap.IsTuple a its.toArray from p) ?_
    refine ⟨s1.heap.objs.size, [s1.heap.objs.size], _, _, H1, rfl, I1.kept (t' := s1.toks) fun b o e => Heap.get?_push_of_some _ e, turn_tuple a _, ⟨_, Heap.get?_push_size _ rfl, rfl, rfl⟩, fun b hb => ?_, q⟩
    have e : b = s1.heap.objs.size := by simpa using hb
    subst e
    exact I1.fpOk (Nat.le_refl _) (I1.hok.fresh (Nat.le_refl _))
def SeqIt (K : PySem.W.Frag) (R : It → Hp → Prop) : VK := fun x H1 => ∃ a, x = .ref a ∧ ((∃ xs, SqL K H1 a xs) ∧ R (Itl K a) H1 ∨ (∃ xs, SqT K H1 a xs) ∧ R (Itt K a) H1)
section
variable {K : PySem.W.Frag} {σ : L2.St} {H : Hp} {te : TE} {Q : VK} {v : V}
theorem rd_iQ {R : It → Hp → Prop} (h : te σ H (SeqIt K R)) : iSeq K te σ H R := h
/-- the walk over either -/
theorem rd_iq {R : It → Hp → Prop} {p : Addr} {xs : List V} (h : SqA K H p xs) (q : ∀ (J : It) (G : Hp → Prop), Walk J xs.length G (YAt xs) → (∀ H', (∀ o, H p = some o → H' p = some o) → G H') → R J H) : SeqIt K R (.ref p) H := by
  refine ⟨p, rfl, ?_⟩
  rcases h with h | h
  · refine .inl ⟨⟨xs, h⟩, q _ _ walk_list fun H' k => ?_⟩
    rcases h with (h | ⟨o, h⟩) | h
    · exact .inl (.inl (k _ h))
    · exact .inl (.inr ⟨o, k _ h⟩)
    · exact .inr h
  · refine .inr ⟨⟨xs, h⟩, q _ _ walk_tup fun H' k => ?_⟩
    rcases h with (h | ⟨o, h⟩) | h
    · exact .inl (.inl (k _ h))
    · exact .inl (.inr ⟨o, k _ h⟩)
    · exact .inr h
theorem rd_lenA {p : Addr} {xs : List V} (h : SqA K H p xs) (q : Q (.int (xs.length : Nat)) H) : rLenA K [.ref p] H Q := by
  rcases h with h | h
  · exact rd_lenL h q
  · exact rd_lenT h q
theorem rd_ixA {xs : List V} {p : Addr} {k : Int} (h : SqA K H p xs) (ha : atI xs k = some v) (q : Q v H) : rIx K (.ref p) (.int k) H Q := by
  rcases h with h | h
  · exact rd_ixL h ha q
  · exact rd_ixT h ha q
/-- list(x), tuple(x), x a list or a tuple -/
def rListOf (K : PySem.W.Frag) : List V → Hp → VK → Prop := fun xs H Q => ∃ p ys, xs = [.ref p] ∧ (SqL K H p ys ∨ SqT K H p ys) ∧ ∀ l, H l = none → Q (.ref l) (upd H l (.lst ys))
theorem listOfK {X : Cx} (h : X.K = K) : CallR X (.type "list") (rListOf K) := h ▸ call_list_of
def rTupOf (K : PySem.W.Frag) : List V → Hp → VK → Prop := fun xs H Q => ∃ p ys, xs = [.ref p] ∧ ((SqL K H p ys ∧ ∀ l, H l = none → Q (.ref l) (upd H l (.tup ys))) ∨ (SqT K H p ys ∧ Q (.ref p) H))
theorem tupOfK {X : Cx} (h : X.K = K) : CallR X (.type "tuple") (rTupOf K) := h ▸ call_tuple_of
theorem rd_listOf {p : Addr} {ys : List V} (h : SqA K H p ys) (q : ∀ l H', H l = none → Same H H' → H' l = some (.lst ys) → Q (.ref l) H') : rListOf K [.ref p] H Q :=
  ⟨p, ys, rfl, h, fun l hl => q l _ hl (fun b x e => by rw [upd_ne (ne_of_none e hl)]; exact e) upd_same⟩
theorem rd_tupOf {p : Addr} {ys : List V} (h : SqL K H p ys) (q : ∀ l H', H l = none → Same H H' → H' l = some (.tup ys) → Q (.ref l) H') : rTupOf K [.ref p] H Q :=
  ⟨p, ys, rfl, .inl ⟨h, fun l hl => q l _ hl (fun b x e => by rw [upd_ne (ne_of_none e hl)]; exact e) upd_same⟩⟩
theorem rd_tupOfT {p : Addr} {ys : List V} (h : SqT K H p ys) (q : Q (.ref p) H) : rTupOf K [.ref p] H Q := ⟨p, ys, rfl, .inr ⟨h, q⟩⟩
theorem maxK {X : Cx} (h : X.K = K) (hc : X.calm = true) : CallR X (.builtin "max") (rMax K) := h ▸ cr_max hc
theorem minK {X : Cx} (h : X.K = K) (hc : X.calm = true) : CallR X (.builtin "min") (rMin K) := h ▸ cr_min hc
end
/-- the greatest, the least of a list that is not empty -/
def maxL (ns : List Int) : Int := ns.max?.getD 0
def minL (ns : List Int) : Int := ns.min?.getD 0
theorem maxL_eq {ns : List Int} {m : Int} (h : m ∈ ns) (hl : ∀ n ∈ ns, n ≤ m) : maxL ns = m := by
  unfold maxL
  rw [List.max?_eq_some_iff.mpr ⟨h, hl⟩]
  rfl
theorem minL_eq {ns : List Int} {m : Int} (h : m ∈ ns) (hl : ∀ n ∈ ns, m ≤ n) : minL ns = m := by
  unfold minL
  rw [List.min?_eq_some_iff.mpr ⟨h, hl⟩]
  rfl
theorem maxL_mem {ns : List Int} (h : 0 < ns.length) : maxL ns ∈ ns ∧ ∀ n ∈ ns, n ≤ maxL ns := by
  unfold maxL
  cases e : ns.max? with
  | none =>
    rw [List.max?_eq_none_iff] at e
    rw [e] at h
    cases h
  | some m => exact List.max?_eq_some_iff.mp e
theorem minL_mem {ns : List Int} (h : 0 < ns.length) : minL ns ∈ ns ∧ ∀ n ∈ ns, minL ns ≤ n := by
  unfold minL
  cases e : ns.min? with
  | none =>
    rw [List.min?_eq_none_iff] at e
    rw [e] at h
    cases h
  | some m => exact List.min?_eq_some_iff.mp e
section
variable {K : PySem.W.Frag} {H : Hp} {Q : VK}
theorem rd_maxL {p : Addr} {ns : List Int} (h : SqL K H p (ns.map V.int)) (h0 : 0 < ns.length) (q : Q (.int (maxL ns)) H) : rMax K [.ref p] H Q := ⟨p, ns, rfl, h, h0, fun m hm hl => maxL_eq hm hl ▸ q⟩
theorem rd_minL {p : Addr} {ns : List Int} (h : SqL K H p (ns.map V.int)) (h0 : 0 < ns.length) (q : Q (.int (minL ns)) H) : rMin K [.ref p] H Q := ⟨p, ns, rfl, h, h0, fun m hm hl => minL_eq hm hl ▸ q⟩
end
end My
local macro_rules | `(tactic| walk_at "rd1") => `(tactic| (with_reducible refine My.rd_iQ ?_))

/-! ### P0D: an empty dict: its repr, compared with a text -/
namespace My
open PySem PySem.Spec PyProof.Rows L2
theorem dictE_eq_str {b : Addr} {z : Str} {u : Tok} {prog : Program} {w : World} {A : Around} {E : Value → Shared → Prop} {Q : Value → Shared → Prop} {s : Shared} (hd : s.TypeIs (.ref b) "dict") (h : Q .notImplemented s) :
    wpAny (model prog w) A (call (.builtin "dict.__eq__") [.ref b, .str z u]) Q E s := by
  refine wpAny_call_entry PySem.F.slot_dict_eq hd PySem.F.entry_dict_eq ?_ (PySem.F.args_dict_eq_2 _ _)
  show wpAny _ _ (Builtin.Dict.dictSlotArgs "__eq__" ⟨[.ref b, .str z u], []⟩ >>= _) _ _ s
  refine wpAny_bind ?_
  unfold Builtin.Dict.dictSlotArgs
  refine wpAny_bind (wpAny_notOrdered_dict hd ?_)
  refine wpAny_pure ?_
  refine wpAny_bind (wpAny_isInstance (T := "str") (typeIs_str s z u) PySem.F.sub_str_dict ?_)
  simp only [Bool.not_false, if_true]
  refine wpAny_bind (wpAny_rule ?_)
  exact wpAny_pure ⟨_, rfl, h⟩
theorem str_eq_dictE (z : Str) (u : Tok) (l : Addr) (c : Value) (es : Array DictEntry) (n : Nat) (dd : Option Addr) (sl : Array (Option Value)) :
    Meets (Builtin.«str.__eq__» ⟨[.str z u, .ref l], []⟩) (fun _ R s => s.heap.get? l = some { cls := c, dict := dd, data := .dict es n, slots := sl } ∧ R (.ok (.ret .notImplemented)) s) :=
  .of_wp fun prog w A R s h => by obtain ⟨hp, g, d, tk, os⟩ := s; obtain ⟨hl, h⟩ := h; wp_walk using wpAny_loadPart' hl, wpAny_load hl; exact ⟨_, rfl, h⟩
theorem dictE_rc {l : Addr} {o : Obj} {es : Array DictEntry} {n : Nat} {prog : Program} {w : World} {A : Around} {E : Value → Shared → Prop} {Q : Value → Shared → Prop} {s : Shared} {z : Str} {u : Tok} (ho : s.heap.get? l = some o) (hc : o.cls = .type "dict") (hd : o.data = .dict es n) (hu : A.units < cLine) (h : Q (.bool false) s) :
    wpAny (model prog w) A (compareOp .Eq (.ref l) (.str z u)) Q E s := by
  obtain ⟨cls, dd, data, sl⟩ := o
  simp only at hc hd
  subst hc hd
  exact SeqAt.rc_eq_decline_or (k := false) ⟨_, ho, rfl⟩ (typeIs_str s z u) (by decide) PySem.F.sub_str_dict PySem.F.slot_dict_eq PySem.F.slot_str_eq_refl
    (fun _ hq => dictE_eq_str ⟨_, ho, rfl⟩ hq)
    (fun _ hq => call_meets PySem.F.slot_str_eq_refl (typeIs_str s z u) PySem.F.entry_str_eq (PySem.F.args_str_eq_2 _ _) (str_eq_dictE z u l (.type "dict") es n dd sl) ⟨ho, hq⟩)
    (fun _ hq => wpAny_of_eq (rfl : isSame (.ref l) (.str z u) = pure false) hq) (.inr hu) h
/-- a thing: data, or an empty dict -/
inductive DpE (K : PySem.W.Frag) (H : Hp) : V → PyData → Prop
  | dp {v : V} {d : PyData} : Dp K H v d → DpE K H v d
  | dK {a : Addr} : H a = some (.dK []) → DpE K H (.ref a) (.dict [])
theorem dkE {X : Cx} {pins : List (Addr × Obj)} {σ : L2.St} {H : Hp} {s : Shared} {a : Addr} (I : Inv X pins σ H s) (h : H a = some (.dK [])) : (a == sysModules) = false ∧ ∃ o es n, s.heap.get? a = some o ∧ o.cls = .type "dict" ∧ o.data = .dict es n ∧ es.toList = [] := by
  obtain ⟨_, hs, vs, kv, o, es, ep, ho, hx, hd, _, hp, _⟩ := (show ObjOk X.prog X.w H s.heap a (.dK []) from I.hok a _ h)
  cases kv
  refine ⟨hs, o, es, ep, ho, hx.1, hd, ?_⟩
  match h1 : es.toList, hp with
  | [], _ => rfl
theorem DpE.same {K : PySem.W.Frag} {H H' : Hp} (e : Same H H') {v : V} {d : PyData} (h : DpE K H v d) : DpE K H' v d := by
  cases h with
  | dp h => exact .dp (dp_same e _ _ h)
  | dK h => exact .dK (e _ _ h)
/-- repr of such a thing -/
def rReprE (K : PySem.W.Frag) : List V → Hp → VK → Prop := fun xs H Q => ∃ v d, xs = [v] ∧ DpE K H v d ∧ d.showable = true ∧ d.depth ≤ 60 ∧ d.shown.length ≤ 10000000 ∧ Q (.str d.shown) H
theorem reprE {X : Cx} {K : PySem.W.Frag} (hK : X.K = K) (hG : X.A.guards = some []) (hu : X.A.units + 64 < cLine) : CallR X (.builtin "repr") (rReprE K) := by
  intro pins s σ H xs us Q I r h
  obtain ⟨v, d, hx, hd, hs, hdep, hlen, q⟩ := h
  cases hd with
  | dp h1 => exact reprD hK hG hu pins s σ H xs us Q I r ⟨v, d, hx, h1, hs, hdep, hlen, q⟩
  | @dK a h1 =>
    subst hx
    obtain ⟨u, rfl, r1⟩ := vals1 r
    cases (show u = Value.ref a from r1)
    obtain ⟨hsm, o, es, n, ho, hc, hdt, hes⟩ := dkE I h1
    have rd : Reads s.heap (.ref a) (.dict []) (a :: [] ++ []) := by
      refine Reads.dict ho hc hdt ?_ ?_
      · rw [hes]
        exact ReadsAll.nil
      · rw [hes]
        exact ReadsAll.nil
    refine repr_of_reads' rd hs (fun _ hm => ?_) hG (by omega) (fun b o e => e) (fun h' u tk keep => ?_) (Nat.le_trans hlen (by decide))
    · have : sysModules = a := by simpa using hm
      rw [this, beq_self_eq_true] at hsm
      cases hsm
    · exact ⟨.str _, H, I.kept (t' := tk) keep, ⟨_, rfl⟩, q⟩
theorem rd_reprE {K : PySem.W.Frag} {H : Hp} {Q : VK} {v : V} {d : PyData} (hd : DpE K H v d) (h1 : d.showable = true) (h2 : d.depth ≤ 60) (h3 : d.shown.length ≤ 10000000) (q : Q (.str d.shown) H) : rReprE K [v] H Q := ⟨v, d, rfl, hd, h1, h2, h3, q⟩
/-- such a thing, a text: are they equal -/
def isV (v : V) (z : Str) : Bool := decide (v = .str z)
def rEqZ (K : PySem.W.Frag) : R2 := fun x y H Q => ∃ z d, y = .str z ∧ DpE K H x d ∧ PyData.strOk z = true ∧ (d = .dict [] ∨ SeqAt.shaped d = true) ∧ Q (.bl (isV x z)) H
theorem eqZ {X : Cx} {K : PySem.W.Frag} (hK : X.K = K) (hu : X.A.units + 64 < cLine) : OpR X (compareOp .Eq) (rEqZ K) := by
  subst hK
  intro pins s σ H x y v u Q I rx ry h
  obtain ⟨z, d, rfl, hd, hz, hsh, q⟩ := h
  obtain ⟨t, rfl⟩ := (show ∃ t, u = Value.str z t from ry)
  cases hd with
  | dp h1 =>
    obtain ⟨as, r1⟩ := Dp.reads I d x v h1 rx
    have hsh : SeqAt.shaped d = true := hsh.resolve_left fun e => by
      subst e
      cases h1
    have h2 : SeqAt.shaped (.str z) = true := by
      show (PyData.canLay0 (.str z) && decide (PyData.depth (.str z) ≤ 64)) = true
      simp only [PyData.canLay0, PyData.depth, hz]
      rfl
    refine SeqAt.compareEq_shaped r1 (Reads.str z t) hsh h2 hu ⟨.bl _, H, I, rfl, ?_⟩
    have e : PyData.eqv d (.str z) = isV x z := by
      cases h1 with
      | str w =>
        show (w == z) = decide (V.str w = V.str z)
        rw [dec_str]
      | non => rfl
      | bl b => cases b <;> rfl
      | int i => rfl
      | lst _ _ => rfl
      | tup _ _ => rfl
    rw [e]
    exact q
  | @dK a h1 =>
    cases (show v = Value.ref a from rx)
    obtain ⟨hsm, o, es, n, ho, hc, hdt, hes⟩ := dkE I h1
    exact dictE_rc ho hc hdt (by omega) ⟨.bl _, H, I, rfl, q⟩
theorem rd_eqZ {K : PySem.W.Frag} {H : Hp} {Q : VK} {v : V} {z : Str} {d : PyData} (hd : DpE K H v d) (hz : PyData.strOk z = true) (h : d = .dict [] ∨ SeqAt.shaped d = true) (q : Q (.bl (isV v z)) H) : rEqZ K v (.str z) H Q := ⟨z, d, rfl, hd, hz, h, q⟩
/-! #### how long a shown thing is -/
mutual
def wt : PyData → Nat
  | .none => 4
  | .bool _ => 5
  | .int _ => 1921
  | .str x => 10 * x.length + 2
  | .list xs => wtAll xs + 4
  | .tuple xs => wtAll xs + 4
  | .dict _ => 10
def wtAll : List PyData → Nat
  | [] => 0
  | x :: xs => wt x + 2 + wtAll xs
end
theorem textFrom_le : ∀ (ts : List Str) (k : Nat) (acc : Str), (textFrom k acc ts).length ≤ acc.length + (ts.map fun t => t.length + 2).sum
  | [], k, acc => by show acc.length ≤ _; simp
  | t :: r, k, acc => by
    have h := textFrom_le r (k + 1) (acc ++ (if k > 0 then ", " else "" : String) ++ t)
    have e : (acc ++ (if k > 0 then ", " else "" : String) ++ t : Str).length ≤ acc.length + 2 + t.length := by
      rw [PySem.Str.length_append, PySem.Str.length_append]
      have : (((if k > 0 then ", " else "" : String) : Str)).length ≤ 2 := by split <;> decide +kernel
      omega
    show (textFrom (k + 1) (acc ++ (if k > 0 then ", " else "" : String) ++ t) r).length ≤ _
    rw [List.map_cons, List.sum_cons]
    omega
theorem piled_sum : ∀ ts : List Str, piled ts = (ts.map fun t => t.length + 2).sum
  | [] => rfl
  | t :: r => by
    rw [List.map_cons, List.sum_cons, ← piled_sum r]
    rfl
mutual
theorem shown_wt : ∀ d : PyData, d.showable = true → d.canLay0 = true → d.shown.length ≤ wt d
  | .none, _, _ => by decide +kernel
  | .bool b, _, _ => by cases b <;> decide +kernel
  | .int i, h, _ => by
    simp only [PyData.showable, decide_eq_true_eq] at h
    simp only [PyData.shown, wt]
    exact int_text_len_1921 h
  | .str x, _, h => by
    simp only [PyData.canLay0] at h
    simp only [PyData.shown, wt]
    refine StrLaws.reprText_len x fun c hc => ?_
    have h1 : ∀ (i : Nat) (hi : i < x.cps.size), x.cps[i] < 1114112 := by simpa [PyData.strOk] using h
    obtain ⟨i, hi, rfl⟩ := List.getElem_of_mem hc
    have h2 := h1 i (by simpa using hi)
    rw [Array.getElem_toList]
    exact Nat.lt_trans h2 (by decide)
  | .list xs, h, hl => by
    simp only [PyData.showable] at h
    simp only [PyData.canLay0] at hl
    simp only [PyData.shown, wt]
    have h1 := shown_wtAll xs h hl
    have h2 := textFrom_le (PyData.shownAll xs) 0 "["
    have h3 : (("[" : String) : Str).length = 1 := by decide +kernel
    have h4 : (("]" : String) : Str).length = 1 := by decide +kernel
    show (textFrom 0 "[" (PyData.shownAll xs) ++ "]" : Str).length ≤ _
    rw [PySem.Str.length_append]
    omega
  | .tuple xs, h, hl => by
    simp only [PyData.showable] at h
    simp only [PyData.canLay0] at hl
    simp only [PyData.shown, wt]
    have h1 := shown_wtAll xs h hl
    rw [← piled_sum] at h1
    have h3 : (("(" : String) : Str).length = 1 := by decide +kernel
    have h4 : (((if (PyData.shownAll xs).length == 1 then ",)" else ")" : String)) : Str).length ≤ 2 := by split <;> decide +kernel
    show (("(" : Str) ++ Str.join ", " (PyData.shownAll xs) ++ (if (PyData.shownAll xs).length == 1 then ",)" else ")" : String)).length ≤ _
    rw [PySem.Str.length_append, PySem.Str.length_append]
    by_cases e : PyData.shownAll xs = []
    · rw [e] at h1 ⊢
      have h5 : (Str.join ", " ([] : List Str)).length = 0 := rfl
      rw [e] at h4
      omega
    · have h5 := join_length_add _ e
      omega
  | .dict _, _, h => by simp [PyData.canLay0] at h
theorem shown_wtAll : ∀ ds : List PyData, PyData.showableAll ds = true → PyData.canLayAll0 ds = true → ((PyData.shownAll ds).map fun t => t.length + 2).sum ≤ wtAll ds
  | [], _, _ => by simp [PyData.shownAll, wtAll]
  | d :: ds, h, hl => by
    simp only [PyData.showableAll, Bool.and_eq_true] at h
    simp only [PyData.canLayAll0, Bool.and_eq_true] at hl
    have h1 := shown_wt d h.1 hl.1
    have h2 := shown_wtAll ds h.2 hl.2
    simp only [PyData.shownAll, wtAll, List.map_cons, List.sum_cons]
    omega
end
/-- data that can be shown and compared; or an empty dict -/
def okD (d : PyData) : Prop := d = .dict [] ∨ (d.showable = true ∧ d.canLay0 = true ∧ d.depth ≤ 60 ∧ wt d ≤ 10000000)
theorem okD.shaped {d : PyData} (h : okD d) : d = .dict [] ∨ SeqAt.shaped d = true := h.imp id fun h => by
  rw [SeqAt.shaped, h.2.1, Bool.true_and]
  exact decide_eq_true (by omega)
theorem okD.showable {d : PyData} (h : okD d) : d.showable = true := by
  rcases h with rfl | h
  · rfl
  · exact h.1
theorem okD.depth {d : PyData} (h : okD d) : d.depth ≤ 60 := by
  rcases h with rfl | h
  · decide +kernel
  · exact h.2.2.1
theorem okD.size {d : PyData} (h : okD d) : d.shown.length ≤ 10000000 := by
  rcases h with rfl | h
  · decide +kernel
  · exact Nat.le_trans (shown_wt d h.1 h.2.1) h.2.2.2
/-- repr, briefly -/
theorem rd_rE {K : PySem.W.Frag} {H : Hp} {Q : VK} {v : V} {d : PyData} (hd : DpE K H v d) (h : okD d) (q : Q (.str d.shown) H) : rReprE K [v] H Q := rd_reprE hd h.showable h.depth h.size q
theorem rd_rEg {K : PySem.W.Frag} {H : Hp} {Q : VK} {v : V} {d : PyData} (hd : DpE K H v d) (h : okD d) (q : ∀ z, z = d.shown → Q (.str z) H) : rReprE K [v] H Q := rd_rE hd h (q _ rfl)
theorem rd_eZ {K : PySem.W.Frag} {H : Hp} {Q : VK} {v : V} {z : Str} {d : PyData} (hd : DpE K H v d) (hz : PyData.strOk z = true) (h : okD d) (q : Q (.bl (isV v z)) H) : rEqZ K v (.str z) H Q := rd_eqZ hd hz h.shaped q
end My

/-! ### P0X: own classes and their refusals -/
namespace My
open PySem PySem.Spec PyProof.Rows L2
/-! #### C.m(..), read off a class -/
section
variable {X : Cx} {o e : Expr} {es : List Expr} {ta : TA} {x : Str} {p1 p2 pos : Pos} {C f : Addr} {m : Str}
/-- IceError.__init__(self, ..): the built-in one, found above an own class that has none -/
theorem pe_upinit {pl : Sem Bool} (hg : Gl X x) (hm : X.mg x = some (.ref C)) (rd : PySem.W.readsIn X.K C (.type "type") = true) (ga : PySem.W.specialIn X.K (.ref C) "__getattribute__" = some (some (.builtin "type.__getattribute__")))
    (vi : PySem.W.findCls X.K (.ref C) (.type "type") "__init__" = some (.val (.builtin "ValueError.__init__"))) (ha : PA X (e :: es) ta) (hdb : (x == ("__debug__" : Str)) = false := by decide)
    (hc : eval (.Call (.Attribute (.Name x p1) "__init__" p2) (e :: es) [] pos) X.env = (do
      let ov ← eval (.Name x p1) X.env
      standAt p2.atName
      let (f, first) ← holding [ov] (getMethod ov "__init__" pl)
      callWith pos f first (backTo pos (starEach (e :: es) X.env)) (backToKw pos (keywordEach [] X.env))) := by rfl)
    (he : starEach (e :: es) X.env = (false, eval e X.env) :: starEach es X.env := by rfl) (hpl : (backTo pos (starEach es X.env)).any (·.1) = false := by rfl) :
    PE X (.Call (.Attribute (.Name x p1) "__init__" p2) (e :: es) [] pos) (tVeI X.K ta) := by
  constructor
  intro pins s σ H Q I h
  refine PySem.W.methodCall_KW (ld_glob I hg hm ?_ hdb) hc
  refine PySem.W.method_cls I.kIn ga ?_
  refine PySem.W.cls_value I.kIn rd vi (by decide +kernel) ?_
  show wpAny _ _ (callWith pos (Value.builtin "ValueError.__init__") [] (backTo pos (starEach (e :: es) X.env)) []) _ _ _
  refine PyProof.Rows.callWith_method1 (thn (ha.run pos pins _ σ H _ (I.tok _) h) ?_) he hpl
  rintro us s1 ⟨vs, H1, I1, r1, a, C1, ws, rfl, hl, T, ea, q⟩
  cases r1 with
  | @cons _ u0 _ ur ra rest =>
    cases (show u0 = Value.ref a from ra)
    have hlen : ur.length ≤ sizeLine := by
      rw [← Paired.length rest, sizeLine_eq]
      omega
    exact oinit_ok T I1 ea hlen fun s' J => ⟨.non, H1, J, rfl, q⟩
/-- C.m(e, ..), m a def of the text, found on C or above -/
theorem pe_ccall {pl : Sem Bool} {CX : CXT} {k : Nat} {fd : FuncData} {ps : List Str} {sp : Sp} {E : L2.St → XK} (hg : Gl X x) (hm : X.mg x = some (.ref C)) (rd : PySem.W.readsIn X.K C (.type "type") = true) (ga : PySem.W.specialIn X.K (.ref C) "__getattribute__" = some (some (.builtin "type.__getattribute__")))
    (vi : PySem.W.findCls X.K (.ref C) (.type "type") m = some (.val (.ref f))) (F : FnOk X.prog X.w X.K X.mg X.base CX k f fd ps sp) (hr : Room k X.A) (hk : PySem.W.keepIn X.K (.ref f) = true) (hb : Binds X.K fd ps []) (hx : ∀ σ, PassesAt CX X σ (E σ))
    (ha : PA X (e :: es) ta) (hdb : (x == ("__debug__" : Str)) = false := by decide)
    (hc : eval (.Call (.Attribute (.Name x p1) m p2) (e :: es) [] pos) X.env = (do
      let ov ← eval (.Name x p1) X.env
      standAt p2.atName
      let (f, first) ← holding [ov] (getMethod ov m pl)
      callWith pos f first (backTo pos (starEach (e :: es) X.env)) (backToKw pos (keywordEach [] X.env))) := by rfl)
    (he : starEach (e :: es) X.env = (false, eval e X.env) :: starEach es X.env := by rfl) (hpl : (backTo pos (starEach es X.env)).any (·.1) = false := by rfl) :
    PE X (.Call (.Attribute (.Name x p1) m p2) (e :: es) [] pos) (tCallS sp E ta) := by
  constructor
  intro pins s σ H Q I h
  refine PySem.W.methodCall_KW (ld_glob I hg hm ?_ hdb) hc
  refine PySem.W.method_cls I.kIn ga ?_
  refine PySem.W.cls_value I.kIn rd vi (by rfl) ?_
  refine PySem.W.callWith_K (h₀ := X.base) I.ok.mod.kin hk (thn (ha.run pos pins _ σ H _ (I.tok _) h) ?_) he hpl
  rintro us s1 ⟨vs, H1, I1, r1, q⟩
  exact ⟨I1.kIn, run_fnS F hr hb (hx σ) I1 r1 q⟩
/-- o.m(e, ..) where m may raise: what is raised is wished for at the caller's slots -/
def tMethS (C : Addr) (m : Str) (sp : Sp) (E : L2.St → XK) (to : TE) (t : TA) : TE := fun σ H Q => to σ H fun x H1 => ∃ a dx fs, x = .ref a ∧ H1 a = some (.ins C dx fs) ∧ fs.lookup m = none ∧ t σ H1 fun vs H2 => sp (x :: vs) H2 Q (E σ)
theorem pe_methS {pl : Sem Bool} {apos : Pos} {to : TE} {CX : CXT} {k : Nat} {fd : FuncData} {ps : List Str} {sp : Sp} {E : L2.St → XK} (ho : PE X o to) (c : Cls X.K C) (hm : Meth X.K C m f) (F : FnOk X.prog X.w X.K X.mg X.base CX k f fd ps sp) (hr : Room k X.A)
    (hb : Binds X.K fd ps []) (hx : ∀ σ, PassesAt CX X σ (E σ)) (ha : PA X (e :: es) ta) (hst : starEach (e :: es) X.env = (false, eval e X.env) :: starEach es X.env := by rfl) (hpl : (backTo pos (starEach es X.env)).any (·.1) = false := by rfl)
    (ht : eval (.Call (.Attribute o m apos) (e :: es) [] pos) X.env = (do
      let ov ← eval o X.env
      standAt apos.atName
      let (f, first) ← holding [ov] (getMethod ov m pl)
      callWith pos f first (backTo pos (starEach (e :: es) X.env)) (backToKw pos (keywordEach [] X.env))) := by rfl) : PE X (.Call (.Attribute o m apos) (e :: es) [] pos) (tMethS C m sp E to ta) := by
  constructor
  intro pins s σ H Q I h
  refine PySem.W.methodCall_KW (pl := pl) (thn (ho.run pins s σ H _ I h) ?_) ht
  rintro u s1 ⟨x, H1, I1, rx, a, dx, fs, rfl, ea, l, q⟩
  cases (show u = Value.ref a from rx)
  refine getmeth_ok I1 ea c hm l ?_
  refine PySem.W.callWith_K (first := [.ref a]) (h₀ := X.base) I.ok.mod.kin hm.kp (thn (ha.run pos pins s1 σ H1 _ I1 q) ?_) hst hpl
  rintro us s2 ⟨vs, H2, I2, r, q2⟩
  exact ⟨I2.kIn, run_fnS (us := .ref a :: us) (vs := .ref a :: vs) F hr hb (hx σ) I2 (.cons rfl r) q2⟩
end
/-! #### nothing is raised: a def that might raise, called where it does not -/
theorem passX0 {X : Cx} : Passes (L2.CX X.prog X.w) X E0 := by
  rintro _ _ _ _ _ _ _ ⟨_, _, _, _, _, _, _, _, _, _, _, _, z⟩
  exact z.elim
theorem passX0S {X : Cx} {σ : L2.St} : PassesAt (L2.CX X.prog X.w) X σ E0 := by
  rintro _ _ _ _ _ _ ⟨_, _, _, _, _, _, _, _, _, _, _, _, z⟩
  exact z.elim
theorem refs_ve1 {c : Addr} : PySem.HandSPX.refsVE [.ref c, .type "ValueError", .type "Exception", .type "BaseException", .type "object"] = true := by
  show PySem.HandSPX.refsVE [.type "ValueError", .type "Exception", .type "BaseException", .type "object"] = true
  decide +kernel
/-- is an error of class X what «except Y» names -/
theorem exm_of {K : PySem.W.Frag} {X Y : Addr} {b : Bool} (hb : PySem.W.subIn K (.ref Y) (.type "BaseException") = some true) (hc : PySem.W.isClsIn K Y = true) (ht : PySem.W.typeIn K (.ref Y) = some (.type "type")) (hs : PySem.W.subIn K (.ref X) (.ref Y) = some b) : PySem.W.exmOne K (.ref X) (.ref Y) = some b := by
  unfold PySem.W.exmOne PySem.W.kitCls
  have hc' : (PySem.W.clsIn K Y).isSome = true := hc
  simp only [hb, hc', ht, hs, beq_self_eq_true, Bool.and_self, if_true]
/-- isinstance of an own class, from the subclass facts -/
theorem kit_sub {K : PySem.W.Frag} {t : Value} {D : Addr} {b : Bool} (hc : PySem.W.isClsIn K D = true) (ht : PySem.W.typeIn K (.ref D) = some (.type "type")) (hd : PySem.W.subIn K (.ref D) (.ref D) = some true) (hs : PySem.W.subIn K t (.ref D) = some b) : PySem.W.kitOne K t (.ref D) = some b := by
  unfold PySem.W.kitOne PySem.W.kitCls
  by_cases e : (t == Value.ref D) = true
  · rw [if_pos e]
    have e2 : t = Value.ref D := eq_of_beq e
    rw [e2, hd] at hs
    exact hs
  · rw [if_neg e]
    have hc' : (PySem.W.clsIn K D).isSome = true := hc
    simp only [hc', ht, beq_self_eq_true, Bool.and_self, if_true]
    exact hs
/-- isinstance(x, D), x an own instance -/
theorem rd_isiC {K : PySem.W.Frag} {H : Hp} {Q : VK} {a C D dx : Addr} {fs : List (Str × V)} {b : Bool} (e : H a = some (.ins C dx fs)) (cl : Cls K C) (ha : PySem.W.findIn K (.ref C) "__class__" = some (some (.builtin "object.__class__")))
    (hn : PySem.W.specialIn K (.builtin "object.__class__") "__get__" = some (some (.builtin "getset_descriptor.__get__"))) (htk : PySem.W.takesIn K (.builtin "object.__class__") = some true) (hm : PySem.W.mroIn K C (.type "object") = some true)
    (k : PySem.W.kitOne K (.ref C) (.ref D) = some b) (q : Q (.bl b) H) : rIsi K [.ref a, .ref D] H Q := ⟨_, _, _, _, b, rfl, .own D, .base (.ins e cl ha hn htk hm), k, q⟩
/-- C(e, ..) where __init__ may raise: what is raised is wished for at the caller's slots -/
def tMakeS (C : Addr) (sp : Sp) (E : L2.St → XK) (t : TA) : TE := fun σ H Q => t σ H fun vs H1 => ∀ x dx, H1 x = none → H1 dx = none → dx ≠ x → sp (.ref x :: vs) (upd (upd H1 dx (.own x)) x (.ins C dx [])) (fun v H2 => v = .non ∧ Q (.ref x) H2) (E σ)
section
variable {X : Cx} {e : Expr} {es : List Expr} {t : TA} {x : Str} {p pos : Pos} {C f : Addr} {CX : CXT} {k : Nat} {fd : FuncData} {ps : List Str} {sp : Sp} {E : L2.St → XK}
theorem pe_makeS (M : Mk X.K C f) (F : FnOk X.prog X.w X.K X.mg X.base CX k f fd ps sp) (hr : Room (k + 1) X.A) (hg : Gl X x) (hm : X.mg x = some (.ref C)) (hb : Binds X.K fd ps []) (hx : ∀ σ, PassesAt CX X σ (E σ)) (ha : PA X (e :: es) t)
    (hdb : (x == ("__debug__" : Str)) = false := by decide) (he : starEach (e :: es) X.env = (false, eval e X.env) :: starEach es X.env := by rfl) (hpl : (backTo pos (starEach es X.env)).any (·.1) = false := by rfl) : PE X (.Call (.Name x p) (e :: es) [] pos) (tMakeS C sp E t) := by
  constructor
  intro pins s0 σ H0 Q I0 h0
  refine wpAny_Call_Name_kw (ld_glob I0 hg hm ?_ hdb)
  refine PySem.W.callWith_K (h₀ := X.base) I0.ok.mod.kin M.kp (thn (ha.run pos pins s0 σ H0 _ I0 h0) ?_) he hpl
  rintro us s ⟨vs, H, I, r, h⟩
  refine ⟨I.kIn, ?_⟩
  have fresh0 : H s.heap.objs.size = none := I.hok.fresh (Nat.le_refl _)
  have fresh1 : H (s.heap.objs.size + 1) = none := I.hok.fresh (Nat.le_succ _)
  have start := h _ _ fresh1 fresh0 (Nat.ne_of_lt (Nat.lt_succ_self _))
  have J := Inv.made (C := C) I
  have rel : Vals (V.ref (s.heap.objs.size + 1) :: vs) (Value.ref (s.heap.objs.size + 1) :: us) := .cons rfl r
  have many : (Value.ref (s.heap.objs.size + 1) :: us).length = ps.length := rel.length.symm.trans (F.len _ _ _ _ start)
  have bind := hb _ (Value.ref (s.heap.objs.size + 1) :: us) J.kIn (by rw [List.append_nil]; exact many)
  rw [List.append_nil] at bind
  have body := F.run _ X.stack _ _ ⟨Value.ref (s.heap.objs.size + 1) :: us, []⟩ _ _ _ (E σ) (hr.make C us []) (J.env0.make C us []) bind rel start
  refine wpAny_call (make_map (f := f) I.kIn M.makes M.init (beq_iff_eq.mp M.fn) (codeAny_mono body ?_))
  intro r1 s1 hq
  match r1, hq with
  | .error _, hq => exact hx σ pins _ _ _ s1 J hq
  | .ok .next, hq => exact False.elim hq
  | .ok .brk, hq => exact False.elim hq
  | .ok .cont, hq => exact False.elim hq
  | .ok (.ret u), hq =>
    obtain ⟨v, H', J', rv, rfl, q⟩ := J.after hq
    exact ⟨rv, ⟨V.ref (s.heap.objs.size + 1), H', J', rfl, q⟩⟩
end
/-! #### refusals: an own class with one value -/
/-- __init__ of a refusal keeps its one value as f -/
def spXInit (C : Addr) (f : Str) : Sp := fun vs H Q _ => ∃ a v, vs = [.ref a, v] ∧ H a = some (exo a C none) ∧ ∀ dx, H dx = none → dx ≠ a → Q .non (upd (upd H dx (exd dx [(f, v)])) a (exo a C (some dx)))
def tRaiseX (C : Addr) (f : Str) (W : WX) (ta : TA) : TS := fun _ σ H => tMkO C (spXInit C f) [] ta σ H fun cls d H' => W cls d σ H'
theorem ps_raiseX {X : Cx} {W : WX} {C fI : Addr} {f x : Str} {k : Nat} {fd : FuncData} {ps : List Str} {e : Expr} {es : List Expr} {ta : TA} {p pos pos2 : Pos} (hcalm : X.calm = true) (tk : Takes X W) (T : OexC X.K C) (iC : PySem.W.findIn X.K (.ref C) "__init__" = some (some (.ref fI)))
    (tI : PySem.W.typeIn X.K (.ref fI) = some (.type "function")) (F1 : FnOk X.prog X.w X.K X.mg X.base CX0 k fI fd ps (spXInit C f)) (hr : Room (k + 1) X.A) (hb : Binds X.K fd ps []) (hg : Gl X x) (hm : X.mg x = some (.ref C)) (ha : PA X (e :: es) ta)
    (hdb : (x == ("__debug__" : Str)) = false := by decide) (he : starEach (e :: es) X.env = (false, eval e X.env) :: starEach es X.env := by rfl) (hpl : (backTo pos (starEach es X.env)).any (·.1) = false := by rfl) :
    PS X (.Raise (some (.Call (.Name x p) (e :: es) [] pos)) none pos2) (tRaiseX C f W ta) := ps_raise hcalm tk (pmk_oex T iC tI F1 hr hb .nil (fun _ _ _ _ _ _ _ h => h.elim) hg hm ha hdb he hpl)
/-- what a refusal's making hands on -/
def RaiseA (C : Addr) (f : Str) (W : WX) (σ : L2.St) : List V → Hp → Prop := fun vs H1 => vs.length ≤ 1000 ∧ ∀ a, H1 a = none → spXInit C f (.ref a :: (vs ++ [])) (upd H1 a (exo a C none))
  (fun v H2 => v = .non ∧ ∃ (d : Addr) (fs : List (Str × V)), H2 a = some (exo a C (some d)) ∧ H2 d = some (exd d fs) ∧ H1 d = none ∧ W (.ref C) (some d) σ (upd (del H2 a) d (.xd fs))) (fun _ _ _ => False)
theorem rd_raiseX {C : Addr} {f : Str} {W : WX} {ta : TA} {D : Ends} {σ : L2.St} {H : Hp} (h : ta σ H (RaiseA C f W σ)) : tRaiseX C f W ta D σ H := h
theorem rd_raise1 {C : Addr} {f : Str} {W : WX} {σ : L2.St} {H : Hp} {v : V} (q : ∀ d, H d = none → W (.ref C) (some d) σ (upd H d (.xd [(f, v)]))) : RaiseA C f W σ [v] H := by
  refine ⟨(show 1 ≤ 1000 by decide), fun a ha => ⟨a, v, rfl, upd_same, fun dx hdx hne => ⟨rfl, dx, [(f, v)], upd_same, ?_, ?_, ?_⟩⟩⟩
  · rw [upd_ne hne, upd_same]
  · rw [upd_ne hne] at hdx
    exact hdx
  · rw [upd_ne hne] at hdx
    have e : upd (del (upd (upd (upd H a (exo a C none)) dx (exd dx [(f, v)])) a (exo a C (some dx))) a) dx (.xd [(f, v)]) = upd H dx (.xd [(f, v)]) := by
      funext b
      by_cases h1 : b = dx
      · subst h1
        rw [upd_same, upd_same]
      · rw [upd_ne h1, upd_ne h1]
        by_cases h2 : b = a
        · subst h2
          rw [del_same, ha]
        · rw [del_ne h2, upd_ne h2, upd_ne h1, upd_ne h2]
    rw [e]
    exact q dx hdx
/-- the reading of __init__ itself -/
theorem xinit_rd {K : PySem.W.Frag} {C : Addr} {f z : Str} {Q : VK} {vs : List V} {H : Hp} {E : XK} {N : List Str} (T : OexC K C) (hno : PySem.W.findIn K (.ref C) f = some none) (h : spXInit C f vs H Q E) :
    tSeq (tDrop (tVeI K (tCons (tVar 0) (tCons (tC (.str z)) tNil)))) (tOst K f (tVar 0) (tVar 1)) { nx := fun _ H' => Q .non H', rt := Q } (L2.start N vs) H := by
  obtain ⟨a, v, rfl, ha, q⟩ := h
  refine ⟨_, rfl, a, C, [.str z], rfl, (show 1 ≤ 1000 by decide), T, ha, ?_⟩
  exact ⟨_, rfl, _, rfl, a, C, rfl, T, hno, .inl ⟨ha, fun dx h1 h2 => q dx h1 h2⟩⟩
/-- a field of an own instance is stored -/
def FldS (K : PySem.W.Frag) (f : Str) (y : V) (D : Ends) (σ : L2.St) : VK := fun x H2 => ∃ a C dx fs, x = .ref a ∧ H2 a = some (.ins C dx fs) ∧ Cls K C ∧ NoAttr K C f ∧ fs.length < 1000 ∧ D.nx σ (upd H2 a (.ins C dx (putF f y fs)))
theorem rd_fldS {K : PySem.W.Frag} {ta tv : TE} {f : Str} {D : Ends} {σ : L2.St} {H : Hp} (h : tv σ H fun y H1 => ta σ H1 (FldS K f y D σ)) : sFld K ta tv f D σ H := h
theorem rd_fldSet {K : PySem.W.Frag} {f : Str} {y : V} {D : Ends} {σ : L2.St} {H : Hp} {a C dx : Addr} {fs : List (Str × V)} (h : H a = some (.ins C dx fs)) (c : Cls K C) (n : NoAttr K C f) (hl : fs.length < 1000) (q : D.nx σ (upd H a (.ins C dx (putF f y fs)))) : FldS K f y D σ (.ref a) H :=
  ⟨a, C, dx, fs, rfl, h, c, n, hl, q⟩
/-- .. is read -/
def FldG (K : PySem.W.Frag) (f : Str) (Q : VK) : VK := fun x H1 => ∃ a C dx fs v, x = .ref a ∧ H1 a = some (.ins C dx fs) ∧ Cls K C ∧ NoAttr K C f ∧ fs.lookup f = some v ∧ Q v H1
theorem rd_fldG {K : PySem.W.Frag} {ta : TE} {f : Str} {Q : VK} {σ : L2.St} {H : Hp} (h : ta σ H (FldG K f Q)) : tFld K ta f σ H Q := h
theorem rd_fldGet {K : PySem.W.Frag} {f : Str} {Q : VK} {H : Hp} {a C dx : Addr} {fs : List (Str × V)} {v : V} (h : H a = some (.ins C dx fs)) (c : Cls K C) (n : NoAttr K C f) (l : fs.lookup f = some v) (q : Q v H) : FldG K f Q (.ref a) H := ⟨a, C, dx, fs, v, rfl, h, c, n, l, q⟩
theorem rd_callS {sp : Sp} {E : L2.St → XK} {tr : TA} {Q : VK} {σ : L2.St} {H : Hp} (h : tr σ H fun vs H1 => sp vs H1 Q (E σ)) : tCallS sp E tr σ H Q := h
theorem pe_fldK {X : Cx} {K : PySem.W.Frag} {e : Expr} {f : Str} {pos : Pos} {ta : TE} (h : X.K = K) (he : PE X e ta) (hb : attributeBase e f X.env (eval e X.env) = eval e X.env := by rfl) : PE X (.Attribute e f pos) (tFld K ta f) := by
  subst h
  exact pe_fld he hb
theorem ps_fldK {X : Cx} {K : PySem.W.Frag} {o value : Expr} {f : Str} {pos pos' : Pos} {ta tv : TE} (h : X.K = K) (ho : PE X o ta) (hv : PE X value tv) (hs : swapsWith value (some (.Attribute o f pos')) pos.line X.env = pure false := by rfl) : PS X (.Assign [.Attribute o f pos'] value pos) (sFld K ta tv f) := by
  subst h
  exact ps_fld ho hv hs
/-- a refusal's value, read in the suite that handles it -/
theorem rd_xf {a C dd : Addr} {fs : List (Str × V)} {f : Str} {te : TE} {v : V} {Q : VK} {σ : L2.St} {H : Hp} (h : te σ H fun x H1 => x = .ref a ∧ Value.ref C = .ref C ∧ ∃ (d2 : Addr) (fs : List (Str × V)) (v : V), some dd = some d2 ∧ H1 d2 = some (.xd fs) ∧ fs.lookup f = some v ∧ Q v H1) : tXf a (.ref C) (some dd) C f te σ H Q := h
theorem rd_xf1 {a C dd : Addr} {f : Str} {i : Nat} {v : V} {Q : VK} {σ : L2.St} {H : Hp} (hv : σ[i]? = some (some (.ref a))) (h : H dd = some (.xd [(f, v)])) (q : Q v H) : tXf a (.ref C) (some dd) C f (tVar i) σ H Q := by
  refine rd_xf (dd := dd) (fs := [(f, v)]) (v := v) ⟨_, hv, rfl, rfl, dd, [(f, v)], v, rfl, h, ?_, q⟩
  rw [List.lookup_cons, beq_self_eq_true]
/-- a method of an own instance is called -/
def MethG (C : Addr) (m : Str) (P : V → Hp → Prop) : VK := fun x H1 => ∃ a dx fs, x = .ref a ∧ H1 a = some (.ins C dx fs) ∧ fs.lookup m = none ∧ P x H1
theorem rd_methG {C : Addr} {m : Str} {P : V → Hp → Prop} {H : Hp} {a dx : Addr} {fs : List (Str × V)} (h : H a = some (.ins C dx fs)) (l : fs.lookup m = none) (q : P (.ref a) H) : MethG C m P (.ref a) H := ⟨a, dx, fs, rfl, h, l, q⟩
theorem rd_methS {C : Addr} {m : Str} {sp : Sp} {E : L2.St → XK} {to : TE} {t : TA} {Q : VK} {σ : L2.St} {H : Hp} (h : to σ H (MethG C m fun x H1 => t σ H1 fun vs H2 => sp (x :: vs) H2 Q (E σ))) : tMethS C m sp E to t σ H Q := h
theorem rd_meth {C : Addr} {m : Str} {sp : Sp} {dvs : List V} {E : XK} {to : TE} {t : TA} {Q : VK} {σ : L2.St} {H : Hp} (h : to σ H (MethG C m fun x H1 => t σ H1 fun vs H2 => sp (x :: (vs ++ dvs)) H2 Q E)) : tMeth C m sp dvs E to t σ H Q := h
/-- an own instance is made -/
def MakeG (C : Addr) (sp : Sp) (Q : VK) (E : XK) : List V → Hp → Prop := fun vs H1 => ∀ x dx, H1 x = none → H1 dx = none → dx ≠ x → sp (.ref x :: vs) (upd (upd H1 dx (.own x)) x (.ins C dx [])) (fun v H2 => v = .non ∧ Q (.ref x) H2) E
theorem rd_makeS {C : Addr} {sp : Sp} {E : L2.St → XK} {t : TA} {Q : VK} {σ : L2.St} {H : Hp} (h : t σ H (MakeG C sp Q (E σ))) : tMakeS C sp E t σ H Q := h
theorem rd_make {C : Addr} {sp : Sp} {E : XK} {t : TA} {Q : VK} {σ : L2.St} {H : Hp} (h : t σ H (fun vs H1 => MakeG C sp Q E (vs ++ []) H1)) : tMake C sp [] E t σ H Q := h
/-- what stood ahead of the making stands behind it -/
theorem make_keep {H H' : Hp} {x dx : Addr} {o1 o2 : HO} (hx : H x = none) (hdx : H dx = none) (k : ∀ b o, (upd (upd H dx o1) x o2) b = some o → b ≠ x → H' b = some o) : ∀ b o, H b = some o → H' b = some o := fun b o h => by
  have h1 := ne_of_none h hx
  have h2 := ne_of_none h hdx
  exact k b o (by rw [upd_ne h1, upd_ne h2]; exact h) h1
end My
local macro_rules | `(tactic| walk_at "nolk") => `(tactic| kernel_rfl)
local macro_rules | `(tactic| walk_at "rd1") => `(tactic| first
  | (with_reducible refine My.rd_fldG ?_)
  | (with_reducible refine My.rd_fldS ?_)
  | ((with_reducible refine My.rd_fldGet (C := ?cc) (dx := ?dd) (fs := ?ff) (v := ?vv) ?hH ?hc ?hn ?hl ?_); (case hH => (first | assumption | walk_at "hp")); (case hc => walk_at "cls"); (case hn => walk_at "noattr"); (case hl => walk_at "lk"))
  | ((with_reducible refine My.rd_methG (dx := ?dd) (fs := ?ff) ?hH ?hl ?_); (case hH => (first | assumption | walk_at "hp")); (case hl => walk_at "nolk"))
  | ((with_reducible refine My.rd_xf1 (v := ?vv) ?hvar ?hH ?_); (case hvar => rfl); (case hH => assumption))
  | (with_reducible refine My.rd_raiseX ?_)
  | (with_reducible refine My.rd_callS ?_)
  | (with_reducible refine My.rd_meth ?_)
  | (with_reducible refine My.rd_methS ?_)
  | (with_reducible refine My.rd_make ?_)
  | (with_reducible refine My.rd_makeS ?_))

/-! ### P0T: several except clauses, some of which name what they caught -/
namespace My
open PySem PySem.Spec PyProof.Rows L2
abbrev Hand : Type := Value × Option Nat × (Addr → Value → Option Addr → TS)
/-- behind a named suite its name is gone -/
abbrev goneD (i : Nat) (D : Ends) : Ends := { nx := fun σ H => D.nx (σ.set i none) H, rt := D.rt, bk := fun σ H => D.bk (σ.set i none) H, ct := fun σ H => D.ct (σ.set i none) H }
/-- what a suite wishes: t at the caught one -/
def suiteR (q : Hand) (D : Ends) (a : Addr) (cls : Value) (d : Option Addr) (σ : L2.St) (H : Hp) : Prop := match q.2.1 with
  | none => q.2.2 a cls d D σ H
  | some i => q.2.2 a cls d (goneD i D) (σ.set i (some (.ref a))) H
theorem suite_named {i : Nat} {c : Value} {t : Addr → Value → Option Addr → TS} {D : Ends} {a : Addr} {cls : Value} {d : Option Addr} {σ : L2.St} {H : Hp} (h : t a cls d (goneD i D) (σ.set i (some (.ref a))) H) : suiteR (c, some i, t) D a cls d σ H := h
theorem suite_plain {c : Value} {t : Addr → Value → Option Addr → TS} {D : Ends} {a : Addr} {cls : Value} {d : Option Addr} {σ : L2.St} {H : Hp} (h : t a cls d D σ H) : suiteR (c, none, t) D a cls d σ H := h
def wNamed (K : PySem.W.Frag) (Wo : WX) (D : Ends) : List Hand → WX
  | [] => Wo
  | q :: r => fun cls d σ H => ∃ b, PySem.W.exmOne K cls q.1 = some b ∧ (b = true → ∀ a, H a = none → suiteR q D a cls d σ H) ∧ (b = false → wNamed K Wo D r cls d σ H)
inductive Hands (X : Cx) : List ExceptHandler → List Hand → Prop
  | nil : Hands X [] []
  | plain {x : Str} {c : Value} {t : Addr → Value → Option Addr → TS} {st : Stmt} {sts : List Stmt} {p1 p2 : Pos} {es : List ExceptHandler} {l : List Hand} (hx : Names X x c)
      (hs : ∀ (a : Addr) (oe : Obj) (cls : Value) (d : Option Addr) (pn : List (Addr × Obj)), Zc cls d oe → (∃ us, oe.data = .fields us) → PSs (X.suite a ((a, oe) :: pn)) (st :: sts) (t a cls d)) (hr : Hands X es l) :
      Hands X (.ExceptHandler (some (.Name x p1)) none (st :: sts) p2 :: es) ((c, none, t) :: l)
  | named {x n : Str} {i : Nat} {c : Value} {t : Addr → Value → Option Addr → TS} {st : Stmt} {sts : List Stmt} {p1 p2 : Pos} {es : List ExceptHandler} {l : List Hand} (hi : X.N[i]? = some n) (hk : X.env.kindOf n = some .local) (hx : Names X x c)
      (hs : ∀ (a : Addr) (oe : Obj) (cls : Value) (d : Option Addr) (pn : List (Addr × Obj)), Zc cls d oe → (∃ us, oe.data = .fields us) → PSs (X.suite a ((a, oe) :: pn)) (st :: sts) (t a cls d)) (hr : Hands X es l) :
      Hands X (.ExceptHandler (some (.Name x p1)) (some n) (st :: sts) p2 :: es) ((c, some i, t) :: l)
theorem ps_tryN {X : Cx} {body : List Stmt} {e0 : ExceptHandler} {es : List ExceptHandler} {l : List Hand} {pos : Pos} {tb : WX → TS} {Wo : WX} (stk : X.stack = X.env :: X.outer) (fra : X.env.frame = some X.env.locals) (dup : X.N.Nodup) (tk : Takes X Wo)
    (hb : ∀ (W : WX) (pn : List (Addr × Obj)) (xe : Value → Shared → Prop), Takes (X.tr pn xe) W → PassesOwn (model X.prog X.w) X.A X.env xe → PSs (X.tr pn xe) body (tb W))
    (hh : Hands X (e0 :: es) l) : PS X (.Try body (e0 :: es) [] [] pos) (fun D σ H => tb (wNamed X.K Wo D l) D σ H) := by
  constructor
  intro pins s σ H D I h
  have okI := I.ok
  have frames : X.A.frames = some (X.env :: X.outer) := okI.frames.trans (congrArg some stk)
  let after : Value → Shared → Prop := fun e s₁ => wpAny (model X.prog X.w) X.A (noteFrame e X.env) (fun _ s₂ => wpAny (model X.prog X.w) X.A (setFlight e none)
    (fun _ s₃ => wpAny (model X.prog X.w) X.A (handleBy e X.env (e0 :: es)) (SP X pins D) X.xe s₃) X.xe s₂) X.xe s₁
  have bodyRun := (hb (wNamed X.K Wo D l) (X.pn ++ pins) after ?caught PassesOwn.looking).run [] s σ H D (I.toTry _) h
  case caught =>
    rintro u s' ⟨a, B, sI, pins', σ1, H1, cls, d, rfl, J0, nb, up, sky0, free, os, ag, wish⟩
    have J : Inv X pins σ1 H1 sI := J0.ofTry okI
    have sky : Sky B (X.env :: X.outer) a (Zc cls d) X.env.locals s'.heap := stk ▸ sky0
    show wpAny (model X.prog X.w) X.A (noteFrame (.ref a) X.env) _ _ _
    refine Sky.land Zc.steady frames fra sky fun hp flies up1 => ?_
    have J1 : Inv X pins σ1 H1 { s' with heap := hp } := J.landed nb flies.1 (up.trans up1) os ag
    obtain ⟨oe, us, atA, zc, dat⟩ := flies.there
    have noFrame : a ∉ frs (X.env :: X.outer) := fun hm => by
      obtain ⟨_, o1, at1, nofr⟩ := flies.2.2.1.mem hm
      cases atA.symm.trans at1
      exact nofr _ dat
    have notLoc : a ≠ X.env.locals := fun z => noFrame (List.mem_filterMap.mpr ⟨X.env, List.mem_cons_self, z ▸ fra⟩)
    have notOut : a ∉ X.fs := fun hm => by
      obtain ⟨e1, in1, q1⟩ := List.mem_filterMap.mp hm
      exact noFrame (List.mem_filterMap.mpr ⟨e1, List.mem_cons_of_mem _ in1, q1⟩)
    have inSuite := J1.suite atA dat free notLoc notOut
    have each : ∀ {es1 : List ExceptHandler} {l1 : List Hand}, Hands X es1 l1 → wNamed X.K Wo D l1 cls d σ1 H1 → wpAny (model X.prog X.w) X.A (handleBy (.ref a) X.env es1) (SP X pins D) X.xe { s' with heap := hp } := by
      intro es1 l1 hk1
      have tested : ∀ {x : Str} {c : Value} {p1 : Pos} {Q E : Value → Shared → Prop}, Names X x c → Q c { s' with heap := hp } → wpAny (model X.prog X.w) (X.A.mark (some (.ref a))) (eval (.Name x p1) X.env) Q E { s' with heap := hp } := by
        intro x c p1 Q E nm q
        obtain ⟨gl, nodb, gm | ⟨gm, bv, bn⟩⟩ := nm
        · exact ld_glob (X := X.suite a ((a, oe) :: (X.pn ++ pins))) inSuite gl gm q nodb
        · exact ld_blt (X := X.suite a ((a, oe) :: (X.pn ++ pins))) inSuite gl gm bv q bn nodb
      have looks : PySem.W.Looks (model X.prog X.w) hp (typeOf (.ref a)) cls := fun A Q E s k q => wpAny_typeOf_ref (k _ _ atA) (zc.1.symm ▸ q)
      induction hk1 with
      | nil =>
        intro wish1
        refine wpAny_handleBy_nil ?_
        obtain ⟨_, _, _, oe2, us2, T2, oT2, ts2, at2, zc2, dat2, first2, rest2⟩ := id flies
        unfold PySem.passOn
        refine wpAny_bind (wpAny_field at2 dat2 first2 ?_)
        have isRef : ¬ ((Value.ref T2 == Value.none) = true) := by simp
        rw [if_neg isRef]
        have onward : wpAny (model X.prog X.w) X.A (setFlight (.ref a) X.env.frame) (fun _ s4 => wpAny (model X.prog X.w) X.A (throw (.ref a) : Sem Flow) (SP X pins D) X.xe s4) X.xe { s' with heap := hp } := by
          rw [fra]
          refine HandSPX.setFlight_upZ flies fun h4 sky4 up4 => wpAny_throw (tk _ _ ?_)
          refine ⟨a, B, sI, pins, σ1, H1, cls, d, rfl, J, nb, (up.trans up1).trans up4, .inr (.inr ?_), free, os, ag, wish1⟩
          exact stk.symm ▸ sky4
        first
        | exact wpAny_bind (wpAny_pure (wpAny_bind onward))
        | exact wpAny_bind onward
      | @plain x c t st sts p1 p2 es2 l2 hx hs hr ih =>
        rintro ⟨b, isx, yes, no⟩
        refine wpAny_handleBy_cons (codeAny_handlers_test ?_) (fun q => by cases q)
        refine tested hx ((PySem.W.exm_one (M := model X.prog X.w) J1.kIn looks isx).here ?_)
        cases b with
        | false => exact ih (no rfl)
        | true =>
          refine codeAny_handlers_suite (HandSPX.lands_againZ flies fun h4 flies4 up4 => ?_)
          have J4 : Inv X pins σ1 H1 { s' with heap := h4 } := J.landed nb flies4.1 ((up.trans up1).trans up4) os ag
          obtain ⟨oe4, us4, at4, zc4, dat4⟩ := flies4.there
          have runs := (hs a oe4 cls d (X.pn ++ pins) zc4 ⟨_, dat4⟩).run [] _ _ H1 _ (J4.suite at4 dat4 free notLoc notOut) (yes rfl a free)
          refine wpAny_mono runs (fun f s6 got => ?_) fun _ _ z => False.elim z
          match f, got with
          | .next, ⟨_, _, S6, q6⟩ => exact ⟨_, _, S6.unsuite okI, q6⟩
          | .brk, ⟨_, _, S6, q6⟩ => exact ⟨_, _, S6.unsuite okI, q6⟩
          | .cont, ⟨_, _, S6, q6⟩ => exact ⟨_, _, S6.unsuite okI, q6⟩
          | .ret u, ⟨_, _, _, S6, r6, q6⟩ => exact ⟨_, _, _, S6.unsuite okI, r6, q6⟩
      | @named x n i c t st sts p1 p2 es2 l2 hi hk hx hs hr ih =>
        rintro ⟨b, isx, yes, no⟩
        refine wpAny_handleBy_cons (codeAny_handlers_test ?_) (fun q => by cases q)
        refine tested hx ((PySem.W.exm_one (M := model X.prog X.w) J1.kIn looks isx).here ?_)
        cases b with
        | false => exact ih (no rfl)
        | true =>
          have isLoc : Loc X.env.scope n := .inl hk
          refine codeAny_handlers_suite_as (HandSPX.lands_againZ flies fun h4 flies4 up4 => ?_)
          have J4 : Inv X pins σ1 H1 { s' with heap := h4 } := J.landed nb flies4.1 ((up.trans up1).trans up4) os ag
          obtain ⟨oe4, us4, at4, zc4, dat4⟩ := flies4.there
          refine store_ok (X := X.suite a ((a, oe4) :: (X.pn ++ pins))) (v := .ref a) (J4.suite at4 dat4 free notLoc notOut) dup hi isLoc rfl (fun s5 S5 => ?_) (.inr hk)
          have runs := (hs a oe4 cls d (X.pn ++ pins) zc4 ⟨_, dat4⟩).run [] s5 _ H1 _ S5 (yes rfl a free)
          refine wpAny_mono runs (fun f s6 got => ?_) fun _ _ z => False.elim z
          have unnamed : ∀ {σ6 : L2.St} {H6 : Hp} {Q : Shared → Prop}, Inv (X.suite a ((a, oe4) :: (X.pn ++ pins))) [] σ6 H6 s6 → (∀ s7, Inv X pins (σ6.set i none) H6 s7 → Q s7) →
              wpAny (model X.prog X.w) X.A (do bindName X.env n .none; unbindBehindTheSuite X.env n p2) (fun _ s7 => Q s7) X.xe s6 := fun S6 hq => gone_ok (S6.unsuite okI) dup hi hk hq
          match f, got with
          | .next, ⟨_, _, S6, q6⟩ => exact unnamed S6 fun s7 J7 => ⟨_, _, J7, q6⟩
          | .brk, ⟨_, _, S6, q6⟩ => exact unnamed S6 fun s7 J7 => ⟨_, _, J7, q6⟩
          | .cont, ⟨_, _, S6, q6⟩ => exact unnamed S6 fun s7 J7 => ⟨_, _, J7, q6⟩
          | .ret u, ⟨_, _, _, S6, r6, q6⟩ => exact unnamed S6 fun s7 J7 => ⟨_, _, _, J7, r6, q6⟩
    exact each hh wish
  refine wpAny_Try_except (wpAny_mono bodyRun (fun f s1 got => ?_) fun e s1 he => he)
  match f, got with
  | .next, ⟨_, _, J1, q⟩ => exact wpAny_execs_nil ⟨_, _, J1.ofTry okI, q⟩
  | .brk, ⟨_, _, J1, q⟩ => exact ⟨_, _, J1.ofTry okI, q⟩
  | .cont, ⟨_, _, J1, q⟩ => exact ⟨_, _, J1.ofTry okI, q⟩
  | .ret u, ⟨_, _, _, J1, r, q⟩ => exact ⟨_, _, _, J1.ofTry okI, r, q⟩
/-- two ways to read one expression: a call whose receiver may be of either class -/
def tAlt (t u : TE) : TE := fun σ H Q => t σ H Q ∨ u σ H Q
theorem pe_alt {X : Cx} {e : Expr} {t u : TE} (h1 : PE X e t) (h2 : PE X e u) : PE X e (tAlt t u) := by
  constructor
  intro pins s σ H Q I h
  rcases h with h | h
  · exact h1.run pins s σ H Q I h
  · exact h2.run pins s σ H Q I h
theorem rd_altL {t u : TE} {σ : L2.St} {H : Hp} {Q : VK} (h : t σ H Q) : tAlt t u σ H Q := .inl h
theorem rd_altR {t u : TE} {σ : L2.St} {H : Hp} {Q : VK} (h : u σ H Q) : tAlt t u σ H Q := .inr h
end My

namespace My
open PySem PySem.Spec PyProof.Rows L2
/-! ### heaps: all but p stands; a draw's box -/
def KeepB (p : Addr) (H H' : Hp) : Prop := ∀ b o, H b = some o → b ≠ p → H' b = some o
theorem KeepB.refl (p : Addr) (H : Hp) : KeepB p H H := fun _ _ h _ => h
theorem KeepB.trans {p : Addr} {H H1 H2 : Hp} (a : KeepB p H H1) (b : KeepB p H1 H2) : KeepB p H H2 := fun c o h n => b c o (a c o h n) n
theorem Same.keepB {p : Addr} {H H' : Hp} (a : Same H H') : KeepB p H H' := fun c o h _ => a c o h
theorem KeepB.same {p : Addr} {H H1 H2 : Hp} (a : KeepB p H1 H2) (e : Same H H1) (hp : H p = none) : Same H H2 := fun c o h => a c o (e c o h) (ne_of_none h hp)
theorem same_new {H : Hp} {p : Addr} {o : HO} (h : H p = none) : Same H (upd H p o) := fun b x e => by
  rw [upd_ne (ne_of_none e h)]
  exact e
theorem keepB_upd {H : Hp} {p : Addr} {o : HO} : KeepB p H (upd H p o) := fun b x e n => by
  rw [upd_ne n]
  exact e
/-- a box: what is left of the cell, its seed, its count, at most n -/
def BoxAt (H : Hp) (p : Addr) (n : Nat) : Prop := ∃ a b c : Int, H p = some (.lst [.int a, .int b, .int c]) ∧ 0 ≤ a ∧ 0 ≤ b ∧ b < 2147483629 ∧ 0 ≤ c ∧ c ≤ (n : Int)
theorem BoxAt.mono {H : Hp} {p : Addr} {n m : Nat} (h : BoxAt H p n) (l : n ≤ m) : BoxAt H p m := by
  obtain ⟨a, b, c, e, h1, h2, h3, h4, h5⟩ := h
  exact ⟨a, b, c, e, h1, h2, h3, h4, by omega⟩
theorem BoxAt.keep {H H' : Hp} {p : Addr} {n : Nat} (h : BoxAt H p n) (s : Same H H') : BoxAt H' p n := by
  obtain ⟨a, b, c, e, r⟩ := h
  exact ⟨a, b, c, s _ _ e, r⟩
theorem BoxAt.ne {H : Hp} {p q : Addr} {n : Nat} (h : BoxAt H p n) (e : H q = none) : q ≠ p := by
  obtain ⟨a, b, c, e1, r⟩ := h
  exact (ne_of_none e1 e).symm
theorem log2_small {j : Int} (h0 : 0 < j) (h : j < 2 ^ 200) : j.natAbs.log2 < 9000 := by
  have : j.natAbs < 2 ^ 200 := by omega
  exact Nat.lt_of_lt_of_le (PySem.Flt.log2_lt_of (by decide) this) (by decide)
theorem KeepB.seqL {K : PySem.W.Frag} {H H' : Hp} {p a : Addr} {xs : List V} (e : KeepB p H H') (h : SqL K H a xs) (n : a ≠ p) : SqL K H' a xs := by
  rcases h with (h | ⟨o, h⟩) | h
  · exact .inl (.inl (e _ _ h n))
  · exact .inl (.inr ⟨o, e _ _ h n⟩)
  · exact .inr h
theorem BoxAt.new {H : Hp} {p q : Addr} {n : Nat} {o : HO} (h : BoxAt H p n) (e : p ≠ q) : BoxAt (upd H q o) p n := by
  obtain ⟨a, b, c, e1, r⟩ := h
  exact ⟨a, b, c, by rw [upd_ne e]; exact e1, r⟩
theorem KeepB.new {p q : Addr} {H H1 : Hp} {o : HO} (k : KeepB p H H1) (e : H q = none) : KeepB p H (upd H1 q o) := fun b x h n => by
  rw [upd_ne (ne_of_none h e)]
  exact k b x h n
theorem wo_sub {l : Addr} {H : Hp} : Same (Wo l H) H := fun b o e => by
  by_cases h : b = l
  · subst h
    rw [wo_same] at e
    cases e
  · rw [wo_ne h] at e
    exact e
theorem Same.seqT {K : PySem.W.Frag} {H H' : Hp} {a : Addr} {xs : List V} (e : Same H H') (h : SqT K H a xs) : SqT K H' a xs := by
  rcases h with (h | ⟨o, h⟩) | h
  · exact .inl (.inl (e _ _ h))
  · exact .inl (.inr ⟨o, e _ _ h⟩)
  · exact .inr h
theorem same_wo {l : Addr} {H H' : Hp} (e : Same H H') : Same (Wo l H) (Wo l H') := fun b o h => by
  by_cases hb : b = l
  · subst hb
    rw [wo_same] at h
    cases h
  · rw [wo_ne hb] at h ⊢
    exact e _ _ h
theorem wo_none {l p : Addr} {H : Hp} (h : H p = none) : Wo l H p = none := by
  by_cases hb : p = l
  · subst hb
    exact wo_same
  · rw [wo_ne hb]
    exact h
theorem BoxAt.wo {l p : Addr} {H : Hp} {n : Nat} (h : BoxAt H p n) (e : p ≠ l) : BoxAt (Wo l H) p n := by
  obtain ⟨a, b, c, e1, r⟩ := h
  exact ⟨a, b, c, by rw [wo_ne e]; exact e1, r⟩
theorem same_to_wo {l : Addr} {H H' : Hp} (e : Same H H') (h : H l = none) : Same H (Wo l H') := fun b o hb => by
  rw [wo_ne (ne_of_none hb h)]
  exact e _ _ hb
/-! ### solvers: what stands where -/
/-- q is free in H -/
structure Nn (H : Hp) (q : Addr) : Prop where
  e : H q = none
theorem iteTd {b : Bool} {A B : Prop} (h : b = true) (a : A) : if b = true then A else B := by rw [if_pos h]; exact a
theorem iteFd {b : Bool} {A B : Prop} (h : b = false) (a : B) : if b = true then A else B := by rw [if_neg (by rw [h]; decide)]; exact a
theorem hp_same {H H' : Hp} {p : Addr} {o : HO} (s : Same H H') (h : H p = some o) : H' p = some o := s _ _ h
theorem hp_kb {H H' : Hp} {p q : Addr} {o : HO} (s : KeepB p H H') (n : q ≠ p) (h : H q = some o) : H' q = some o := s _ _ h n
theorem hp_upd {H : Hp} {p q : Addr} {o u : HO} (n : q ≠ p) (h : H q = some o) : upd H p u q = some o := by
  rw [upd_ne n]
  exact h
theorem ne_nn {H : Hp} {a b : Addr} {o : HO} (n : Nn H b) (h : H a = some o) : a ≠ b := ne_of_none h n.e
theorem ne_box {H : Hp} {p a : Addr} {n : Nat} (f : Nn H a) (h : BoxAt H p n) : a ≠ p := h.ne f.e
theorem kb_same {p : Addr} {H H1 H2 : Hp} (s : Same H1 H2) (g : KeepB p H H1) : KeepB p H H2 := g.trans (Same.keepB s)
theorem kb_kb {p : Addr} {H H1 H2 : Hp} (s : KeepB p H1 H2) (g : KeepB p H H1) : KeepB p H H2 := g.trans s
theorem kb_skip {p q : Addr} {H H1 H2 : Hp} (s : KeepB q H1 H2) (n : H q = none) (g : KeepB p H H1) : KeepB p H H2 := fun b o h hn => s b o (g b o h hn) (ne_of_none h n)
theorem kb_put {p : Addr} {H H1 : Hp} {o : HO} (g : KeepB p H H1) : KeepB p H (upd H1 p o) := fun b x h n => by
  rw [upd_ne n]
  exact g b x h n
theorem kb_new {p q : Addr} {H H1 : Hp} {o : HO} (n : H q = none) (g : KeepB p H H1) : KeepB p H (upd H1 q o) := fun b x h hn => by
  rw [upd_ne (ne_of_none h n)]
  exact g b x h hn
theorem sm_same {H H1 H2 : Hp} (s : Same H1 H2) (g : Same H H1) : Same H H2 := g.trans s
theorem sm_skip {q : Addr} {H H1 H2 : Hp} (s : KeepB q H1 H2) (n : H q = none) (g : Same H H1) : Same H H2 := fun b o h => s b o (g b o h) (ne_of_none h n)
theorem sm_new {q : Addr} {H H1 : Hp} {o : HO} (n : H q = none) (g : Same H H1) : Same H (upd H1 q o) := fun b x h => by
  rw [upd_ne (ne_of_none h n)]
  exact g b x h
theorem nn_same {q : Addr} {H H1 : Hp} (n : Nn H1 q) (s : Same H H1) : H q = none := by
  cases e : H q with
  | none => rfl
  | some o => exact absurd ((s _ _ e).symm.trans n.e) nofun
theorem nn_box {p q : Addr} {m : Nat} {H H1 : Hp} (n : Nn H1 q) (hB : BoxAt H1 p m) (k : KeepB p H H1) : H q = none := by
  cases e : H q with
  | none => rfl
  | some o => exact absurd ((k _ _ e (hB.ne n.e)).symm.trans n.e) nofun
theorem bx_kb {p q : Addr} {n : Nat} {H H' : Hp} (s : KeepB q H H') (ne : p ≠ q) (h : BoxAt H p n) : BoxAt H' p n := by
  obtain ⟨a, b, c, e, r⟩ := h
  exact ⟨a, b, c, s _ _ e ne, r⟩
theorem bx_nn {p q : Addr} {n : Nat} {H : Hp} (h : BoxAt H p n) (f : Nn H q) : p ≠ q := (h.ne f.e).symm
local macro_rules | `(tactic| walk_at "hp") => `(tactic| first
  | assumption
  | exact L2.upd_same
  | ((with_reducible refine My.hp_upd (o := ?ho) ?hn ?hh); (case hh => walk_at "hp"); (case hn => walk_at "ne"))
  | ((with_reducible refine My.hp_same (H := ?hH) (o := ?ho) ?hs ?hh); (case hs => assumption); (case hh => walk_at "hp"))
  | ((with_reducible refine My.hp_kb (H := ?hH) (p := ?hq) (o := ?ho) ?hs ?hn ?hh); (case hs => assumption); (case hh => walk_at "hp"); (case hn => walk_at "ne")))
local macro_rules | `(tactic| walk_at "bx0") => `(tactic| first
  | assumption
  | ((with_reducible refine My.BoxAt.keep (H := ?hH) (n := ?hm) ?hh ?hs); (case hs => assumption); (case hh => walk_at "bx0"))
  | ((with_reducible refine My.bx_kb (H := ?hH) (q := ?hq) (n := ?hm) ?hs ?hn ?hh); (case hs => assumption); (case hh => walk_at "bx0"); (case hn => walk_at "ne"))
  | ((with_reducible refine My.BoxAt.new (n := ?hm) ?hh ?hn); (case hh => walk_at "bx0"); (case hn => walk_at "ne")))
local macro_rules | `(tactic| walk_at "bx") => `(tactic| first
  | walk_at "bx0"
  | ((with_reducible refine My.BoxAt.mono (n := ?hm) ?hh ?hl); (case hh => walk_at "bx0"); (case hl => omega)))
local macro_rules | `(tactic| walk_at "ne") => `(tactic| first
  | assumption
  | (refine Ne.symm ?_; assumption)
  | ((with_reducible refine My.ne_nn (H := ?hH) (o := ?ho) ?hn ?hh); (case hn => assumption); (case hh => walk_at "hp"))
  | ((with_reducible refine Ne.symm (My.ne_nn (H := ?hH) (o := ?ho) ?hn ?hh)); (case hn => assumption); (case hh => walk_at "hp"))
  | ((with_reducible refine My.ne_box (H := ?hH) (n := ?hm) ?hn ?hh); (case hn => assumption); (case hh => walk_at "bx0"))
  | ((with_reducible refine Ne.symm (My.ne_box (H := ?hH) (n := ?hm) ?hn ?hh)); (case hn => assumption); (case hh => walk_at "bx0"))
  | ((refine L2.ne_of (H := ?hH) (o := L2.HO.tup ?ho) (u := L2.HO.lst ?hu) ?h1 ?h2 nofun); (case h1 => assumption); (case h2 => walk_at "hp"))
  | ((refine L2.ne_of (H := ?hH) (o := L2.HO.lst ?ho) (u := L2.HO.tup ?hu) ?h1 ?h2 nofun); (case h1 => assumption); (case h2 => walk_at "hp")))
local macro_rules | `(tactic| walk_at "nn") => `(tactic| first
  | assumption
  | exact My.Nn.e (by assumption)
  | ((with_reducible refine My.nn_same (H1 := ?hH) ?hn ?hs); (case hn => assumption); (case hs => walk_at "sm"))
  | ((with_reducible refine My.nn_box (H1 := ?hH) (p := ?hp) (m := ?hm) ?hn ?hb ?hs); (case hn => assumption); (case hb => walk_at "bx0"); (case hs => walk_at "kb")))
local macro_rules | `(tactic| walk_at "kb") => `(tactic| first
  | assumption
  | (with_reducible exact My.KeepB.refl _ _)
  | ((with_reducible refine My.kb_put ?hg); (case hg => walk_at "kb"))
  | ((with_reducible refine My.kb_new ?hn ?hg); (case hg => walk_at "kb"); (case hn => walk_at "nn"))
  | ((with_reducible refine My.kb_same (H1 := ?hH) ?hs ?hg); (case hs => assumption); (case hg => walk_at "kb"))
  | ((with_reducible refine My.kb_kb (H1 := ?hH) ?hs ?hg); (case hs => assumption); (case hg => walk_at "kb"))
  | ((with_reducible refine My.kb_skip (q := ?hq) (H1 := ?hH) ?hs ?hn ?hg); (case hs => assumption); (case hg => walk_at "kb"); (case hn => walk_at "nn")))
local macro_rules | `(tactic| walk_at "sm") => `(tactic| first
  | assumption
  | (with_reducible exact L2.Same.refl _)
  | ((with_reducible refine My.sm_new ?hn ?hg); (case hg => walk_at "sm"); (case hn => walk_at "nn"))
  | ((with_reducible refine My.sm_same (H1 := ?hH) ?hs ?hg); (case hs => assumption); (case hg => walk_at "sm"))
  | ((with_reducible refine My.sm_skip (q := ?hq) (H1 := ?hH) ?hs ?hn ?hg); (case hs => assumption); (case hg => walk_at "sm"); (case hn => walk_at "nn")))
/-- what else is kept (a law of one's own adds rows ahead) -/
local macro_rules | `(tactic| walk_at "at") => `(tactic| first | assumption | fail "at")
local macro_rules | `(tactic| walk_at "sl") => `(tactic| first
  | assumption
  | ((refine My.sqL_of (xs := ?hx) ?hh); (case hh => walk_at "hp"))
  | ((with_reducible refine L2.Same.seq (H := ?hH) (xs := ?hx) ?hs ?hh); (case hh => assumption); (case hs => walk_at "sm"))
  | ((with_reducible refine My.KeepB.seqL (H := ?hH) (p := ?hq) (xs := ?hx) ?hs ?hh ?hn); (case hs => assumption); (case hh => walk_at "sl"); (case hn => walk_at "ne")))
local macro_rules | `(tactic| walk_at "st") => `(tactic| first
  | assumption
  | ((refine My.sqT_of (xs := ?hx) ?hh); (case hh => walk_at "hp"))
  | ((with_reducible refine My.Same.seqT (H := ?hH) (xs := ?hx) ?hs ?hh); (case hh => assumption); (case hs => walk_at "sm")))
local macro_rules | `(tactic| walk_at "sql") => `(tactic| walk_at "sl")
local macro_rules | `(tactic| walk_at "sqt") => `(tactic| walk_at "st")
/-- of numbers -/
local macro_rules | `(tactic| walk_at "ar") => `(tactic| first | assumption | omega | (simp only [List.length_map, List.length_cons, List.length_nil]; omega) | decide | (simp only [List.length_map, List.length_cons, List.length_nil] at *; omega))
/-- any side goal -/
local macro_rules | `(tactic| walk_at "sd") => `(tactic| first
  | assumption
  | rfl
  | omega
  | ((with_reducible show My.Same _ _); walk_at "sm")
  | ((with_reducible show L2.Same _ _); walk_at "sm")
  | ((with_reducible show My.KeepB _ _ _); walk_at "kb")
  | ((with_reducible show My.BoxAt _ _ _); walk_at "bx")
  | ((with_reducible show L2.SqL _ _ _ _); walk_at "sl")
  | ((with_reducible show L2.SqT _ _ _ _); walk_at "st")
  | ((with_reducible show _ ≠ _); walk_at "ne")
  | ((with_reducible show _ = Option.none); walk_at "nn")
  | walk_at "at"
  | walk_at "hp"
  | (simp; done)
  | trivial)
section
variable {K : PySem.W.Frag} {σ : L2.St} {H : Hp} {i : Nat} {v x y : V} {Q : VK}
theorem rd_lstB {xs : List V} (q : ∀ p H', Nn H p → Same H H' → H' p = some (.lst xs) → Q (.ref p) H') (hz : xs.length ≤ 100000 := by (first | exact Nat.zero_le _ | decide | (simp; done) | (simp; omega))) : LstK Q xs H := rd_lstA hz fun p H' n => q p H' ⟨n⟩
theorem rd_tupB {xs : List V} (q : ∀ p H', Nn H p → Same H H' → H' p = some (.tup xs) → Q (.ref p) H') (hz : xs.length ≤ 100000 := by (first | exact Nat.zero_le _ | decide | (simp; done) | (simp; omega))) : TupK Q xs H := rd_tupA hz fun p H' n => q p H' ⟨n⟩
theorem rd_revB {p : Addr} {xs : List V} (q : ∀ p H', Nn H p → Same H H' → H' p = some (.lst xs.reverse) → Q (.ref p) H') (h : SqL K H p xs := by walk_at "sl") : RevK K Q (.ref p) H := rd_revK h fun p H' n => q p H' ⟨n⟩
theorem rd_catB {l b : Addr} {xs zs : List V} (q : ∀ p H', Nn H p → Same H H' → H' p = some (.lst (xs ++ zs)) → Q (.ref p) H') (h1 : H l = some (.lst xs) := by walk_at "hp") (h2 : H b = some (.lst zs) := by walk_at "hp") (hz : xs.length + zs.length ≤ 100000 := by (first | exact Nat.zero_le _ | decide | (simp; done) | (simp; omega))) : rCat (.ref l) (.ref b) H Q := rd_cat h1 h2 hz fun p H' n => q p H' ⟨n⟩
theorem rd_catT {a b : Addr} {x y : V} {xs ys : List V} (q : ∀ p H', Nn H p → Same H H' → H' p = some (.tup ((x :: xs) ++ (y :: ys))) → Q (.ref p) H') (h1 : SqT K H a (x :: xs) := by walk_at "st") (h2 : SqT K H b (y :: ys) := by walk_at "st") (hz : (x :: xs).length + (y :: ys).length ≤ 100000 := by (first | exact Nat.zero_le _ | decide | (simp; done) | (simp; omega))) : rCatA K (.ref a) (.ref b) H Q := rd_catA h1 h2 hz fun p H' n => q p H' ⟨n⟩
theorem rd_dnewB (q : ∀ p H', Nn H p → Same H H' → H' p = some (.dK []) → Q (.ref p) H') : tDNewK σ H Q := rd_dnew fun p H' n => q p H' ⟨n⟩
theorem rd_ilB {R : It → Hp → Prop} {p : Addr} {xs : List V} (q : R (Itl K p) H) (h : SqL K H p xs := by walk_at "sl") : LstIt K R (.ref p) H := rd_il h q
theorem rd_itB {R : It → Hp → Prop} {p : Addr} {xs : List V} (q : R (Itt K p) H) (h : SqT K H p xs := by walk_at "st") : TupIt K R (.ref p) H := rd_it h q
end
/-! ### data: how big, and solvers -/
structure Sm (n w : Nat) (d : PyData) : Prop where
  s : d.showable = true
  c : d.canLay0 = true
  p : d.depth ≤ n
  w : wt d ≤ w
theorem Sm.ok {n w : Nat} {d : PyData} (h : Sm n w d) (hn : n ≤ 60 := by decide) (hw : w ≤ 10000000 := by decide) : okD d := .inr ⟨h.s, h.c, Nat.le_trans h.p hn, Nat.le_trans h.w hw⟩
theorem Sm.mono {n w n' w' : Nat} {d : PyData} (h : Sm n w d) (hn : n ≤ n') (hw : w ≤ w') : Sm n' w' d := ⟨h.s, h.c, Nat.le_trans h.p hn, Nat.le_trans h.w hw⟩
theorem Sm.non : Sm 0 2000 .none := ⟨rfl, rfl, by decide +kernel, by decide +kernel⟩
theorem Sm.bl {b : Bool} : Sm 0 2000 (.bool b) := by cases b <;> exact ⟨rfl, rfl, by decide +kernel, by decide +kernel⟩
theorem int_log {i : Int} (h : i.natAbs ≤ 10000000000000000000000000000000000000000000000000000000000000000000000) : i.natAbs.log2 < 1920 := Nat.lt_of_lt_of_le (PySem.Flt.log2_lt_of (k := 240) (by decide) (Nat.lt_of_le_of_lt h (by decide))) (by decide)
theorem Sm.int {i : Int} (h : i.natAbs ≤ 10000000000000000000000000000000000000000000000000000000000000000000000) : Sm 0 2000 (.int i) := ⟨decide_eq_true (int_log h), rfl, by simp [PyData.depth], by simp [wt]⟩
theorem Sm.str {z : Str} (h : PyData.strOk z = true) (l : z.length ≤ 199) : Sm 0 2000 (.str z) := ⟨rfl, by simp only [PyData.canLay0, h], by simp [PyData.depth], by simp only [wt]; omega⟩
theorem sm_all {n w : Nat} : ∀ {ds : List PyData}, (∀ d ∈ ds, Sm n w d) → PyData.showableAll ds = true ∧ PyData.canLayAll0 ds = true ∧ PyData.depthAll ds ≤ n ∧ wtAll ds ≤ ds.length * (w + 2)
  | [], _ => by simp [PyData.showableAll, PyData.canLayAll0, PyData.depthAll, wtAll]
  | d :: ds, h => by
    obtain ⟨a, b, c, e⟩ := sm_all fun x hx => h x (List.mem_cons_of_mem _ hx)
    obtain ⟨a1, b1, c1, e1⟩ := h d List.mem_cons_self
    refine ⟨?_, ?_, ?_, ?_⟩
    · simp only [PyData.showableAll, a, a1, Bool.and_self]
    · simp only [PyData.canLayAll0, b, b1, Bool.and_self]
    · simp only [PyData.depthAll]
      omega
    · simp only [wtAll, List.length_cons, Nat.add_mul]
      omega
theorem Sm.tup {n w m : Nat} {ds : List PyData} (h : ∀ d ∈ ds, Sm n w d) (l : ds.length ≤ m) : Sm (n + 1) (m * (w + 2) + 4) (.tuple ds) := by
  obtain ⟨a, b, c, e⟩ := sm_all h
  have := Nat.mul_le_mul_right (w + 2) l
  refine ⟨by simp only [PyData.showable, a], by simp only [PyData.canLay0, b], by simp only [PyData.depth]; omega, by simp only [wt]; omega⟩
theorem Sm.lst {n w m : Nat} {ds : List PyData} (h : ∀ d ∈ ds, Sm n w d) (l : ds.length ≤ m) : Sm (n + 1) (m * (w + 2) + 4) (.list ds) := by
  obtain ⟨a, b, c, e⟩ := sm_all h
  have := Nat.mul_le_mul_right (w + 2) l
  refine ⟨by simp only [PyData.showable, a], by simp only [PyData.canLay0, b], by simp only [PyData.depth]; omega, by simp only [wt]; omega⟩
theorem sm_nil {n w : Nat} : ∀ d ∈ ([] : List PyData), Sm n w d := fun _ h => nomatch h
theorem sm_cons {n w : Nat} {d : PyData} {ds : List PyData} (h : Sm n w d) (r : ∀ d ∈ ds, Sm n w d) : ∀ x ∈ d :: ds, Sm n w x := fun x hx => by
  rcases List.mem_cons.mp hx with rfl | hx
  · exact h
  · exact r x hx
/-- a leaf -/
local macro_rules | `(tactic| walk_at "sm0") => `(tactic| first
  | exact My.Sm.non
  | exact My.Sm.bl
  | (refine My.Sm.int ?_; omega)
  | (refine My.Sm.int ?_; decide)
  | (refine My.Sm.str ?_ ?_ <;> walk_at "txt"))
local macro_rules | `(tactic| walk_at "txt") => `(tactic| first | assumption | omega | decide +kernel)
local macro_rules | `(tactic| walk_at "sml") => `(tactic| first
  | exact My.sm_nil
  | (refine My.sm_cons ?_ ?_; walk_at "smd"; walk_at "sml"))
local macro_rules | `(tactic| walk_at "smd") => `(tactic| first
  | assumption
  | walk_at "sm0"
  | ((refine My.Sm.mono (My.Sm.tup (n := 0) (w := 2000) (m := 12) ?_ ?_) (by decide) (by decide)); walk_at "sml"; (simp; done))
  | ((refine My.Sm.mono (My.Sm.lst (n := 0) (w := 2000) (m := 12) ?_ ?_) (by decide) (by decide)); walk_at "sml"; (simp; done)))
/-- data that is not too big: a leaf; leaves; rows of leaves -/
local macro_rules | `(tactic| walk_at "ok") => `(tactic| first
  | assumption
  | exact .inl rfl
  | (refine My.Sm.ok (n := 0) (w := 2000) ?_; walk_at "sm0")
  | (refine My.Sm.ok (My.Sm.tup (n := 0) (w := 2000) (m := 50) ?_ ?_); walk_at "sml"; (simp; done))
  | (refine My.Sm.ok (My.Sm.lst (n := 0) (w := 2000) (m := 50) ?_ ?_); walk_at "sml"; (simp; done))
  | (refine My.Sm.ok (My.Sm.tup (n := 1) (w := 26000) (m := 50) ?_ ?_); walk_at "sml"; (simp; done))
  | (refine My.Sm.ok (My.Sm.lst (n := 1) (w := 26000) (m := 50) ?_ ?_); walk_at "sml"; (simp; done)))
/-- what a value is as data -/
local macro_rules | `(tactic| walk_at "dq") => `(tactic| first
  | assumption
  | exact L2.Dp.non
  | exact L2.Dp.bl _
  | exact L2.Dp.int _
  | exact L2.Dp.str _
  | ((refine L2.Dp.tup (xs := ?hx) (ds := ?hd) ?hh ?ha); (case hh => walk_at "st"); (case ha => walk_at "da"))
  | ((refine L2.Dp.lst (xs := ?hx) (ds := ?hd) ?hh ?ha); (case hh => walk_at "sl"); (case ha => walk_at "da"))
  | ((refine My.dp_same (H := ?hH) ?hs ?hd _ ?hh); (case hh => assumption); (case hs => walk_at "sm")))
local macro_rules | `(tactic| walk_at "da") => `(tactic| first
  | assumption
  | exact L2.DpAll.nil
  | ((refine L2.DpAll.cons (d := ?hd) (ds := ?he) ?h1 ?h2); (case h1 => walk_at "dq"); (case h2 => walk_at "da")))
local macro_rules | `(tactic| walk_at "dp") => `(tactic| first
  | assumption
  | ((refine My.DpE.dp (d := ?hd) ?hh); (case hh => walk_at "dq"))
  | (refine My.DpE.dK ?hh; walk_at "hp")
  | ((refine My.DpE.same (H := ?hH) (d := ?hd) ?hs ?hh); (case hh => assumption); (case hs => walk_at "sm")))
theorem rd_rZ {K : PySem.W.Frag} {H : Hp} {Q : VK} {v : V} {d : PyData} (q : ∀ z, z = d.shown → Q (.str z) H) (hd : DpE K H v d := by walk_at "dp") (h : okD d := by walk_at "ok") : rReprE K [v] H Q := rd_rEg hd h q
theorem rd_neB {K : PySem.W.Frag} {H : Hp} {Q : VK} {x y : V} {d e : PyData} (q : Q (.bl (!PyData.eqv d e)) H) (hd : Dp K H x d := by walk_at "dq") (he : Dp K H y e := by walk_at "dq") (sd : SeqAt.shaped d = true := by walk_at "shp") (se : SeqAt.shaped e = true := by walk_at "shp") : rNeD K x y H Q := rd_neD hd he sd se q
theorem rd_eqB {K : PySem.W.Frag} {H : Hp} {Q : VK} {x y : V} {d e : PyData} (q : Q (.bl (PyData.eqv d e)) H) (hd : Dp K H x d := by walk_at "dq") (he : Dp K H y e := by walk_at "dq") (sd : SeqAt.shaped d = true := by walk_at "shp") (se : SeqAt.shaped e = true := by walk_at "shp") : rEqD K x y H Q := rd_eqD hd he sd se q
theorem okD.shp {d : PyData} (h : okD d) (n : d ≠ .dict []) : SeqAt.shaped d = true := h.shaped.resolve_left n
local macro_rules | `(tactic| walk_at "shp") => `(tactic| first
  | assumption
  | decide +kernel
  | (refine My.okD.shp ?_ nofun; walk_at "ok"))
/-- shown texts of one datum are one -/
theorem ite_same {a b : Str} {A B : Prop} (h : a = b) (q : B) : if (!decide (V.str a = V.str b)) = true then A else B := by
  subst h
  exact iteFd (by simp) q
theorem ite_sameP {a b : Str} {A B : Prop} (h : a = b) (q : A) : if decide (V.str a = V.str b) = true then A else B := by
  subst h
  exact iteTd (by simp) q
theorem rd_intD {H : Hp} {Q : VK} {b : Bool} {i : Int} (h : (if b then 1 else 0) = i) (q : Q (.int i) H) : rInt1 [.bl b] H Q := .inr ⟨b, rfl, h ▸ q⟩
theorem rd_slB {K : PySem.W.Frag} {H : Hp} {Q : VK} {a : Addr} {xs ys : List V} {lo hi : Option Int} (q : ∀ p H', Same H H' → H' p = some (.tup ys) → Q (.ref p) H') (h : H a = some (.tup xs) := by walk_at "hp") (e : cutV xs lo hi = ys := by rfl) : rSlA K (.ref a) lo hi H Q := rd_slA h fun p H' s e' => q p H' s (e ▸ e')
theorem rd_catX {K : PySem.W.Frag} {H : Hp} {Q : VK} {a b : Addr} {xs ys : List V} (q : ∀ p H', Same H H' → H' p = some (.tup (xs ++ ys)) → Q (.ref p) H') (h1 : H a = some (.tup xs) := by walk_at "hp") (h2 : H b = some (.tup ys) := by walk_at "hp") (hz : xs.length + ys.length ≤ 100000 := by (first | decide | omega | (simp; done) | (simp; omega))) : rCatA K (.ref a) (.ref b) H Q :=
  ⟨a, b, xs, ys, rfl, rfl, sqT_of h1, sqT_of h2, Nat.le_trans hz (by decide), fun e => q b H (Same.refl H) (by rw [e]; exact h2), fun _ e => q a H (Same.refl H) (by rw [e, List.append_nil]; exact h1), fun _ _ p hp => q p _ (fun b x e => by rw [upd_ne (ne_of_none e hp)]; exact e) upd_same⟩
theorem cutV_to {xs : List V} {n : Nat} : cutV xs none (some (n : Int)) = xs.take n := by
  show ((xs.drop 0).take (HT.sIx xs.length xs.length (some (n : Int)) - 0)) = _
  rw [HT.sIx_nat, List.drop_zero, Nat.sub_zero, List.take_eq_take_iff]
  omega
theorem cutV_from {xs : List V} {n : Nat} : cutV xs (some (n : Int)) none = xs.drop n := by
  show ((xs.drop (HT.sIx xs.length 0 (some (n : Int)))).take (xs.length - HT.sIx xs.length 0 (some (n : Int)))) = _
  rw [HT.sIx_nat]
  by_cases h : n ≤ xs.length
  · rw [Nat.min_eq_left h, List.take_of_length_le (by rw [List.length_drop]; exact Nat.le_refl _)]
  · rw [List.drop_eq_nil_of_le (by omega : xs.length ≤ n), List.drop_eq_nil_of_le (by omega), List.take_nil]

/-- an own class that is none of the built-in ones that are asked for -/
def OwnTy (K : PySem.W.Frag) (C : Addr) : Prop := ∀ n ∈ ["int", "bool", "str", "list", "tuple", "dict"], PySem.W.kitOne K (.ref C) (.type n) = some false
theorem kit_T {K : PySem.W.Frag} {C : Addr} {n : String} {b : Bool} (m : PySem.W.kitMeta n = true) (e : PySem.W.subIn K (.ref C) (.type n) = some b) : PySem.W.kitOne K (.ref C) (.type n) = some b := by
  unfold PySem.W.kitOne PySem.W.kitCls
  rw [if_neg (by simp)]
  show (if PySem.W.kitMeta n = true then PySem.W.subIn K (.ref C) (.type n) else none) = some b
  rw [if_pos m]
  exact e
theorem own_of {K : PySem.W.Frag} {C : Addr} (h1 : PySem.W.subIn K (.ref C) (.type "int") = some false) (h2 : PySem.W.subIn K (.ref C) (.type "bool") = some false) (h3 : PySem.W.subIn K (.ref C) (.type "str") = some false)
    (h4 : PySem.W.subIn K (.ref C) (.type "list") = some false) (h5 : PySem.W.subIn K (.ref C) (.type "tuple") = some false) (h6 : PySem.W.subIn K (.ref C) (.type "dict") = some false) : OwnTy K C := fun n hn => by
  simp only [List.mem_cons, List.not_mem_nil, or_false] at hn
  rcases hn with rfl | rfl | rfl | rfl | rfl | rfl
  · exact kit_T (by decide +kernel) h1
  · exact kit_T (by decide +kernel) h2
  · exact kit_T (by decide +kernel) h3
  · exact kit_T (by decide +kernel) h4
  · exact kit_T (by decide +kernel) h5
  · exact kit_T (by decide +kernel) h6
/-- a thing: a text, not long; a number, a truth, None; a list, a tuple, a dict; an own instance -/
def ThingAt (K : PySem.W.Frag) (H : Hp) : V → Prop
  | .str z => z.length ≤ 2000
  | .int _ => True
  | .bl _ => True
  | .non => True
  | .ref a => (∃ t, TyOf K H (.ref a) (.type t) ∧ (t = "list" ∨ t = "tuple" ∨ t = "dict")) ∨ ∃ C, TyOf K H (.ref a) (.ref C) ∧ OwnTy K C
  | _ => False
theorem tyof_keep {K : PySem.W.Frag} {H H' : Hp} {v : V} {t : Value} (b : TyOf K H v t) (e : Same H H') : TyOf K H' v t := by
  cases b with
  | non => exact .non
  | bl x => exact .bl x
  | int i => exact .int i
  | str x => exact .str x
  | flt x => exact .flt x
  | lst h => exact .lst (e _ _ h)
  | frz h => exact .frz (e _ _ h)
  | tup h => exact .tup (e _ _ h)
  | dK h => exact .dK (e _ _ h)
  | dT h => exact .dT (e _ _ h)
  | ins h a b c d m => exact .ins (e _ _ h) a b c d m
theorem ThingAt.keep {K : PySem.W.Frag} {H H' : Hp} {v : V} (h : ThingAt K H v) (e : Same H H') : ThingAt K H' v := by
  cases v with
  | ref a =>
    rcases h with ⟨t, h1, h2⟩ | ⟨C, h1, h2⟩
    · exact .inl ⟨t, tyof_keep h1 e, h2⟩
    · exact .inr ⟨C, tyof_keep h1 e, h2⟩
  | _ => exact h
def isIB : V → Bool
  | .int _ => true
  | .bl _ => true
  | _ => false
def isBl : V → Bool
  | .bl _ => true
  | _ => false
def isStr : V → Bool
  | .str _ => true
  | _ => false
def wholeV : V → Bool
  | .int _ => true
  | _ => false
def withinV (v : V) (lo hi : Int) : Bool := match v with
  | .int i => decide (lo ≤ i) && decide (i ≤ hi)
  | _ => false
theorem thing_ty {K : PySem.W.Frag} {H : Hp} {v : V} (h : ThingAt K H v) : ∃ t, TyX K H v t ∧ PySem.W.kitOne K t (.type "int") = some (isIB v) ∧ PySem.W.kitOne K t (.type "bool") = some (isBl v) ∧ PySem.W.kitOne K t (.type "str") = some (isStr v) := by
  cases v with
  | non => exact ⟨_, .base .non, kit_ty (by decide +kernel), kit_ty (by decide +kernel), kit_ty (by decide +kernel)⟩
  | bl b => exact ⟨_, .base (.bl b), kit_ty (by show kitB "bool" "int" = some true; decide +kernel), kit_ty (by show kitB "bool" "bool" = some true; decide +kernel), kit_ty (by show kitB "bool" "str" = some false; decide +kernel)⟩
  | int i => exact ⟨_, .base (.int i), kit_ty (by show kitB "int" "int" = some true; decide +kernel), kit_ty (by show kitB "int" "bool" = some false; decide +kernel), kit_ty (by show kitB "int" "str" = some false; decide +kernel)⟩
  | str z => exact ⟨_, .base (.str z), kit_ty (by show kitB "str" "int" = some false; decide +kernel), kit_ty (by show kitB "str" "bool" = some false; decide +kernel), kit_ty (by show kitB "str" "str" = some true; decide +kernel)⟩
  | ref a =>
    rcases h with ⟨t, h1, h2⟩ | ⟨C, h1, h2⟩
    · refine ⟨.type t, .base h1, kit_ty ?_, kit_ty ?_, kit_ty ?_⟩
      · show kitB t "int" = some false
        rcases h2 with rfl | rfl | rfl <;> decide +kernel
      · show kitB t "bool" = some false
        rcases h2 with rfl | rfl | rfl <;> decide +kernel
      · show kitB t "str" = some false
        rcases h2 with rfl | rfl | rfl <;> decide +kernel
    · exact ⟨.ref C, .base h1, h2 _ (by decide), h2 _ (by decide), h2 _ (by decide)⟩
  | byt _ => exact h.elim
  | flt _ => exact h.elim
  | ty _ => exact h.elim
theorem rd_isiV {K : PySem.W.Frag} {H : Hp} {Q : VK} {v : V} {t : Value} {n : String} {b : Bool} (ty : TyX K H v t) (k : PySem.W.kitOne K t (.type n) = some b) (q : Q (.bl b) H) : rIsi K [v, .ty n] H Q := ⟨v, .ty n, _, _, b, rfl, ClsV.ty n, ty, k, q⟩
/-- is it a list or a tuple -/
def isSeq (K : PySem.W.Frag) (H : Hp) (v : V) (b : Bool) : Prop := ∃ t, TyOf K H v t ∧ PySem.W.kitAny K t [.type "list", .type "tuple"] = some b
theorem kitAny2 {K : PySem.W.Frag} {t c d : Value} {x y : Bool} (h1 : PySem.W.kitOne K t c = some x) (h2 : PySem.W.kitOne K t d = some y) : PySem.W.kitAny K t [c, d] = some (x || y) := by
  refine kitAny_cons h1 (fun e => ?_) (fun e => by rw [e]; rfl)
  refine kitAny_cons h2 (fun e2 => ?_) (fun e2 => by rw [e, e2]; rfl)
  rw [e, e2]
  rfl
theorem thing_seq {K : PySem.W.Frag} {H : Hp} {v : V} (h : ThingAt K H v) (n : ∀ a, v = .ref a → (∀ xs, H a ≠ some (.lst xs)) ∧ (∀ o xs, H a ≠ some (.frz o (.lst xs))) ∧ ∀ xs, H a ≠ some (.tup xs)) : isSeq K H v false := by
  cases v with
  | non => exact ⟨.type "NoneType", .non, kitAny2 (x := false) (y := false) (kit_ty (by decide +kernel)) (kit_ty (by decide +kernel))⟩
  | bl b => exact ⟨_, .bl b, kitAny2 (x := false) (y := false) (kit_ty (by show kitB "bool" "list" = some false; decide +kernel)) (kit_ty (by show kitB "bool" "tuple" = some false; decide +kernel))⟩
  | int i => exact ⟨_, .int i, kitAny2 (x := false) (y := false) (kit_ty (by show kitB "int" "list" = some false; decide +kernel)) (kit_ty (by show kitB "int" "tuple" = some false; decide +kernel))⟩
  | str z => exact ⟨_, .str z, kitAny2 (x := false) (y := false) (kit_ty (by show kitB "str" "list" = some false; decide +kernel)) (kit_ty (by show kitB "str" "tuple" = some false; decide +kernel))⟩
  | ref a =>
    rcases h with ⟨t, h1, h2⟩ | ⟨C, h1, h2⟩
    · obtain ⟨n1, n2, n3⟩ := n a rfl
      have e : t = "dict" := by
        clear h2
        generalize hv : V.ref a = w at h1
        generalize ht : Value.type t = u at h1
        cases h1 with
        | lst e => cases hv; exact absurd e (n1 _)
        | frz e => cases hv; exact absurd e (n2 _ _)
        | tup e => cases hv; exact absurd e (n3 _)
        | dK e => exact Value.type.inj ht
        | dT e => exact Value.type.inj ht
        | _ => first | (cases ht; done) | (cases hv; done)
      subst e
      exact ⟨_, h1, kitAny2 (x := false) (y := false) (kit_ty (by decide +kernel)) (kit_ty (by decide +kernel))⟩
    · exact ⟨_, h1, kitAny2 (x := false) (y := false) (h2 _ (by decide)) (h2 _ (by decide))⟩
  | byt _ => exact h.elim
  | flt _ => exact h.elim
  | ty _ => exact h.elim
theorem lst_seq {K : PySem.W.Frag} {H : Hp} {a : Addr} {xs : List V} (h : H a = some (.lst xs)) : isSeq K H (.ref a) true := ⟨_, .lst h, kitAny2 (x := true) (y := false) (kit_ty (by decide +kernel)) (kit_ty (by decide +kernel))⟩
theorem tup_seq {K : PySem.W.Frag} {H : Hp} {a : Addr} {xs : List V} (h : H a = some (.tup xs)) : isSeq K H (.ref a) true := ⟨_, .tup h, kitAny2 (x := false) (y := true) (kit_ty (by decide +kernel)) (kit_ty (by decide +kernel))⟩
theorem dct_seq {K : PySem.W.Frag} {H : Hp} {a : Addr} {kvs : List (Key × V)} (h : H a = some (.dK kvs)) : isSeq K H (.ref a) false := ⟨_, .dK h, kitAny2 (x := false) (y := false) (kit_ty (by decide +kernel)) (kit_ty (by decide +kernel))⟩
/-- isinstance(x, (list, tuple)) -/
theorem rd_isiLT {K : PySem.W.Frag} {H : Hp} {Q : VK} {v : V} {b : Bool} {tp : Addr} (h : isSeq K H v b) (ht : H tp = some (.tup [.ty "list", .ty "tuple"])) (q : Q (.bl b) H) : rIsiT K [v, .ref tp] H Q := by
  obtain ⟨t, ty, k⟩ := h
  exact ⟨v, tp, _, t, [.type "list", .type "tuple"], b, rfl, ht, .cons (.ty _) (.cons (.ty _) .nil), .base ty, k, q⟩
theorem isSeq.keep {K : PySem.W.Frag} {H H' : Hp} {v : V} {b : Bool} (h : isSeq K H v b) (s : Same H H') : isSeq K H' v b := by
  obtain ⟨t, ty, k⟩ := h
  exact ⟨t, tyof_keep ty s, k⟩
def isLet (c : Nat) : Bool := decide (97 ≤ c ∧ c ≤ 122)
def nameS (z : Str) : Bool := decide (1 ≤ z.length ∧ z.length ≤ 8) && z.cps.toList.all isLet
def nameV : V → Bool
  | .str z => nameS z
  | _ => false
theorem lets_list : (Str.ofString "abcdefghijklmnopqrstuvwxyz").cps.toList = (List.range 26).map (97 + ·) := by decide +kernel
theorem isLet_in (c : Nat) : decide (c ∈ (Str.ofString "abcdefghijklmnopqrstuvwxyz").cps.toList) = isLet c := by
  rw [lets_list]
  unfold isLet
  congr 1
  rw [eq_iff_iff, List.mem_map]
  constructor
  · rintro ⟨a, ha, rfl⟩
    have := List.mem_range.mp ha
    omega
  · intro h
    exact ⟨c - 97, List.mem_range.mpr (by omega), by omega⟩
def sg (c : Nat) : Str := ⟨#[c]⟩
theorem joinL_one (cs : List Nat) : TL.joinL [] (cs.map fun c => [c]) = cs := by
  induction cs with
  | nil => rfl
  | cons a r ih =>
    cases r with
    | nil => rfl
    | cons b r =>
      show [a] ++ ([] ++ TL.joinL [] ((b :: r).map fun c => [c])) = a :: b :: r
      rw [ih]
      rfl
theorem join_sg (cs : List Nat) : (Txt.join (Str.ofString "") (cs.map sg)).cps.toList = cs := by
  have h := TL.tl_join (Str.ofString "") (cs.map sg)
  have e : TL.tl (Str.ofString "") = [] := by decide +kernel
  rw [e, List.map_map] at h
  rw [TL.join_eq]
  exact h.trans (joinL_one cs)
theorem lett_len : (Str.ofString "abcdefghijklmnopqrstuvwxyz").length = 26 := by decide +kernel
theorem lett_at {k : Nat} (h : k < 26) : atI (Str.ofString "abcdefghijklmnopqrstuvwxyz").cps.toList (k : Int) = some (97 + k) := by
  refine atI_nat ?_
  rw [lets_list, List.getElem?_map, List.getElem?_range h]
  rfl
theorem cut_to {z : Str} {n : Nat} : (cutS z none (some (n : Int))).cps.toList = z.cps.toList.take n := by
  show ((z.cps.toList.drop 0).take (HT.sIx z.length z.length (some (n : Int)) - 0)) = _
  rw [HT.sIx_nat, List.drop_zero, Nat.sub_zero]
  have : z.length = z.cps.toList.length := by simp [Str.length]
  rw [this, List.take_eq_take_iff]
  omega
theorem cut_ft {z : Str} {m n : Nat} : (cutS z (some (m : Int)) (some (n : Int))).cps.toList = (z.cps.toList.take n).drop m := by
  show ((z.cps.toList.drop (HT.sIx z.length 0 (some (m : Int)))).take (HT.sIx z.length z.length (some (n : Int)) - HT.sIx z.length 0 (some (m : Int)))) = _
  have : z.length = z.cps.toList.length := by simp [Str.length]
  rw [HT.sIx_nat, HT.sIx_nat, this, List.drop_take]
  by_cases h : m ≤ z.cps.toList.length
  · rw [Nat.min_eq_left h, List.take_eq_take_iff, List.length_drop]
    omega
  · rw [List.drop_eq_nil_of_le (by omega), List.drop_eq_nil_of_le (by omega), List.take_nil, List.take_nil]
theorem len_list (z : Str) : z.length = z.cps.toList.length := by simp [Str.length]
theorem toList_app (a b : Str) : (a ++ b).cps.toList = a.cps.toList ++ b.cps.toList := by
  show (a.cps ++ b.cps).toList = _
  rw [Array.toList_append]
theorem name_of {z : Str} (h1 : 1 ≤ z.cps.toList.length) (h8 : z.cps.toList.length ≤ 8) (h : ∀ c ∈ z.cps.toList, isLet c = true) : nameS z = true := by
  unfold nameS
  rw [len_list, decide_eq_true ⟨h1, h8⟩, Bool.true_and]
  exact List.all_eq_true.mpr h
theorem isLet_at (k : Nat) (h : k < 26) : isLet (97 + k) = true := decide_eq_true (by omega)
theorem nodup_map {f : Nat → Str} {m : Nat} (h : ∀ i j, i < m → j < m → i ≠ j → f i ≠ f j) : ((List.range m).map f).Nodup := by
  unfold List.Nodup
  rw [List.pairwise_map]
  exact List.Pairwise.imp_of_mem (fun {a b} ha hb hab => h a b (List.mem_range.mp ha) (List.mem_range.mp hb) hab) List.nodup_range
/-- a comprehension over 0 .. n - 1, its element a function of the number -/
theorem lcgo_rng {σ : L2.St} {Q : VK} {te : TE} {vs : List Nat} {k : Nat} {f : Nat → V} {n : Nat} {H : Hp} (hz : n ≤ 100000) (hw : ∀ x, wipe ((wipe σ vs).set k (some x)) vs = wipe σ vs)
    (he : ∀ (i : Nat) (H' : Hp) (Q' : VK), i < n → Q' (f i) H' → te ((wipe σ vs).set k (some (.int i))) H' Q')
    (hq : ∀ D, H D = none → Q (.ref D) (upd H D (.lst ((List.range n).map f)))) : LcGo (Itr 0 n) (gName k) tYes (tFrm te) vs σ H Q := by
  refine lcgoF walk_range hz (fun i x => x = .int (i : Nat)) (fun i H x H' _ _ y => ⟨y.1, y.2.trans (congrArg V.int (Int.zero_add _))⟩) hw (fun i acc H' => H' = H ∧ acc = (List.range i).map f) ⟨rfl, rfl⟩ (fun _ _ _ _ _ _ _ => trivial) ?_ ?_
  · rintro i x acc H' Qc hin hla ⟨rfl, ha⟩ rfl hq'
    refine he i _ _ hin (hq' _ _ ⟨rfl, ?_⟩)
    rw [List.range_succ, List.map_append, ← ha]
    rfl
  · rintro acc H' D hla ⟨rfl, ha⟩ hD
    subst ha
    exact hq D hD
/-- a channel's numbers and names -/
structure Ch where
  name : Str
  one : Str
  other : Str
  hours : Int
  depth : Int
  first : Int
  growth : Int
  most : Int
def chOk (c : Ch) : Prop := 0 ≤ c.first ∧ c.first ≤ 1000000 ∧ 1 ≤ c.hours ∧ c.hours ≤ 1000 ∧ 0 ≤ c.depth ∧ c.depth ≤ 1000 ∧ 0 ≤ c.growth ∧ c.growth ≤ 1000 ∧ c.first ≤ c.most ∧ c.most ≤ 1000000
def chV (c : Ch) : List V := [.str c.name, .str c.one, .str c.other, .int c.hours, .int c.depth, .int c.first, .int c.growth, .int c.most]
def chF (c : Ch) : List (Str × V) := [("name", .str c.name), ("one", .str c.one), ("other", .str c.other), ("hours", .int c.hours), ("depth", .int c.depth), ("first", .int c.first), ("growth", .int c.growth), ("most", .int c.most)]
theorem chl_name (c : Ch) : (chF c).lookup ("name" : Str) = some (.str c.name) := by kernel_rfl
theorem chl_one (c : Ch) : (chF c).lookup ("one" : Str) = some (.str c.one) := by kernel_rfl
theorem chl_other (c : Ch) : (chF c).lookup ("other" : Str) = some (.str c.other) := by kernel_rfl
theorem chl_hours (c : Ch) : (chF c).lookup ("hours" : Str) = some (.int c.hours) := by kernel_rfl
theorem chl_depth (c : Ch) : (chF c).lookup ("depth" : Str) = some (.int c.depth) := by kernel_rfl
theorem chl_first (c : Ch) : (chF c).lookup ("first" : Str) = some (.int c.first) := by kernel_rfl
theorem chl_growth (c : Ch) : (chF c).lookup ("growth" : Str) = some (.int c.growth) := by kernel_rfl
theorem chl_most (c : Ch) : (chF c).lookup ("most" : Str) = some (.int c.most) := by kernel_rfl
local macro_rules | `(tactic| walk_at "lk") => `(tactic| with_reducible first | exact My.chl_name _ | exact My.chl_one _ | exact My.chl_other _ | exact My.chl_hours _ | exact My.chl_depth _ | exact My.chl_first _ | exact My.chl_growth _ | exact My.chl_most _)
def putAll : List (Str × V) → List (Str × V) → List (Str × V)
  | [], fs => fs
  | (f, v) :: r, fs => putAll r (putF f v fs)
theorem ch_put (c : Ch) : putF "most" (.int c.most) (putF "growth" (.int c.growth) (putF "first" (.int c.first) (putF "depth" (.int c.depth) (putF "hours" (.int c.hours) (putF "other" (.str c.other) (putF "one" (.str c.one) (putF "name" (.str c.name) []))))))) = chF c := by kernel_rfl
theorem putF_len (f : Str) (v : V) : ∀ fs : List (Str × V), (putF f v fs).length ≤ fs.length + 1
  | [] => by simp [putF]
  | (g, x) :: r => by
    unfold putF
    split
    · simp
    · have := putF_len f v r
      simp only [List.length_cons]
      omega
/-- the first of a list that is not so -/
theorem find_step {α : Type} {f : α → Bool} {xs : List α} {i : Nat} {x : α} (h : (xs.take i).find? f = none) (hx : xs[i]? = some x) : (f x = false → (xs.take (i + 1)).find? f = none) ∧ (f x = true → xs.find? f = some x) := by
  have e : xs.take (i + 1) = xs.take i ++ [x] := by rw [List.take_add_one, hx]; rfl
  have e2 : (xs.take (i + 1)).find? f = [x].find? f := by rw [e, List.find?_append, h, Option.none_or]
  refine ⟨fun hf => ?_, fun hf => ?_⟩
  · rw [e2, List.find?_cons, hf]
    rfl
  · rw [← List.take_append_drop (i + 1) xs, List.find?_append, e2, List.find?_cons, hf]
    rfl
/-- the first refusal that is due of the eight things of a channel: which (0 NoName, 1 Doubled, 2 NoNumber), and of what -/
def intOf : V → Int
  | .int i => i
  | _ => 0
def badN (r : V × Int × Int) : Bool := !withinV r.1 r.2.1 r.2.2
def chanRef (nm one oth h d f g m : V) : Option (Nat × V) :=
  match [nm, one, oth].find? (fun v => !nameV v) with
  | some v => some (0, v)
  | none => if one = oth then some (1, one) else
    match [(h, 1, 1000), (d, 0, 1000), (f, 0, 1000000)].find? badN with
    | some r => some (2, r.1)
    | none => match [(g, 0, 1000), (m, intOf f, 1000000)].find? badN with
      | some r => some (2, r.1)
      | none => none
theorem KeepB.put {a : Addr} {H H' : Hp} {o : HO} (k : KeepB a H H') : KeepB a H (upd H' a o) := fun b x h n => by
  rw [upd_ne n]
  exact k b x h n
theorem name_str {v : V} (h : nameV v = true) : ∃ z : Str, v = .str z := by
  cases v with
  | str z => exact ⟨z, rfl⟩
  | _ => cases h
theorem in_int {v : V} {lo hi : Int} (h : badN (v, lo, hi) = false) : ∃ i : Int, v = .int i := by
  cases v with
  | int i => exact ⟨i, rfl⟩
  | _ => cases h
/-- a vessel (kind 0), a breaker (1), a ship (2) -/
structure Ve where
  kind : Nat
  name : Str
  port : Str
  goal : Str
  hour : Int
  strength : Int
  draught : Int
  cut : Int
def veB (v : Ve) : List (Str × V) := [("name", .str v.name), ("port", .str v.port), ("hour", .int v.hour), ("strength", .int v.strength), ("draught", .int v.draught)]
def veF (v : Ve) : List (Str × V) := match v.kind with
  | 0 => veB v
  | 1 => veB v ++ [(("cut" : Str), V.int v.cut)]
  | _ => veB v ++ [(("goal" : Str), V.str v.goal)]
/-- its row -/
def veV (v : Ve) : List V := match v.kind with
  | 0 => [.str v.name, .str v.port, .int v.hour, .int v.strength, .int v.draught]
  | 1 => [.str v.name, .str v.port, .int v.hour, .int v.strength, .int v.draught, .int v.cut]
  | _ => [.str v.name, .str v.port, .str v.goal, .int v.hour, .int v.strength, .int v.draught]
def veKind : Nat → Str
  | 0 => Str.ofString "vessel"
  | 1 => Str.ofString "breaker"
  | _ => Str.ofString "ship"
def veThins (v : Ve) : Int := if v.kind = 1 then v.cut else 0
/-- the first refusal that is due: (0 NoName | 2 NoNumber), of what -/
def veRef (nm po ho st dr : V) : Option (Nat × V) :=
  match [nm, po].find? (fun v => !nameV v) with
  | some v => some (0, v)
  | none => match [(ho, 0, 1000000), (st, 0, 1000000), (dr, 0, 1000)].find? badN with
    | some r => some (2, r.1)
    | none => none
def brRef (nm po ho st dr cu : V) : Option (Nat × V) := match veRef nm po ho st dr with
  | some r => some r
  | none => if badN (cu, 1, 1000000) = true then some (2, cu) else none
def shRef (nm po go ho st dr : V) : Option (Nat × V) := match [nm, po, go].find? (fun v => !nameV v) with
  | some v => some (0, v)
  | none => veRef nm po ho st dr
/-- a class whose instances may keep what a vessel is made of -/
def SetC (K : PySem.W.Frag) (C : Addr) : Prop := Cls K C ∧ NoAttr K C "name" ∧ NoAttr K C "port" ∧ NoAttr K C "hour" ∧ NoAttr K C "strength" ∧ NoAttr K C "draught"
def veBOn (v : Ve) (fs : List (Str × V)) : List (Str × V) := putF "draught" (.int v.draught) (putF "strength" (.int v.strength) (putF "hour" (.int v.hour) (putF "port" (.str v.port) (putF "name" (.str v.name) fs))))
theorem putF_le (f : Str) (v : V) : ∀ fs : List (Str × V), (putF f v fs).length ≤ fs.length + 1
  | [] => by simp [putF]
  | (g, x) :: r => by
    unfold putF
    split
    · simp
    · have := putF_le f v r
      simp only [List.length_cons]
      omega
def veOk (v : Ve) : Prop := v.kind < 3 ∧ 0 ≤ v.hour ∧ v.hour ≤ 1000000 ∧ 0 ≤ v.strength ∧ v.strength ≤ 1000000 ∧ 0 ≤ v.draught ∧ v.draught ≤ 1000 ∧ 1 ≤ v.cut ∧ v.cut ≤ 1000000
def veNames (v : Ve) : Prop := nameS v.name = true ∧ nameS v.port = true ∧ nameS v.goal = true
theorem veV_0 {v : Ve} (h : v.kind = 0) : veV v = [.str v.name, .str v.port, .int v.hour, .int v.strength, .int v.draught] := by unfold veV; rw [h]; rfl
theorem veV_1 {v : Ve} (h : v.kind = 1) : veV v = [.str v.name, .str v.port, .int v.hour, .int v.strength, .int v.draught, .int v.cut] := by unfold veV; rw [h]; rfl
theorem veV_2 {v : Ve} (h : v.kind = 2) : veV v = [.str v.name, .str v.port, .str v.goal, .int v.hour, .int v.strength, .int v.draught] := by unfold veV; rw [h]; rfl
theorem name_ok {z : Str} (h : nameS z = true) : PyData.strOk z = true := by
  unfold nameS at h
  have h2 := (Bool.and_eq_true_iff.mp h).2
  unfold PyData.strOk
  rw [← Array.all_toList, List.all_eq_true]
  intro c hc
  have h3 : decide (97 ≤ c ∧ c ≤ 122) = true := List.all_eq_true.mp h2 c hc
  have h4 := of_decide_eq_true h3
  exact decide_eq_true (by omega)
theorem name_len {z : Str} (h : nameS z = true) : 1 ≤ z.length ∧ z.length ≤ 8 := by
  unfold nameS at h
  exact of_decide_eq_true (Bool.and_eq_true_iff.mp h).1
theorem mem_map_str {v : V} {ys : List Str} (h : v ∈ ys.map V.str) : ∃ y, v = .str y ∧ y ∈ ys := by
  obtain ⟨y, hy, rfl⟩ := List.mem_map.mp h
  exact ⟨y, rfl, hy⟩
def thinL (vs : List Ve) : Int := (vs.map veThins).sum
def letsL : Int → List Ve → List Int
  | _, [] => []
  | t, v :: r => (v.strength + t) :: letsL (t + veThins v) r
theorem lets_len : ∀ {vs : List Ve} {t : Int}, (letsL t vs).length = vs.length
  | [], _ => rfl
  | _ :: r, _ => by rw [letsL, List.length_cons, List.length_cons, lets_len]
theorem lets_snoc : ∀ {vs : List Ve} {t : Int} {v : Ve}, letsL t (vs ++ [v]) = letsL t vs ++ [v.strength + (t + thinL vs)]
  | [], t, v => by simp [letsL, thinL]
  | u :: r, t, v => by
    show _ :: letsL (t + veThins u) (r ++ [v]) = _ :: (letsL (t + veThins u) r ++ _)
    rw [lets_snoc]
    congr 3
    unfold thinL
    rw [List.map_cons, List.sum_cons]
    omega
theorem thin_snoc {vs : List Ve} {v : Ve} : thinL (vs ++ [v]) = thinL vs + veThins v := by
  unfold thinL
  rw [List.map_append, List.sum_append]
  simp
def hdV : List Ve → Ve
  | [] => ⟨0, Str.ofString "", Str.ofString "", Str.ofString "", 0, 0, 0, 0⟩
  | v :: _ => v
def trF (l : Addr) (vs : List Ve) : List (Str × V) := [("crew", .ref l), ("thinned", .int (thinL vs)), ("name", .str (hdV vs).name), ("port", .str (hdV vs).port), ("hour", .int (maxL (vs.map (·.hour)))), ("strength", .int (minL (letsL 0 vs))), ("draught", .int (maxL (vs.map (·.draught))))]
theorem tr_put (l : Addr) (vs : List Ve) : veBOn ⟨0, (hdV vs).name, (hdV vs).port, (hdV vs).port, maxL (vs.map (·.hour)), minL (letsL 0 vs), maxL (vs.map (·.draught)), 0⟩ (putF "thinned" (.int (thinL vs)) (putF "crew" (.ref l) [])) = trF l vs := by kernel_rfl
theorem trl_crew (l : Addr) (vs : List Ve) : (trF l vs).lookup ("crew" : Str) = some (.ref l) := by kernel_rfl
theorem trl_thinned (l : Addr) (vs : List Ve) : (trF l vs).lookup ("thinned" : Str) = some (.int (thinL vs)) := by kernel_rfl
theorem trl_name (l : Addr) (vs : List Ve) : (trF l vs).lookup ("name" : Str) = some (.str (hdV vs).name) := by kernel_rfl
theorem trl_port (l : Addr) (vs : List Ve) : (trF l vs).lookup ("port" : Str) = some (.str (hdV vs).port) := by kernel_rfl
theorem trl_hour (l : Addr) (vs : List Ve) : (trF l vs).lookup ("hour" : Str) = some (.int (maxL (vs.map (·.hour)))) := by kernel_rfl
theorem trl_strength (l : Addr) (vs : List Ve) : (trF l vs).lookup ("strength" : Str) = some (.int (minL (letsL 0 vs))) := by kernel_rfl
theorem trl_draught (l : Addr) (vs : List Ve) : (trF l vs).lookup ("draught" : Str) = some (.int (maxL (vs.map (·.draught)))) := by kernel_rfl
theorem trn_kind (l : Addr) (vs : List Ve) : (trF l vs).lookup ("kind" : Str) = none := by kernel_rfl
theorem trn_thins (l : Addr) (vs : List Ve) : (trF l vs).lookup ("thins" : Str) = none := by kernel_rfl
theorem trn_lets (l : Addr) (vs : List Ve) : (trF l vs).lookup ("lets" : Str) = none := by kernel_rfl
theorem trn_row (l : Addr) (vs : List Ve) : (trF l vs).lookup ("row" : Str) = none := by kernel_rfl
theorem trn_names (l : Addr) (vs : List Ve) : (trF l vs).lookup ("names" : Str) = none := by kernel_rfl
local macro_rules | `(tactic| walk_at "lk") => `(tactic| with_reducible first | exact My.trl_crew _ _ | exact My.trl_thinned _ _ | exact My.trl_name _ _ | exact My.trl_port _ _ | exact My.trl_hour _ _ | exact My.trl_strength _ _ | exact My.trl_draught _ _)
local macro_rules | `(tactic| walk_at "nolk") => `(tactic| with_reducible first | exact My.trn_kind _ _ | exact My.trn_thins _ _ | exact My.trn_lets _ _ | exact My.trn_row _ _ | exact My.trn_names _ _)
def refsOf {α : Type} (ws : List (Addr × α)) : List V := ws.map fun w => .ref w.1
theorem refs_get {α : Type} {ws : List (Addr × α)} {i : Nat} {x : V} (h : (refsOf ws)[i]? = some x) : ∃ w, ws[i]? = some w ∧ x = .ref w.1 := by
  unfold refsOf at h
  rw [List.getElem?_map] at h
  obtain ⟨w, hw, rfl⟩ := Option.map_eq_some_iff.mp h
  exact ⟨w, hw, rfl⟩
theorem refs_len {α : Type} {ws : List (Addr × α)} : (refsOf ws).length = ws.length := by unfold refsOf; rw [List.length_map]
theorem take_map {α β : Type} {ws : List α} {i : Nat} {w : α} (f : α → β) (h : ws[i]? = some w) : (ws.take (i + 1)).map f = (ws.take i).map f ++ [f w] := by rw [List.take_add_one, h, List.map_append]; rfl
theorem refs_mem {α : Type} {ws : List (Addr × α)} {v : V} (h : v ∈ refsOf ws) : ∃ u ∈ ws, v = .ref u.1 := by
  unfold refsOf at h
  obtain ⟨u, hu, rfl⟩ := List.mem_map.mp h
  exact ⟨u, hu, rfl⟩
theorem refs_app {α : Type} {ws us : List (Addr × α)} : refsOf (ws ++ us) = refsOf ws ++ refsOf us := by
  unfold refsOf
  rw [List.map_append]
section
variable {K : PySem.W.Frag} {σ : L2.St} {H : Hp} {Q : VK}
/-- a comprehension over the addresses of things, its element a function of the thing -/
theorem lcQ {α : Type} {J : It} {G : Hp → Prop} {te : TE} {vs : List Nat} {k : Nat} {ws : List (Addr × α)} (w : Walk J (refsOf ws).length G (YAt (refsOf ws))) (hz : ws.length ≤ 100000) (hG : ∀ H', Same H H' → G H') (f : Addr × α → V)
    (hw : ∀ x, wipe ((wipe σ vs).set k (some x)) vs = wipe σ vs) (he : ∀ u ∈ ws, ∀ Q' : VK, Q' (f u) H → te ((wipe σ vs).set k (some (.ref u.1))) H Q') (hq : ∀ D, H D = none → Q (.ref D) (upd H D (.lst (ws.map f)))) : LcGo J (gName k) tYes (tFrm te) vs σ H Q := by
  refine lcgoF w (by rw [refs_len]; exact hz) (fun i x => (refsOf ws)[i]? = some x) (fun i H x H' _ _ y => y) hw (fun i acc H' => H' = H ∧ acc = (ws.take i).map f) ⟨rfl, rfl⟩ (fun i acc H' D _ p hD => by rw [p.1] at hD ⊢; exact hG _ (same_new hD)) ?_ ?_
  · rintro i x acc H' Qc hi hla ⟨rfl, rfl⟩ hx q'
    obtain ⟨u, hu, rfl⟩ := refs_get hx
    refine he u (List.mem_of_getElem? hu) _ (q' _ _ ⟨rfl, ?_⟩)
    rw [take_map f hu]
  · rintro acc H' D hla ⟨rfl, rfl⟩ hD
    rw [refs_len, List.take_length]
    exact hq D hD
/-- .. its element makes new things -/
theorem lcQn {α : Type} {J : It} {G : Hp → Prop} {te : TE} {vs : List Nat} {k : Nat} {ws : List (Addr × α)} (w : Walk J (refsOf ws).length G (YAt (refsOf ws))) (hz : ws.length ≤ 100000) (hG : ∀ H', Same H H' → G H') (P : List V → List (Addr × α) → Hp → Prop) (h0 : P [] [] H)
    (hw : ∀ x, wipe ((wipe σ vs).set k (some x)) vs = wipe σ vs) (he : ∀ i u acc H' (Q' : VK), ws[i]? = some u → Same H H' → P acc (ws.take i) H' → (∀ y H2, Same H' H2 → P (acc ++ [y]) (ws.take (i + 1)) H2 → Q' y H2) → te ((wipe σ vs).set k (some (.ref u.1))) H' Q')
    (hq : ∀ acc D H', Same H H' → H' D = none → acc.length = ws.length → P acc ws H' → Q (.ref D) (upd H' D (.lst acc))) : LcGo J (gName k) tYes (tFrm te) vs σ H Q := by
  refine lcgoF w (by rw [refs_len]; exact hz) (fun i x => (refsOf ws)[i]? = some x) (fun i H x H' _ _ y => y) hw (fun i acc H' => Same H H' ∧ P acc (ws.take i) H') ⟨Same.refl _, h0⟩ (fun i acc H' D _ p hD => hG _ (p.1.trans (same_new hD))) ?_ ?_
  · rintro i x acc H' Qc hi hla ⟨sH, p⟩ hx q'
    obtain ⟨u, hu, rfl⟩ := refs_get hx
    exact he i u acc H' Qc hu sH p fun y H2 s2 p2 => q' y H2 ⟨sH.trans s2, p2⟩
  · rintro acc H' D hla ⟨sH, p⟩ hD
    rw [refs_len] at hla
    rw [refs_len, List.take_length] at p
    exact hq acc D H' sH hD hla p
end
section
variable {K : PySem.W.Frag} {H : Hp} {Q : VK}
/-- xs[lo:hi], a list -/
theorem rd_slL {a : Addr} {xs : List V} {lo hi : Option Int} (h : SqL K H a xs) (q : ∀ p H', Nn H p → Same H H' → H' p = some (.lst (cutV xs lo hi)) → Q (.ref p) H') : rSlL K (.ref a) lo hi H Q :=
  ⟨a, xs, rfl, h, fun p hp => q p _ ⟨hp⟩ (fun b x e => by rw [upd_ne (ne_of_none e hp)]; exact e) upd_same⟩
theorem rd_listB {p : Addr} {ys : List V} (h : SqA K H p ys) (q : ∀ l H', Nn H l → Same H H' → H' l = some (.lst ys) → Q (.ref l) H') : rListOf K [.ref p] H Q := rd_listOf h fun l H' n => q l H' ⟨n⟩
theorem rd_tupB2 {p : Addr} {ys : List V} (h : SqL K H p ys) (q : ∀ l H', Nn H l → Same H H' → H' l = some (.tup ys) → Q (.ref l) H') : rTupOf K [.ref p] H Q := rd_tupOf h fun l H' n => q l H' ⟨n⟩
theorem cut_all {xs : List V} {n : Nat} (h : xs.length ≤ n) : cutV xs none (some (n : Int)) = xs := by rw [cutV_to, List.take_of_length_le h]
end

/-- ice of that thickness lets each vessel by its turn -/
def letB : Int → List Ve → Bool
  | _, [] => true
  | th, v :: r => if th > v.strength then false else letB (max 0 (th - veThins v)) r
theorem letB_iff : ∀ {vs : List Ve} {th t : Int}, (∀ v ∈ vs, 0 ≤ v.strength ∧ 0 ≤ veThins v) → (letB (max 0 (th - t)) vs = true ↔ ∀ n ∈ letsL t vs, th ≤ n)
  | [], _, _, _ => by simp [letB, letsL]
  | v :: r, th, t, h => by
    have h0 := h v List.mem_cons_self
    have ih := letB_iff (vs := r) (th := th) (t := t + veThins v) fun u hu => h u (List.mem_cons_of_mem _ hu)
    rw [letB, letsL]
    by_cases c : max 0 (th - t) > v.strength
    · rw [if_pos c]
      constructor
      · intro z
        cases z
      · intro z
        have := z _ List.mem_cons_self
        omega
    · rw [if_neg c, show max 0 (max 0 (th - t) - veThins v) = max 0 (th - (t + veThins v)) by omega, ih]
      constructor
      · intro z n hn
        rcases List.mem_cons.mp hn with rfl | hn
        · omega
        · exact z n hn
      · intro z n hn
        exact z n (List.mem_cons_of_mem _ hn)
theorem letB_min {vs : List Ve} (l : 0 < vs.length) (h : ∀ v ∈ vs, 0 ≤ v.strength ∧ 0 ≤ veThins v) : letB (minL (letsL 0 vs)) vs = true ∧ letB (minL (letsL 0 vs) + 1) vs = false := by
  obtain ⟨m1, m2⟩ := minL_mem (ns := letsL 0 vs) (by rw [lets_len]; exact l)
  have nn : 0 ≤ minL (letsL 0 vs) := by
    have z : ∀ (vs : List Ve) (t : Int), 0 ≤ t → (∀ v ∈ vs, 0 ≤ v.strength ∧ 0 ≤ veThins v) → ∀ n ∈ letsL t vs, 0 ≤ n := by
      intro vs
      induction vs with
      | nil => exact fun _ _ _ _ h => nomatch h
      | cons v r ih =>
        intro t ht h n hn
        have h0 := h v List.mem_cons_self
        rcases List.mem_cons.mp hn with rfl | hn
        · omega
        · exact ih _ (by omega) (fun u hu => h u (List.mem_cons_of_mem _ hu)) n hn
    exact z vs 0 (Int.le_refl _) h _ m1
  have e1 := letB_iff (vs := vs) (th := minL (letsL 0 vs)) (t := 0) h
  have e2 := letB_iff (vs := vs) (th := minL (letsL 0 vs) + 1) (t := 0) h
  rw [show max 0 (minL (letsL 0 vs) - 0) = minL (letsL 0 vs) by omega] at e1
  rw [show max 0 (minL (letsL 0 vs) + 1 - 0) = minL (letsL 0 vs) + 1 by omega] at e2
  refine ⟨e1.mpr m2, ?_⟩
  cases z : letB (minL (letsL 0 vs) + 1) vs with
  | false => rfl
  | true =>
    have := e2.mp z _ m1
    omega
def veOks (ws : List (Addr × Ve)) : Prop := ∀ w ∈ ws, veOk w.2 ∧ veNames w.2
theorem veOks.pos {ws : List (Addr × Ve)} (h : veOks ws) : ∀ v ∈ ws.map (·.2), 0 ≤ v.strength ∧ 0 ≤ veThins v := fun v hv => by
  obtain ⟨w, hw, rfl⟩ := List.mem_map.mp hv
  obtain ⟨⟨_, _, _, h1, _, _, _, h2, _⟩, _⟩ := h w hw
  refine ⟨h1, ?_⟩
  unfold veThins
  split <;> omega
/-! ### the text -/
def topS (i : Nat) : Stmt := PySem.Challenge.pw_iceopened_k10_trains.main.body.getD i (.Pass ⟨0, 0, 0, 0⟩)
abbrev s_wall : Stmt := (topS 0)
abbrev N_wall : List Str := ["k"]
theorem sc_wall : FnScope N_wall ["k"] (defScope s_wall) := ⟨rfl, rfl, rfl, by decide +kernel, rfl, by decide +kernel, by decide +kernel⟩
abbrev s_NoName___init__ : Stmt := (inClass (topS 3) 0)
abbrev N_NoName___init__ : List Str := ["self", "found"]
theorem sc_NoName___init__ : FnScope N_NoName___init__ ["self", "found"] (defScope s_NoName___init__) := ⟨rfl, rfl, rfl, by decide +kernel, rfl, by decide +kernel, by decide +kernel⟩
abbrev s_NoNumber___init__ : Stmt := (inClass (topS 4) 0)
abbrev N_NoNumber___init__ : List Str := ["self", "found"]
theorem sc_NoNumber___init__ : FnScope N_NoNumber___init__ ["self", "found"] (defScope s_NoNumber___init__) := ⟨rfl, rfl, rfl, by decide +kernel, rfl, by decide +kernel, by decide +kernel⟩
abbrev s_NoKind___init__ : Stmt := (inClass (topS 5) 0)
abbrev N_NoKind___init__ : List Str := ["self", "found"]
theorem sc_NoKind___init__ : FnScope N_NoKind___init__ ["self", "found"] (defScope s_NoKind___init__) := ⟨rfl, rfl, rfl, by decide +kernel, rfl, by decide +kernel, by decide +kernel⟩
abbrev s_Doubled___init__ : Stmt := (inClass (topS 6) 0)
abbrev N_Doubled___init__ : List Str := ["self", "name"]
theorem sc_Doubled___init__ : FnScope N_Doubled___init__ ["self", "name"] (defScope s_Doubled___init__) := ⟨rfl, rfl, rfl, by decide +kernel, rfl, by decide +kernel, by decide +kernel⟩
abbrev s_is_whole : Stmt := (topS 10)
abbrev N_is_whole : List Str := ["thing"]
theorem sc_is_whole : FnScope N_is_whole ["thing"] (defScope s_is_whole) := ⟨rfl, rfl, rfl, by decide +kernel, rfl, by decide +kernel, by decide +kernel⟩
abbrev s_is_within : Stmt := (topS 11)
abbrev N_is_within : List Str := ["thing", "low", "high"]
theorem sc_is_within : FnScope N_is_within ["thing", "low", "high"] (defScope s_is_within) := ⟨rfl, rfl, rfl, by decide +kernel, rfl, by decide +kernel, by decide +kernel⟩
abbrev s_is_name : Stmt := (topS 12)
abbrev N_is_name : List Str := ["thing", "sign"]
theorem sc_is_name : FnScope N_is_name ["thing"] (defScope s_is_name) := ⟨rfl, rfl, rfl, by decide +kernel, rfl, by decide +kernel, by decide +kernel⟩
abbrev s_need_names : Stmt := (topS 20)
abbrev N_need_names : List Str := ["things", "thing"]
theorem sc_need_names : FnScope N_need_names ["things"] (defScope s_need_names) := ⟨rfl, rfl, rfl, by decide +kernel, rfl, by decide +kernel, by decide +kernel⟩
abbrev s_need_numbers : Stmt := (topS 21)
abbrev N_need_numbers : List Str := ["rows", "thing", "low", "high"]
theorem sc_need_numbers : FnScope N_need_numbers ["rows"] (defScope s_need_numbers) := ⟨rfl, rfl, rfl, by decide +kernel, rfl, by decide +kernel, by decide +kernel⟩
abbrev s_Channel___init__ : Stmt := (inClass (topS 22) 0)
abbrev N_Channel___init__ : List Str := ["self", "name", "one", "other", "hours", "depth", "first", "growth", "most"]
theorem sc_Channel___init__ : FnScope N_Channel___init__ ["self", "name", "one", "other", "hours", "depth", "first", "growth", "most"] (defScope s_Channel___init__) := ⟨rfl, rfl, rfl, by decide +kernel, rfl, by decide +kernel, by decide +kernel⟩
abbrev s_Channel_row : Stmt := (inClass (topS 22) 3)
abbrev N_Channel_row : List Str := ["self"]
theorem sc_Channel_row : FnScope N_Channel_row ["self"] (defScope s_Channel_row) := ⟨rfl, rfl, rfl, by decide +kernel, rfl, by decide +kernel, by decide +kernel⟩
abbrev s_Vessel___init__ : Stmt := (inClass (topS 23) 0)
abbrev N_Vessel___init__ : List Str := ["self", "name", "port", "hour", "strength", "draught"]
theorem sc_Vessel___init__ : FnScope N_Vessel___init__ ["self", "name", "port", "hour", "strength", "draught"] (defScope s_Vessel___init__) := ⟨rfl, rfl, rfl, by decide +kernel, rfl, by decide +kernel, by decide +kernel⟩
abbrev s_Vessel_settle : Stmt := (inClass (topS 23) 1)
abbrev N_Vessel_settle : List Str := ["self", "name", "port", "hour", "strength", "draught"]
theorem sc_Vessel_settle : FnScope N_Vessel_settle ["self", "name", "port", "hour", "strength", "draught"] (defScope s_Vessel_settle) := ⟨rfl, rfl, rfl, by decide +kernel, rfl, by decide +kernel, by decide +kernel⟩
abbrev s_Vessel_kind : Stmt := (inClass (topS 23) 2)
abbrev N_Vessel_kind : List Str := ["self"]
theorem sc_Vessel_kind : FnScope N_Vessel_kind ["self"] (defScope s_Vessel_kind) := ⟨rfl, rfl, rfl, by decide +kernel, rfl, by decide +kernel, by decide +kernel⟩
abbrev s_Vessel_thins : Stmt := (inClass (topS 23) 3)
abbrev N_Vessel_thins : List Str := ["self"]
theorem sc_Vessel_thins : FnScope N_Vessel_thins ["self"] (defScope s_Vessel_thins) := ⟨rfl, rfl, rfl, by decide +kernel, rfl, by decide +kernel, by decide +kernel⟩
abbrev s_Vessel_lets : Stmt := (inClass (topS 23) 4)
abbrev N_Vessel_lets : List Str := ["self", "channel"]
theorem sc_Vessel_lets : FnScope N_Vessel_lets ["self", "channel"] (defScope s_Vessel_lets) := ⟨rfl, rfl, rfl, by decide +kernel, rfl, by decide +kernel, by decide +kernel⟩
abbrev s_Vessel_row : Stmt := (inClass (topS 23) 5)
abbrev N_Vessel_row : List Str := ["self"]
theorem sc_Vessel_row : FnScope N_Vessel_row ["self"] (defScope s_Vessel_row) := ⟨rfl, rfl, rfl, by decide +kernel, rfl, by decide +kernel, by decide +kernel⟩
abbrev s_Breaker___init__ : Stmt := (inClass (topS 24) 0)
abbrev N_Breaker___init__ : List Str := ["self", "name", "port", "hour", "strength", "draught", "cut"]
theorem sc_Breaker___init__ : FnScope N_Breaker___init__ ["self", "name", "port", "hour", "strength", "draught", "cut"] (defScope s_Breaker___init__) := ⟨rfl, rfl, rfl, by decide +kernel, rfl, by decide +kernel, by decide +kernel⟩
abbrev s_Breaker_kind : Stmt := (inClass (topS 24) 1)
abbrev N_Breaker_kind : List Str := ["self"]
theorem sc_Breaker_kind : FnScope N_Breaker_kind ["self"] (defScope s_Breaker_kind) := ⟨rfl, rfl, rfl, by decide +kernel, rfl, by decide +kernel, by decide +kernel⟩
abbrev s_Breaker_thins : Stmt := (inClass (topS 24) 2)
abbrev N_Breaker_thins : List Str := ["self"]
theorem sc_Breaker_thins : FnScope N_Breaker_thins ["self"] (defScope s_Breaker_thins) := ⟨rfl, rfl, rfl, by decide +kernel, rfl, by decide +kernel, by decide +kernel⟩
abbrev s_Breaker_row : Stmt := (inClass (topS 24) 3)
abbrev N_Breaker_row : List Str := ["self"]
theorem sc_Breaker_row : FnScope N_Breaker_row ["self"] (defScope s_Breaker_row) := ⟨rfl, rfl, rfl, by decide +kernel, rfl, by decide +kernel, by decide +kernel⟩
abbrev s_Ship___init__ : Stmt := (inClass (topS 25) 0)
abbrev N_Ship___init__ : List Str := ["self", "name", "port", "goal", "hour", "strength", "draught"]
theorem sc_Ship___init__ : FnScope N_Ship___init__ ["self", "name", "port", "goal", "hour", "strength", "draught"] (defScope s_Ship___init__) := ⟨rfl, rfl, rfl, by decide +kernel, rfl, by decide +kernel, by decide +kernel⟩
abbrev s_Ship_kind : Stmt := (inClass (topS 25) 1)
abbrev N_Ship_kind : List Str := ["self"]
theorem sc_Ship_kind : FnScope N_Ship_kind ["self"] (defScope s_Ship_kind) := ⟨rfl, rfl, rfl, by decide +kernel, rfl, by decide +kernel, by decide +kernel⟩
abbrev s_Ship_row : Stmt := (inClass (topS 25) 2)
abbrev N_Ship_row : List Str := ["self"]
theorem sc_Ship_row : FnScope N_Ship_row ["self"] (defScope s_Ship_row) := ⟨rfl, rfl, rfl, by decide +kernel, rfl, by decide +kernel, by decide +kernel⟩
abbrev s_Train___init__ : Stmt := (inClass (topS 26) 0)
abbrev N_Train___init__ : List Str := ["self", "vessels", "vessel", "thinned", "lets", "hour", "draught"]
theorem sc_Train___init__ : FnScope N_Train___init__ ["self", "vessels"] (defScope s_Train___init__) := ⟨rfl, rfl, rfl, by decide +kernel, rfl, by decide +kernel, by decide +kernel⟩
abbrev s_Train_kind : Stmt := (inClass (topS 26) 1)
abbrev N_Train_kind : List Str := ["self"]
theorem sc_Train_kind : FnScope N_Train_kind ["self"] (defScope s_Train_kind) := ⟨rfl, rfl, rfl, by decide +kernel, rfl, by decide +kernel, by decide +kernel⟩
abbrev s_Train_thins : Stmt := (inClass (topS 26) 2)
abbrev N_Train_thins : List Str := ["self"]
theorem sc_Train_thins : FnScope N_Train_thins ["self"] (defScope s_Train_thins) := ⟨rfl, rfl, rfl, by decide +kernel, rfl, by decide +kernel, by decide +kernel⟩
abbrev s_Train_names : Stmt := (inClass (topS 26) 3)
abbrev N_Train_names : List Str := ["self", "vessel"]
theorem sc_Train_names : FnScope N_Train_names ["self"] (defScope s_Train_names) := ⟨rfl, rfl, rfl, by decide +kernel, rfl, by decide +kernel, by decide +kernel⟩
abbrev s_Train_row : Stmt := (inClass (topS 26) 4)
abbrev N_Train_row : List Str := ["self", "vessel"]
theorem sc_Train_row : FnScope N_Train_row ["self"] (defScope s_Train_row) := ⟨rfl, rfl, rfl, by decide +kernel, rfl, by decide +kernel, by decide +kernel⟩
abbrev s_law_cell : Stmt := (topS 28)
abbrev N_law_cell : List Str := ["_law_script", "_law_k"]
theorem sc_law_cell : FnScope N_law_cell ["_law_script", "_law_k"] (defScope s_law_cell) := ⟨rfl, rfl, rfl, by decide +kernel, rfl, by decide +kernel, by decide +kernel⟩
abbrev s_law_box : Stmt := (topS 29)
abbrev N_law_box : List Str := ["_law_cell_here"]
theorem sc_law_box : FnScope N_law_box ["_law_cell_here"] (defScope s_law_box) := ⟨rfl, rfl, rfl, by decide +kernel, rfl, by decide +kernel, by decide +kernel⟩
abbrev s_law_take : Stmt := (topS 30)
abbrev N_law_take : List Str := ["_law_box_here", "_law_many", "_law_digit", "_law_one", "_law_other"]
theorem sc_law_take : FnScope N_law_take ["_law_box_here", "_law_many"] (defScope s_law_take) := ⟨rfl, rfl, rfl, by decide +kernel, rfl, by decide +kernel, by decide +kernel⟩
abbrev s_law_names : Stmt := (topS 31)
abbrev N_law_names : List Str := ["_law_box_here", "_law_many", "_law_letters", "_law_way", "_law_first", "_law_step", "_law_at", "_law_size", "_law_stem", "_law_k"]
theorem sc_law_names : FnScope N_law_names ["_law_box_here", "_law_many"] (defScope s_law_names) := ⟨rfl, rfl, rfl, by decide +kernel, rfl, by decide +kernel, by decide +kernel⟩
abbrev s_law_number : Stmt := (topS 32)
abbrev N_law_number : List Str := ["_law_box_here", "_law_low", "_law_high", "_law_way"]
theorem sc_law_number : FnScope N_law_number ["_law_box_here", "_law_low", "_law_high"] (defScope s_law_number) := ⟨rfl, rfl, rfl, by decide +kernel, rfl, by decide +kernel, by decide +kernel⟩
abbrev s_law_vessel_row : Stmt := (topS 33)
abbrev N_law_vessel_row : List Str := ["_law_box_here", "_law_kind", "_law_name", "_law_ports", "_law_names_here", "_law_numbers"]
theorem sc_law_vessel_row : FnScope N_law_vessel_row ["_law_box_here", "_law_kind", "_law_name", "_law_ports"] (defScope s_law_vessel_row) := ⟨rfl, rfl, rfl, by decide +kernel, rfl, by decide +kernel, by decide +kernel⟩
abbrev s_law_vessel : Stmt := (topS 34)
abbrev N_law_vessel : List Str := ["_law_kind", "_law_row"]
theorem sc_law_vessel : FnScope N_law_vessel ["_law_kind", "_law_row"] (defScope s_law_vessel) := ⟨rfl, rfl, rfl, by decide +kernel, rfl, by decide +kernel, by decide +kernel⟩
abbrev s_law_all_let : Stmt := (topS 35)
abbrev N_law_all_let : List Str := ["_law_vessels_here", "_law_thick", "_law_vessel_here"]
theorem sc_law_all_let : FnScope N_law_all_let ["_law_vessels_here", "_law_thick"] (defScope s_law_all_let) := ⟨rfl, rfl, rfl, by decide +kernel, rfl, by decide +kernel, by decide +kernel⟩
abbrev s_law_right : Stmt := (topS 36)
abbrev N_law_right : List Str := ["_law_train", "_law_vessels_here", "_law_hour", "_law_draught", "_law_thins", "_law_vessel_here", "_law_due", "_law_names_here", "_law_channel"]
theorem sc_law_right : FnScope N_law_right ["_law_train", "_law_vessels_here"] (defScope s_law_right) := ⟨rfl, rfl, rfl, by decide +kernel, rfl, by decide +kernel, by decide +kernel⟩
abbrev s_law_no_kind : Stmt := (topS 37)
abbrev N_law_no_kind : List Str := ["_law_thing", "e"]
theorem sc_law_no_kind : FnScope N_law_no_kind ["_law_thing"] (defScope s_law_no_kind) := ⟨rfl, rfl, rfl, by decide +kernel, rfl, by decide +kernel, by decide +kernel⟩
abbrev s_law_vessels : Stmt := (topS 38)
abbrev N_law_vessels : List Str := ["_law_box_here", "_law_vessels_here", "_law_names_here", "_law_many", "_law_k", "_law_kind"]
theorem sc_law_vessels : FnScope N_law_vessels ["_law_box_here"] (defScope s_law_vessels) := ⟨rfl, rfl, rfl, by decide +kernel, rfl, by decide +kernel, by decide +kernel⟩
abbrev s_law : Stmt := (topS 39)
abbrev N_law : List Str := ["_law_script", "_law_kept", "_law_k", "_law_box_here", "_law_listed", "_law_at", "_law_odd", "_law_vessels_here", "_law_handed", "_law_train", "_law_thing", "_law_some"]
theorem sc_law : FnScope N_law ["_law_script"] (defScope s_law) := ⟨rfl, rfl, rfl, by decide +kernel, rfl, by decide +kernel, by decide +kernel⟩
set_option genInjectivity false in
set_option genSizeOf false in
/-- what the top has written -/
structure Tx (K : PySem.W.Frag) (mg : Str → Option Value) where
  a_IceError : Addr
  g_IceError : mg "IceError" = some (.ref a_IceError)
  a_NoName : Addr
  g_NoName : mg "NoName" = some (.ref a_NoName)
  a_NoNumber : Addr
  g_NoNumber : mg "NoNumber" = some (.ref a_NoNumber)
  a_NoKind : Addr
  g_NoKind : mg "NoKind" = some (.ref a_NoKind)
  a_Doubled : Addr
  g_Doubled : mg "Doubled" = some (.ref a_Doubled)
  a_Channel : Addr
  g_Channel : mg "Channel" = some (.ref a_Channel)
  a_Vessel : Addr
  g_Vessel : mg "Vessel" = some (.ref a_Vessel)
  a_Breaker : Addr
  g_Breaker : mg "Breaker" = some (.ref a_Breaker)
  a_Ship : Addr
  g_Ship : mg "Ship" = some (.ref a_Ship)
  a_Train : Addr
  g_Train : mg "Train" = some (.ref a_Train)
  a_wall : Addr
  d_wall : FuncData
  F_wall : Fun K "_wall" "_wall" s_wall a_wall d_wall
  g_wall : mg "_wall" = some (.ref a_wall)
  b_wall : Binds K d_wall ["k"] []
  a_NoName___init__ : Addr
  d_NoName___init__ : FuncData
  F_NoName___init__ : Fun K "__init__" "NoName.__init__" s_NoName___init__ a_NoName___init__ d_NoName___init__
  b_NoName___init__ : Binds K d_NoName___init__ ["self", "found"] []
  a_NoNumber___init__ : Addr
  d_NoNumber___init__ : FuncData
  F_NoNumber___init__ : Fun K "__init__" "NoNumber.__init__" s_NoNumber___init__ a_NoNumber___init__ d_NoNumber___init__
  b_NoNumber___init__ : Binds K d_NoNumber___init__ ["self", "found"] []
  a_NoKind___init__ : Addr
  d_NoKind___init__ : FuncData
  F_NoKind___init__ : Fun K "__init__" "NoKind.__init__" s_NoKind___init__ a_NoKind___init__ d_NoKind___init__
  b_NoKind___init__ : Binds K d_NoKind___init__ ["self", "found"] []
  a_Doubled___init__ : Addr
  d_Doubled___init__ : FuncData
  F_Doubled___init__ : Fun K "__init__" "Doubled.__init__" s_Doubled___init__ a_Doubled___init__ d_Doubled___init__
  b_Doubled___init__ : Binds K d_Doubled___init__ ["self", "name"] []
  a_is_whole : Addr
  d_is_whole : FuncData
  F_is_whole : Fun K "is_whole" "is_whole" s_is_whole a_is_whole d_is_whole
  g_is_whole : mg "is_whole" = some (.ref a_is_whole)
  b_is_whole : Binds K d_is_whole ["thing"] []
  a_is_within : Addr
  d_is_within : FuncData
  F_is_within : Fun K "is_within" "is_within" s_is_within a_is_within d_is_within
  g_is_within : mg "is_within" = some (.ref a_is_within)
  b_is_within : Binds K d_is_within ["thing", "low", "high"] []
  a_is_name : Addr
  d_is_name : FuncData
  F_is_name : Fun K "is_name" "is_name" s_is_name a_is_name d_is_name
  g_is_name : mg "is_name" = some (.ref a_is_name)
  b_is_name : Binds K d_is_name ["thing"] []
  a_need_names : Addr
  d_need_names : FuncData
  F_need_names : Fun K "need_names" "need_names" s_need_names a_need_names d_need_names
  g_need_names : mg "need_names" = some (.ref a_need_names)
  b_need_names : Binds K d_need_names ["things"] []
  a_need_numbers : Addr
  d_need_numbers : FuncData
  F_need_numbers : Fun K "need_numbers" "need_numbers" s_need_numbers a_need_numbers d_need_numbers
  g_need_numbers : mg "need_numbers" = some (.ref a_need_numbers)
  b_need_numbers : Binds K d_need_numbers ["rows"] []
  a_Channel___init__ : Addr
  d_Channel___init__ : FuncData
  F_Channel___init__ : Fun K "__init__" "Channel.__init__" s_Channel___init__ a_Channel___init__ d_Channel___init__
  b_Channel___init__ : Binds K d_Channel___init__ ["self", "name", "one", "other", "hours", "depth", "first", "growth", "most"] []
  a_Channel_row : Addr
  d_Channel_row : FuncData
  F_Channel_row : Fun K "row" "Channel.row" s_Channel_row a_Channel_row d_Channel_row
  b_Channel_row : Binds K d_Channel_row ["self"] []
  a_Vessel___init__ : Addr
  d_Vessel___init__ : FuncData
  F_Vessel___init__ : Fun K "__init__" "Vessel.__init__" s_Vessel___init__ a_Vessel___init__ d_Vessel___init__
  b_Vessel___init__ : Binds K d_Vessel___init__ ["self", "name", "port", "hour", "strength", "draught"] []
  a_Vessel_settle : Addr
  d_Vessel_settle : FuncData
  F_Vessel_settle : Fun K "settle" "Vessel.settle" s_Vessel_settle a_Vessel_settle d_Vessel_settle
  b_Vessel_settle : Binds K d_Vessel_settle ["self", "name", "port", "hour", "strength", "draught"] []
  a_Vessel_kind : Addr
  d_Vessel_kind : FuncData
  F_Vessel_kind : Fun K "kind" "Vessel.kind" s_Vessel_kind a_Vessel_kind d_Vessel_kind
  b_Vessel_kind : Binds K d_Vessel_kind ["self"] []
  a_Vessel_thins : Addr
  d_Vessel_thins : FuncData
  F_Vessel_thins : Fun K "thins" "Vessel.thins" s_Vessel_thins a_Vessel_thins d_Vessel_thins
  b_Vessel_thins : Binds K d_Vessel_thins ["self"] []
  a_Vessel_lets : Addr
  d_Vessel_lets : FuncData
  F_Vessel_lets : Fun K "lets" "Vessel.lets" s_Vessel_lets a_Vessel_lets d_Vessel_lets
  b_Vessel_lets : Binds K d_Vessel_lets ["self", "channel"] []
  a_Vessel_row : Addr
  d_Vessel_row : FuncData
  F_Vessel_row : Fun K "row" "Vessel.row" s_Vessel_row a_Vessel_row d_Vessel_row
  b_Vessel_row : Binds K d_Vessel_row ["self"] []
  a_Breaker___init__ : Addr
  d_Breaker___init__ : FuncData
  F_Breaker___init__ : Fun K "__init__" "Breaker.__init__" s_Breaker___init__ a_Breaker___init__ d_Breaker___init__
  b_Breaker___init__ : Binds K d_Breaker___init__ ["self", "name", "port", "hour", "strength", "draught", "cut"] []
  a_Breaker_kind : Addr
  d_Breaker_kind : FuncData
  F_Breaker_kind : Fun K "kind" "Breaker.kind" s_Breaker_kind a_Breaker_kind d_Breaker_kind
  b_Breaker_kind : Binds K d_Breaker_kind ["self"] []
  a_Breaker_thins : Addr
  d_Breaker_thins : FuncData
  F_Breaker_thins : Fun K "thins" "Breaker.thins" s_Breaker_thins a_Breaker_thins d_Breaker_thins
  b_Breaker_thins : Binds K d_Breaker_thins ["self"] []
  a_Breaker_row : Addr
  d_Breaker_row : FuncData
  F_Breaker_row : Fun K "row" "Breaker.row" s_Breaker_row a_Breaker_row d_Breaker_row
  b_Breaker_row : Binds K d_Breaker_row ["self"] []
  a_Ship___init__ : Addr
  d_Ship___init__ : FuncData
  F_Ship___init__ : Fun K "__init__" "Ship.__init__" s_Ship___init__ a_Ship___init__ d_Ship___init__
  b_Ship___init__ : Binds K d_Ship___init__ ["self", "name", "port", "goal", "hour", "strength", "draught"] []
  a_Ship_kind : Addr
  d_Ship_kind : FuncData
  F_Ship_kind : Fun K "kind" "Ship.kind" s_Ship_kind a_Ship_kind d_Ship_kind
  b_Ship_kind : Binds K d_Ship_kind ["self"] []
  a_Ship_row : Addr
  d_Ship_row : FuncData
  F_Ship_row : Fun K "row" "Ship.row" s_Ship_row a_Ship_row d_Ship_row
  b_Ship_row : Binds K d_Ship_row ["self"] []
  a_Train___init__ : Addr
  d_Train___init__ : FuncData
  F_Train___init__ : Fun K "__init__" "Train.__init__" s_Train___init__ a_Train___init__ d_Train___init__
  b_Train___init__ : Binds K d_Train___init__ ["self", "vessels"] []
  a_Train_kind : Addr
  d_Train_kind : FuncData
  F_Train_kind : Fun K "kind" "Train.kind" s_Train_kind a_Train_kind d_Train_kind
  b_Train_kind : Binds K d_Train_kind ["self"] []
  a_Train_thins : Addr
  d_Train_thins : FuncData
  F_Train_thins : Fun K "thins" "Train.thins" s_Train_thins a_Train_thins d_Train_thins
  b_Train_thins : Binds K d_Train_thins ["self"] []
  a_Train_names : Addr
  d_Train_names : FuncData
  F_Train_names : Fun K "names" "Train.names" s_Train_names a_Train_names d_Train_names
  b_Train_names : Binds K d_Train_names ["self"] []
  a_Train_row : Addr
  d_Train_row : FuncData
  F_Train_row : Fun K "row" "Train.row" s_Train_row a_Train_row d_Train_row
  b_Train_row : Binds K d_Train_row ["self"] []
  a_law_cell : Addr
  d_law_cell : FuncData
  F_law_cell : Fun K "_law_cell" "_law_cell" s_law_cell a_law_cell d_law_cell
  g_law_cell : mg "_law_cell" = some (.ref a_law_cell)
  b_law_cell : Binds K d_law_cell ["_law_script", "_law_k"] []
  a_law_box : Addr
  d_law_box : FuncData
  F_law_box : Fun K "_law_box" "_law_box" s_law_box a_law_box d_law_box
  g_law_box : mg "_law_box" = some (.ref a_law_box)
  b_law_box : Binds K d_law_box ["_law_cell_here"] []
  a_law_take : Addr
  d_law_take : FuncData
  F_law_take : Fun K "_law_take" "_law_take" s_law_take a_law_take d_law_take
  g_law_take : mg "_law_take" = some (.ref a_law_take)
  b_law_take : Binds K d_law_take ["_law_box_here", "_law_many"] []
  a_law_names : Addr
  d_law_names : FuncData
  F_law_names : Fun K "_law_names" "_law_names" s_law_names a_law_names d_law_names
  g_law_names : mg "_law_names" = some (.ref a_law_names)
  b_law_names : Binds K d_law_names ["_law_box_here", "_law_many"] []
  a_law_number : Addr
  d_law_number : FuncData
  F_law_number : Fun K "_law_number" "_law_number" s_law_number a_law_number d_law_number
  g_law_number : mg "_law_number" = some (.ref a_law_number)
  b_law_number : Binds K d_law_number ["_law_box_here", "_law_low", "_law_high"] []
  a_law_vessel_row : Addr
  d_law_vessel_row : FuncData
  F_law_vessel_row : Fun K "_law_vessel_row" "_law_vessel_row" s_law_vessel_row a_law_vessel_row d_law_vessel_row
  g_law_vessel_row : mg "_law_vessel_row" = some (.ref a_law_vessel_row)
  b_law_vessel_row : Binds K d_law_vessel_row ["_law_box_here", "_law_kind", "_law_name", "_law_ports"] []
  a_law_vessel : Addr
  d_law_vessel : FuncData
  F_law_vessel : Fun K "_law_vessel" "_law_vessel" s_law_vessel a_law_vessel d_law_vessel
  g_law_vessel : mg "_law_vessel" = some (.ref a_law_vessel)
  b_law_vessel : Binds K d_law_vessel ["_law_kind", "_law_row"] []
  a_law_all_let : Addr
  d_law_all_let : FuncData
  F_law_all_let : Fun K "_law_all_let" "_law_all_let" s_law_all_let a_law_all_let d_law_all_let
  g_law_all_let : mg "_law_all_let" = some (.ref a_law_all_let)
  b_law_all_let : Binds K d_law_all_let ["_law_vessels_here", "_law_thick"] []
  a_law_right : Addr
  d_law_right : FuncData
  F_law_right : Fun K "_law_right" "_law_right" s_law_right a_law_right d_law_right
  g_law_right : mg "_law_right" = some (.ref a_law_right)
  b_law_right : Binds K d_law_right ["_law_train", "_law_vessels_here"] []
  a_law_no_kind : Addr
  d_law_no_kind : FuncData
  F_law_no_kind : Fun K "_law_no_kind" "_law_no_kind" s_law_no_kind a_law_no_kind d_law_no_kind
  g_law_no_kind : mg "_law_no_kind" = some (.ref a_law_no_kind)
  b_law_no_kind : Binds K d_law_no_kind ["_law_thing"] []
  a_law_vessels : Addr
  d_law_vessels : FuncData
  F_law_vessels : Fun K "_law_vessels" "_law_vessels" s_law_vessels a_law_vessels d_law_vessels
  g_law_vessels : mg "_law_vessels" = some (.ref a_law_vessels)
  b_law_vessels : Binds K d_law_vessels ["_law_box_here"] []
  a_law : Addr
  d_law : FuncData
  F_law : Fun K "law" "law" s_law a_law d_law
  g_law : mg "law" = some (.ref a_law)
  b_law : Binds K d_law ["_law_script"] []
  cl_Channel : Cls K a_Channel
  n_Channel_name : NoAttr K a_Channel "name"
  n_Channel_one : NoAttr K a_Channel "one"
  n_Channel_other : NoAttr K a_Channel "other"
  n_Channel_hours : NoAttr K a_Channel "hours"
  n_Channel_depth : NoAttr K a_Channel "depth"
  n_Channel_first : NoAttr K a_Channel "first"
  n_Channel_growth : NoAttr K a_Channel "growth"
  n_Channel_most : NoAttr K a_Channel "most"
  cl_Vessel : Cls K a_Vessel
  n_Vessel_name : NoAttr K a_Vessel "name"
  n_Vessel_port : NoAttr K a_Vessel "port"
  n_Vessel_hour : NoAttr K a_Vessel "hour"
  n_Vessel_strength : NoAttr K a_Vessel "strength"
  n_Vessel_draught : NoAttr K a_Vessel "draught"
  cl_Breaker : Cls K a_Breaker
  n_Breaker_name : NoAttr K a_Breaker "name"
  n_Breaker_port : NoAttr K a_Breaker "port"
  n_Breaker_hour : NoAttr K a_Breaker "hour"
  n_Breaker_strength : NoAttr K a_Breaker "strength"
  n_Breaker_draught : NoAttr K a_Breaker "draught"
  n_Breaker_cut : NoAttr K a_Breaker "cut"
  cl_Ship : Cls K a_Ship
  n_Ship_name : NoAttr K a_Ship "name"
  n_Ship_port : NoAttr K a_Ship "port"
  n_Ship_hour : NoAttr K a_Ship "hour"
  n_Ship_strength : NoAttr K a_Ship "strength"
  n_Ship_draught : NoAttr K a_Ship "draught"
  n_Ship_goal : NoAttr K a_Ship "goal"
  cl_Train : Cls K a_Train
  n_Train_name : NoAttr K a_Train "name"
  n_Train_port : NoAttr K a_Train "port"
  n_Train_hour : NoAttr K a_Train "hour"
  n_Train_strength : NoAttr K a_Train "strength"
  n_Train_draught : NoAttr K a_Train "draught"
  n_Train_crew : NoAttr K a_Train "crew"
  n_Train_thinned : NoAttr K a_Train "thinned"
  hn_class : PySem.W.specialIn K (.builtin "object.__class__") "__get__" = some (some (.builtin "getset_descriptor.__get__"))
  ht_class : PySem.W.takesIn K (.builtin "object.__class__") = some true
  ic_Channel : PySem.W.findIn K (.ref a_Channel) "__class__" = some (some (.builtin "object.__class__"))
  im_Channel : PySem.W.mroIn K a_Channel (.type "object") = some true
  eq_Channel : EqC K a_Channel
  ob_Channel : OwnTy K a_Channel
  ki_Channel_Breaker : PySem.W.kitOne K (.ref a_Channel) (.ref a_Breaker) = some false
  ki_Channel_Ship : PySem.W.kitOne K (.ref a_Channel) (.ref a_Ship) = some false
  ki_Channel_Train : PySem.W.kitOne K (.ref a_Channel) (.ref a_Train) = some false
  ki_Channel_Vessel : PySem.W.kitOne K (.ref a_Channel) (.ref a_Vessel) = some false
  ic_Vessel : PySem.W.findIn K (.ref a_Vessel) "__class__" = some (some (.builtin "object.__class__"))
  im_Vessel : PySem.W.mroIn K a_Vessel (.type "object") = some true
  eq_Vessel : EqC K a_Vessel
  ob_Vessel : OwnTy K a_Vessel
  ki_Vessel_Breaker : PySem.W.kitOne K (.ref a_Vessel) (.ref a_Breaker) = some false
  ki_Vessel_Ship : PySem.W.kitOne K (.ref a_Vessel) (.ref a_Ship) = some false
  ki_Vessel_Train : PySem.W.kitOne K (.ref a_Vessel) (.ref a_Train) = some false
  ki_Vessel_Vessel : PySem.W.kitOne K (.ref a_Vessel) (.ref a_Vessel) = some true
  ic_Breaker : PySem.W.findIn K (.ref a_Breaker) "__class__" = some (some (.builtin "object.__class__"))
  im_Breaker : PySem.W.mroIn K a_Breaker (.type "object") = some true
  eq_Breaker : EqC K a_Breaker
  ob_Breaker : OwnTy K a_Breaker
  ki_Breaker_Breaker : PySem.W.kitOne K (.ref a_Breaker) (.ref a_Breaker) = some true
  ki_Breaker_Ship : PySem.W.kitOne K (.ref a_Breaker) (.ref a_Ship) = some false
  ki_Breaker_Train : PySem.W.kitOne K (.ref a_Breaker) (.ref a_Train) = some false
  ki_Breaker_Vessel : PySem.W.kitOne K (.ref a_Breaker) (.ref a_Vessel) = some true
  ic_Ship : PySem.W.findIn K (.ref a_Ship) "__class__" = some (some (.builtin "object.__class__"))
  im_Ship : PySem.W.mroIn K a_Ship (.type "object") = some true
  eq_Ship : EqC K a_Ship
  ob_Ship : OwnTy K a_Ship
  ki_Ship_Breaker : PySem.W.kitOne K (.ref a_Ship) (.ref a_Breaker) = some false
  ki_Ship_Ship : PySem.W.kitOne K (.ref a_Ship) (.ref a_Ship) = some true
  ki_Ship_Train : PySem.W.kitOne K (.ref a_Ship) (.ref a_Train) = some false
  ki_Ship_Vessel : PySem.W.kitOne K (.ref a_Ship) (.ref a_Vessel) = some true
  ic_Train : PySem.W.findIn K (.ref a_Train) "__class__" = some (some (.builtin "object.__class__"))
  im_Train : PySem.W.mroIn K a_Train (.type "object") = some true
  eq_Train : EqC K a_Train
  ob_Train : OwnTy K a_Train
  ki_Train_Breaker : PySem.W.kitOne K (.ref a_Train) (.ref a_Breaker) = some false
  ki_Train_Ship : PySem.W.kitOne K (.ref a_Train) (.ref a_Ship) = some false
  ki_Train_Train : PySem.W.kitOne K (.ref a_Train) (.ref a_Train) = some true
  ki_Train_Vessel : PySem.W.kitOne K (.ref a_Train) (.ref a_Vessel) = some true
  kt_NoneType_Breaker : PySem.W.kitOne K (.type "NoneType") (.ref a_Breaker) = some false
  kt_NoneType_Ship : PySem.W.kitOne K (.type "NoneType") (.ref a_Ship) = some false
  kt_NoneType_Train : PySem.W.kitOne K (.type "NoneType") (.ref a_Train) = some false
  kt_NoneType_Vessel : PySem.W.kitOne K (.type "NoneType") (.ref a_Vessel) = some false
  kt_int_Breaker : PySem.W.kitOne K (.type "int") (.ref a_Breaker) = some false
  kt_int_Ship : PySem.W.kitOne K (.type "int") (.ref a_Ship) = some false
  kt_int_Train : PySem.W.kitOne K (.type "int") (.ref a_Train) = some false
  kt_int_Vessel : PySem.W.kitOne K (.type "int") (.ref a_Vessel) = some false
  kt_str_Breaker : PySem.W.kitOne K (.type "str") (.ref a_Breaker) = some false
  kt_str_Ship : PySem.W.kitOne K (.type "str") (.ref a_Ship) = some false
  kt_str_Train : PySem.W.kitOne K (.type "str") (.ref a_Train) = some false
  kt_str_Vessel : PySem.W.kitOne K (.type "str") (.ref a_Vessel) = some false
  kt_bool_Breaker : PySem.W.kitOne K (.type "bool") (.ref a_Breaker) = some false
  kt_bool_Ship : PySem.W.kitOne K (.type "bool") (.ref a_Ship) = some false
  kt_bool_Train : PySem.W.kitOne K (.type "bool") (.ref a_Train) = some false
  kt_bool_Vessel : PySem.W.kitOne K (.type "bool") (.ref a_Vessel) = some false
  kt_list_Breaker : PySem.W.kitOne K (.type "list") (.ref a_Breaker) = some false
  kt_list_Ship : PySem.W.kitOne K (.type "list") (.ref a_Ship) = some false
  kt_list_Train : PySem.W.kitOne K (.type "list") (.ref a_Train) = some false
  kt_list_Vessel : PySem.W.kitOne K (.type "list") (.ref a_Vessel) = some false
  kt_dict_Breaker : PySem.W.kitOne K (.type "dict") (.ref a_Breaker) = some false
  kt_dict_Ship : PySem.W.kitOne K (.type "dict") (.ref a_Ship) = some false
  kt_dict_Train : PySem.W.kitOne K (.type "dict") (.ref a_Train) = some false
  kt_dict_Vessel : PySem.W.kitOne K (.type "dict") (.ref a_Vessel) = some false
  kt_tuple_Breaker : PySem.W.kitOne K (.type "tuple") (.ref a_Breaker) = some false
  kt_tuple_Ship : PySem.W.kitOne K (.type "tuple") (.ref a_Ship) = some false
  kt_tuple_Train : PySem.W.kitOne K (.type "tuple") (.ref a_Train) = some false
  kt_tuple_Vessel : PySem.W.kitOne K (.type "tuple") (.ref a_Vessel) = some false
  mk_Breaker : Mk K a_Breaker a_Breaker___init__
  mk_Channel : Mk K a_Channel a_Channel___init__
  mk_Ship : Mk K a_Ship a_Ship___init__
  mk_Train : Mk K a_Train a_Train___init__
  mk_Vessel : Mk K a_Vessel a_Vessel___init__
  me_Breaker_row : Meth K a_Breaker "row" a_Breaker_row
  me_Breaker_settle : Meth K a_Breaker "settle" a_Vessel_settle
  me_Breaker_thins : Meth K a_Breaker "thins" a_Breaker_thins
  me_Ship_row : Meth K a_Ship "row" a_Ship_row
  me_Ship_settle : Meth K a_Ship "settle" a_Vessel_settle
  me_Ship_thins : Meth K a_Ship "thins" a_Vessel_thins
  me_Train_kind : Meth K a_Train "kind" a_Train_kind
  me_Train_lets : Meth K a_Train "lets" a_Vessel_lets
  me_Train_names : Meth K a_Train "names" a_Train_names
  me_Train_row : Meth K a_Train "row" a_Train_row
  me_Train_settle : Meth K a_Train "settle" a_Vessel_settle
  me_Train_thins : Meth K a_Train "thins" a_Train_thins
  me_Vessel_row : Meth K a_Vessel "row" a_Vessel_row
  me_Vessel_settle : Meth K a_Vessel "settle" a_Vessel_settle
  me_Vessel_thins : Meth K a_Vessel "thins" a_Vessel_thins
  rd_Vessel : PySem.W.readsIn K a_Vessel (.type "type") = true
  ga_Vessel : PySem.W.specialIn K (.ref a_Vessel) "__getattribute__" = some (some (.builtin "type.__getattribute__"))
  rd_IceError : PySem.W.readsIn K a_IceError (.type "type") = true
  ga_IceError : PySem.W.specialIn K (.ref a_IceError) "__getattribute__" = some (some (.builtin "type.__getattribute__"))
  vi_IceError : PySem.W.findCls K (.ref a_IceError) (.type "type") "__init__" = some (.val (.builtin "ValueError.__init__"))
  cm_Vessel___init__ : PySem.W.findCls K (.ref a_Vessel) (.type "type") "__init__" = some (.val (.ref a_Vessel___init__))
  cm_Vessel_row : PySem.W.findCls K (.ref a_Vessel) (.type "type") "row" = some (.val (.ref a_Vessel_row))
  ox_NoName : OexC K a_NoName
  ix_NoName : PySem.W.findIn K (.ref a_NoName) "__init__" = some (some (.ref a_NoName___init__))
  tx_NoName : PySem.W.typeIn K (.ref a_NoName___init__) = some (.type "function")
  xf_NoName : XfC K a_NoName
  n_NoName_found : PySem.W.findIn K (.ref a_NoName) "found" = some none
  ox_NoNumber : OexC K a_NoNumber
  ix_NoNumber : PySem.W.findIn K (.ref a_NoNumber) "__init__" = some (some (.ref a_NoNumber___init__))
  tx_NoNumber : PySem.W.typeIn K (.ref a_NoNumber___init__) = some (.type "function")
  xf_NoNumber : XfC K a_NoNumber
  n_NoNumber_found : PySem.W.findIn K (.ref a_NoNumber) "found" = some none
  ox_NoKind : OexC K a_NoKind
  ix_NoKind : PySem.W.findIn K (.ref a_NoKind) "__init__" = some (some (.ref a_NoKind___init__))
  tx_NoKind : PySem.W.typeIn K (.ref a_NoKind___init__) = some (.type "function")
  xf_NoKind : XfC K a_NoKind
  n_NoKind_found : PySem.W.findIn K (.ref a_NoKind) "found" = some none
  ox_Doubled : OexC K a_Doubled
  ix_Doubled : PySem.W.findIn K (.ref a_Doubled) "__init__" = some (some (.ref a_Doubled___init__))
  tx_Doubled : PySem.W.typeIn K (.ref a_Doubled___init__) = some (.type "function")
  xf_Doubled : XfC K a_Doubled
  n_Doubled_name : PySem.W.findIn K (.ref a_Doubled) "name" = some none
  te_NoName_IceError : PySem.W.exmOne K (.ref a_NoName) (.ref a_IceError) = some true
  te_NoNumber_IceError : PySem.W.exmOne K (.ref a_NoNumber) (.ref a_IceError) = some true
  te_NoKind_IceError : PySem.W.exmOne K (.ref a_NoKind) (.ref a_IceError) = some true
  te_Doubled_IceError : PySem.W.exmOne K (.ref a_Doubled) (.ref a_IceError) = some true
  te_NoName_NoKind : PySem.W.exmOne K (.ref a_NoName) (.ref a_NoKind) = some false
  te_NoNumber_NoKind : PySem.W.exmOne K (.ref a_NoNumber) (.ref a_NoKind) = some false
  te_NoKind_NoKind : PySem.W.exmOne K (.ref a_NoKind) (.ref a_NoKind) = some true
  te_Doubled_NoKind : PySem.W.exmOne K (.ref a_Doubled) (.ref a_NoKind) = some false
  m_all : mg "all" = none
  m_bool : mg "bool" = none
  m_int : mg "int" = none
  m_isinstance : mg "isinstance" = none
  m_len : mg "len" = none
  m_list : mg "list" = none
  m_max : mg "max" = none
  m_min : mg "min" = none
  m_range : mg "range" = none
  m_repr : mg "repr" = none
  m_str : mg "str" = none
  m_tuple : mg "tuple" = none
  c_LETTERS : ∃ u, mg "LETTERS" = some u ∧ RelV (.str "abcdefghijklmnopqrstuvwxyz") u
  c_LONGEST_NAME : ∃ u, mg "LONGEST_NAME" = some u ∧ RelV (.int 8) u
  c_MOST_HOUR : ∃ u, mg "MOST_HOUR" = some u ∧ RelV (.int 1000000) u
  c_MOST_ICE : ∃ u, mg "MOST_ICE" = some u ∧ RelV (.int 1000000) u
  c_MOST_DEPTH : ∃ u, mg "MOST_DEPTH" = some u ∧ RelV (.int 1000) u
  c_MOST_LENGTH : ∃ u, mg "MOST_LENGTH" = some u ∧ RelV (.int 1000) u
  c_MOST_GROWTH : ∃ u, mg "MOST_GROWTH" = some u ∧ RelV (.int 1000) u
  c_MOST_IN_TRAIN : ∃ u, mg "MOST_IN_TRAIN" = some u ∧ RelV (.int 6) u
local macro_rules | `(tactic| walk_at "cls") => `(tactic| first | exact My.Tx.cl_Channel (by assumption) | exact My.Tx.cl_Vessel (by assumption) | exact My.Tx.cl_Breaker (by assumption) | exact My.Tx.cl_Ship (by assumption) | exact My.Tx.cl_Train (by assumption))
local macro_rules | `(tactic| walk_at "noattr") => `(tactic| first | exact My.Tx.n_Channel_name (by assumption) | exact My.Tx.n_Channel_one (by assumption) | exact My.Tx.n_Channel_other (by assumption) | exact My.Tx.n_Channel_hours (by assumption) | exact My.Tx.n_Channel_depth (by assumption) | exact My.Tx.n_Channel_first (by assumption) | exact My.Tx.n_Channel_growth (by assumption) | exact My.Tx.n_Channel_most (by assumption) | exact My.Tx.n_Vessel_name (by assumption) | exact My.Tx.n_Vessel_port (by assumption) | exact My.Tx.n_Vessel_hour (by assumption) | exact My.Tx.n_Vessel_strength (by assumption) | exact My.Tx.n_Vessel_draught (by assumption) | exact My.Tx.n_Breaker_name (by assumption) | exact My.Tx.n_Breaker_port (by assumption) | exact My.Tx.n_Breaker_hour (by assumption) | exact My.Tx.n_Breaker_strength (by assumption) | exact My.Tx.n_Breaker_draught (by assumption) | exact My.Tx.n_Breaker_cut (by assumption) | exact My.Tx.n_Ship_name (by assumption) | exact My.Tx.n_Ship_port (by assumption) | exact My.Tx.n_Ship_hour (by assumption) | exact My.Tx.n_Ship_strength (by assumption) | exact My.Tx.n_Ship_draught (by assumption) | exact My.Tx.n_Ship_goal (by assumption) | exact My.Tx.n_Train_name (by assumption) | exact My.Tx.n_Train_port (by assumption) | exact My.Tx.n_Train_hour (by assumption) | exact My.Tx.n_Train_strength (by assumption) | exact My.Tx.n_Train_draught (by assumption) | exact My.Tx.n_Train_crew (by assumption) | exact My.Tx.n_Train_thinned (by assumption))
section
variable {P : Program} {w : World} {K : PySem.W.Frag} {mg : Str → Option Value} {base : Heap}
def ChanAt (T : Tx K mg) (H : Hp) (a : Addr) (c : Ch) : Prop := ∃ dx, H a = some (.ins T.a_Channel dx (chF c))

def veC (T : Tx K mg) : Nat → Addr
  | 0 => T.a_Vessel
  | 1 => T.a_Breaker
  | _ => T.a_Ship
def VeAt (T : Tx K mg) (H : Hp) (a : Addr) (v : Ve) : Prop := v.kind < 3 ∧ ∃ dx, H a = some (.ins (veC T v.kind) dx (veF v))
theorem VeAt.keep {T : Tx K mg} {H H' : Hp} {a : Addr} {v : Ve} (s : Same H H') (h : VeAt T H a v) : VeAt T H' a v := ⟨h.1, h.2.elim fun dx e => ⟨dx, s _ _ e⟩⟩
theorem VeAt.put {T : Tx K mg} {H : Hp} {a l : Addr} {v : Ve} {xs : List V} {o : HO} (hl : H l = some (.lst xs)) (h : VeAt T H a v) : VeAt T (upd H l o) a v := by
  obtain ⟨hk, dx, h⟩ := h
  exact ⟨hk, dx, by rw [upd_ne (ne_of h hl nofun)]; exact h⟩
theorem ve_cl (T : Tx K mg) : ∀ k, Cls K (veC T k)
  | 0 => T.cl_Vessel
  | 1 => T.cl_Breaker
  | _ + 2 => T.cl_Ship
theorem ve_n_name (T : Tx K mg) : ∀ k, NoAttr K (veC T k) "name"
  | 0 => T.n_Vessel_name
  | 1 => T.n_Breaker_name
  | _ + 2 => T.n_Ship_name
theorem ve_n_port (T : Tx K mg) : ∀ k, NoAttr K (veC T k) "port"
  | 0 => T.n_Vessel_port
  | 1 => T.n_Breaker_port
  | _ + 2 => T.n_Ship_port
theorem ve_n_hour (T : Tx K mg) : ∀ k, NoAttr K (veC T k) "hour"
  | 0 => T.n_Vessel_hour
  | 1 => T.n_Breaker_hour
  | _ + 2 => T.n_Ship_hour
theorem ve_n_strength (T : Tx K mg) : ∀ k, NoAttr K (veC T k) "strength"
  | 0 => T.n_Vessel_strength
  | 1 => T.n_Breaker_strength
  | _ + 2 => T.n_Ship_strength
theorem ve_n_draught (T : Tx K mg) : ∀ k, NoAttr K (veC T k) "draught"
  | 0 => T.n_Vessel_draught
  | 1 => T.n_Breaker_draught
  | _ + 2 => T.n_Ship_draught
theorem ve_put (v : Ve) : putF "draught" (.int v.draught) (putF "strength" (.int v.strength) (putF "hour" (.int v.hour) (putF "port" (.str v.port) (putF "name" (.str v.name) [])))) = veB v := by kernel_rfl
theorem none_same {H H' : Hp} {p : Addr} (e : Same H H') (h : H' p = none) : H p = none := by
  cases h1 : H p with
  | none => rfl
  | some o => exact absurd ((e _ _ h1).symm.trans h) nofun
theorem vel_name (v : Ve) : (veF v).lookup ("name" : Str) = some (.str v.name) := by
  unfold veF
  split <;> kernel_rfl
theorem vel_port (v : Ve) : (veF v).lookup ("port" : Str) = some (.str v.port) := by
  unfold veF
  split <;> kernel_rfl
theorem vel_hour (v : Ve) : (veF v).lookup ("hour" : Str) = some (.int v.hour) := by
  unfold veF
  split <;> kernel_rfl
theorem vel_strength (v : Ve) : (veF v).lookup ("strength" : Str) = some (.int v.strength) := by
  unfold veF
  split <;> kernel_rfl
theorem vel_draught (v : Ve) : (veF v).lookup ("draught" : Str) = some (.int v.draught) := by
  unfold veF
  split <;> kernel_rfl
theorem vel_cut {v : Ve} (h : v.kind = 1) : (veF v).lookup ("cut" : Str) = some (.int v.cut) := by
  unfold veF
  rw [h]
  kernel_rfl
theorem vel_goal {v : Ve} (h : v.kind = 2) : (veF v).lookup ("goal" : Str) = some (.str v.goal) := by
  unfold veF
  rw [h]
  kernel_rfl
theorem ven_kind (v : Ve) : (veF v).lookup ("kind" : Str) = none := by
  unfold veF
  split <;> kernel_rfl
theorem ven_thins (v : Ve) : (veF v).lookup ("thins" : Str) = none := by
  unfold veF
  split <;> kernel_rfl
theorem ven_lets (v : Ve) : (veF v).lookup ("lets" : Str) = none := by
  unfold veF
  split <;> kernel_rfl
theorem ven_row (v : Ve) : (veF v).lookup ("row" : Str) = none := by
  unfold veF
  split <;> kernel_rfl
local macro_rules | `(tactic| walk_at "nolk") => `(tactic| with_reducible first | exact My.ven_kind _ | exact My.ven_row _ | exact My.ven_thins _ | exact My.ven_lets _)
local macro_rules | `(tactic| walk_at "lk") => `(tactic| with_reducible first | exact My.vel_name _ | exact My.vel_port _ | exact My.vel_hour _ | exact My.vel_strength _ | exact My.vel_draught _ | exact My.vel_cut (by assumption) | exact My.vel_goal (by assumption))
local macro_rules | `(tactic| walk_at "cls") => `(tactic| exact My.ve_cl (by assumption) _)
local macro_rules | `(tactic| walk_at "noattr") => `(tactic| first | exact My.ve_n_name (by assumption) _ | exact My.ve_n_port (by assumption) _ | exact My.ve_n_hour (by assumption) _ | exact My.ve_n_strength (by assumption) _ | exact My.ve_n_draught (by assumption) _)
/-- vessels, each with what it is made of -/
def VesAt (T : Tx K mg) (H : Hp) (ws : List (Addr × Ve)) : Prop := ∀ w ∈ ws, VeAt T H w.1 w.2
theorem VesAt.keep {T : Tx K mg} {H H' : Hp} {ws : List (Addr × Ve)} (h : VesAt T H ws) (s : Same H H') : VesAt T H' ws := fun w hw => by
  obtain ⟨hk, dx, e⟩ := h w hw
  exact ⟨hk, dx, s _ _ e⟩
theorem veF_ne {v : Ve} : veF v ≠ [] := by
  unfold veF
  split <;> exact nofun
theorem VeAt.ne {T : Tx K mg} {H : Hp} {a b C dx : Addr} {v : Ve} (h : VeAt T H b v) (e : H a = some (.ins C dx [])) : b ≠ a := fun z => by
  obtain ⟨_, dy, e2⟩ := h
  rw [z, e] at e2
  injection e2 with e2
  injection e2 with _ _ e3
  exact veF_ne e3.symm
theorem VesAt.kb {T : Tx K mg} {H H' : Hp} {ws : List (Addr × Ve)} {p : Addr} (h : VesAt T H ws) (k : KeepB p H H') (n : ∀ C dx fs, H p ≠ some (.ins C dx fs)) : VesAt T H' ws := fun w hw => by
  obtain ⟨hk, dx, e⟩ := h w hw
  exact ⟨hk, dx, k _ _ e fun z => n _ _ _ (z ▸ e)⟩
def TrAt (T : Tx K mg) (H : Hp) (a : Addr) (ws : List (Addr × Ve)) : Prop := ∃ l dx, H a = some (.ins T.a_Train dx (trF l (ws.map (·.2)))) ∧ H l = some (.lst (refsOf ws)) ∧ VesAt T H ws
theorem VesAt.put' {T : Tx K mg} {H : Hp} {l : Addr} {xs : List V} {o : HO} {ws : List (Addr × Ve)} (hl : H l = some (.lst xs)) (h : VesAt T H ws) : VesAt T (upd H l o) ws := fun w hw => by
  obtain ⟨hk, dx, e⟩ := h w hw
  exact ⟨hk, dx, by rw [upd_ne (ne_of e hl nofun)]; exact e⟩
theorem VesAt.app {T : Tx K mg} {H : Hp} {ws : List (Addr × Ve)} {u : Addr × Ve} (h : VesAt T H ws) (hu : VeAt T H u.1 u.2) : VesAt T H (ws ++ [u]) := fun w hw => by
  rcases List.mem_append.mp hw with h1 | h1
  · exact h w h1
  · rw [List.mem_singleton.mp h1]
    exact hu
def TrAtL (T : Tx K mg) (H : Hp) (a l : Addr) (ws : List (Addr × Ve)) : Prop := (∃ dx, H a = some (.ins T.a_Train dx (trF l (ws.map (·.2))))) ∧ H l = some (.lst (refsOf ws)) ∧ VesAt T H ws
theorem TrAtL.tr {T : Tx K mg} {H : Hp} {a l : Addr} {ws : List (Addr × Ve)} (h : TrAtL T H a l ws) : TrAt T H a ws := ⟨l, h.1.choose, h.1.choose_spec, h.2⟩
theorem TrAtL.keep {T : Tx K mg} {H H' : Hp} {a l : Addr} {ws : List (Addr × Ve)} (h : TrAtL T H a l ws) (s : Same H H') : TrAtL T H' a l ws := by
  obtain ⟨⟨dx, h1⟩, h2, h3⟩ := h
  exact ⟨⟨dx, s _ _ h1⟩, s _ _ h2, h3.keep s⟩
theorem TrAt.keep {T : Tx K mg} {H H' : Hp} {a : Addr} {ws : List (Addr × Ve)} (h : TrAt T H a ws) (s : Same H H') : TrAt T H' a ws := by
  obtain ⟨l, dx, h1, h2, h3⟩ := h
  exact ⟨l, dx, s _ _ h1, s _ _ h2, h3.keep s⟩
theorem ve_ty (T : Tx K mg) {H : Hp} {a : Addr} {v : Ve} (h : VeAt T H a v) : TyOf K H (.ref a) (.ref (veC T v.kind)) := by
  obtain ⟨_, dx, e⟩ := h
  have z : ∀ k, PySem.W.findIn K (.ref (veC T k)) "__class__" = some (some (.builtin "object.__class__")) ∧ PySem.W.mroIn K (veC T k) (.type "object") = some true := fun k => match k with
    | 0 => ⟨T.ic_Vessel, T.im_Vessel⟩
    | 1 => ⟨T.ic_Breaker, T.im_Breaker⟩
    | _ + 2 => ⟨T.ic_Ship, T.im_Ship⟩
  exact .ins e (ve_cl T _) (z _).1 T.hn_class T.ht_class (z _).2
theorem ve_isV (T : Tx K mg) : ∀ k, PySem.W.kitOne K (.ref (veC T k)) (.ref T.a_Vessel) = some true
  | 0 => T.ki_Vessel_Vessel
  | 1 => T.ki_Breaker_Vessel
  | _ + 2 => T.ki_Ship_Vessel
theorem ve_isT (T : Tx K mg) : ∀ k, PySem.W.kitOne K (.ref (veC T k)) (.ref T.a_Train) = some false
  | 0 => T.ki_Vessel_Train
  | 1 => T.ki_Breaker_Train
  | _ + 2 => T.ki_Ship_Train
theorem ve_own (T : Tx K mg) : ∀ k, OwnTy K (veC T k)
  | 0 => T.ob_Vessel
  | 1 => T.ob_Breaker
  | _ + 2 => T.ob_Ship
theorem ve_eq (T : Tx K mg) : ∀ k, EqC K (veC T k)
  | 0 => T.eq_Vessel
  | 1 => T.eq_Breaker
  | _ + 2 => T.eq_Ship
theorem VeAt.thing {T : Tx K mg} {H : Hp} {a : Addr} {v : Ve} (h : VeAt T H a v) : ThingAt K H (.ref a) := .inr ⟨_, ve_ty T h, ve_own T _⟩
theorem VeAt.own {T : Tx K mg} {H : Hp} {a : Addr} {v : Ve} (h : VeAt T H a v) : OwnE K H a := by
  obtain ⟨_, dx, e⟩ := h
  exact ⟨_, dx, _, e, ve_eq T _⟩
theorem tr_ty (T : Tx K mg) {H : Hp} {a dx : Addr} {fs : List (Str × V)} (e : H a = some (.ins T.a_Train dx fs)) : TyOf K H (.ref a) (.ref T.a_Train) := .ins e T.cl_Train T.ic_Train T.hn_class T.ht_class T.im_Train
theorem rd_isiO {H : Hp} {Q : VK} {v : V} {t : Value} {D : Addr} {b : Bool} (ty : TyOf K H v t) (k : PySem.W.kitOne K t (.ref D) = some b) (q : Q (.bl b) H) : rIsi K [v, .ref D] H Q := ⟨v, .ref D, _, _, b, rfl, ClsV.own D, .base ty, k, q⟩
/-- what is no vessel for a train -/
def NoVe (T : Tx K mg) (H : Hp) (x : V) : Prop := (∃ t, TyOf K H x t ∧ PySem.W.kitOne K t (.ref T.a_Vessel) = some false) ∨ ∃ a dx fs, x = .ref a ∧ H a = some (.ins T.a_Train dx fs)
theorem NoVe.keep {T : Tx K mg} {H H' : Hp} {x : V} (h : NoVe T H x) (s : Same H H') : NoVe T H' x := by
  rcases h with ⟨t, h1, h2⟩ | ⟨a, dx, fs, rfl, h⟩
  · exact .inl ⟨t, tyof_keep h1 s, h2⟩
  · exact .inr ⟨a, dx, fs, rfl, s _ _ h⟩
theorem rd_thins {T : Tx K mg} {a : Addr} {v : Ve} {H : Hp} {Q : VK} {t1 t2 t3 : TE} {σ : L2.St} (h : VeAt T H a v) (q1 : v.kind = 0 → t1 σ H Q) (q2 : v.kind = 1 → t2 σ H Q) (q3 : v.kind = 2 → t3 σ H Q) : tAlt t1 (tAlt t2 t3) σ H Q := by
  match e : v.kind, h.1 with
  | 0, _ => exact .inl (q1 e)
  | 1, _ => exact .inr (.inl (q2 e))
  | 2, _ => exact .inr (.inr (q3 e))
theorem VeAt.c0 {T : Tx K mg} {H : Hp} {a : Addr} {v : Ve} (h : VeAt T H a v) (k : v.kind = 0) : ∃ dx, H a = some (.ins T.a_Vessel dx (veF v)) := by
  obtain ⟨_, dx, e⟩ := h
  rw [k] at e
  exact ⟨dx, e⟩
theorem VeAt.c1 {T : Tx K mg} {H : Hp} {a : Addr} {v : Ve} (h : VeAt T H a v) (k : v.kind = 1) : ∃ dx, H a = some (.ins T.a_Breaker dx (veF v)) := by
  obtain ⟨_, dx, e⟩ := h
  rw [k] at e
  exact ⟨dx, e⟩
theorem VeAt.c2 {T : Tx K mg} {H : Hp} {a : Addr} {v : Ve} (h : VeAt T H a v) (k : v.kind = 2) : ∃ dx, H a = some (.ins T.a_Ship dx (veF v)) := by
  obtain ⟨_, dx, e⟩ := h
  rw [k] at e
  exact ⟨dx, e⟩
theorem ve_th0 {v : Ve} (k : v.kind ≠ 1) : veThins v = 0 := if_neg k
theorem ve_th1 {v : Ve} (k : v.kind = 1) : veThins v = v.cut := if_pos k
theorem nove_ve {T : Tx K mg} {H : Hp} {b : Addr} {v : Ve} (h : NoVe T H (.ref b)) (hv : VeAt T H b v) : False := by
  obtain ⟨_, dx, e⟩ := hv
  rcases h with ⟨t, ty, k⟩ | ⟨a, dy, fs, ea, h⟩
  · generalize hx : V.ref b = x at ty
    cases ty with
    | ins h a b c d m =>
      cases hx
      rw [h] at e
      injection e with e
      injection e with e1 _ _
      rw [e1, ve_isV T] at k
      cases k
    | lst h => cases hx; rw [h] at e; cases e
    | frz h => cases hx; rw [h] at e; cases e
    | tup h => cases hx; rw [h] at e; cases e
    | dK h => cases hx; rw [h] at e; cases e
    | dT h => cases hx; rw [h] at e; cases e
    | _ => cases hx
  · cases ea
    rw [h] at e
    injection e with e
    injection e with e1 _ _
    have z := ve_isT T v.kind
    rw [← e1, T.ki_Train_Train] at z
    cases z
-- no reading of _wall yet
theorem ok_NoName___init__ (T : Tx K mg) : FnOk P w K mg base CX0 1 T.a_NoName___init__ T.d_NoName___init__ ["self", "found"] (spXInit T.a_NoName "found") := by
  refine T.F_NoName___init__.ok sc_NoName___init__ (fun vs H Q E h => ?_) (fun cdv A outer s H vs Q E hr h => ?_)
  · obtain ⟨a, v, rfl, _⟩ := h
    rfl
  · refine ⟨_, (pss_cons (ps_expr (pe_upinit rfl T.g_IceError T.rd_IceError T.ga_IceError T.vi_IceError (pa_cons (pv 0) (pa_cons pe_str pa_nil))))
        (pss_one (ps_ost (pv 0) (pv 1)))), ?_⟩
    exact xinit_rd T.ox_NoName T.n_NoName_found h
theorem ok_NoNumber___init__ (T : Tx K mg) : FnOk P w K mg base CX0 1 T.a_NoNumber___init__ T.d_NoNumber___init__ ["self", "found"] (spXInit T.a_NoNumber "found") := by
  refine T.F_NoNumber___init__.ok sc_NoNumber___init__ (fun vs H Q E h => ?_) (fun cdv A outer s H vs Q E hr h => ?_)
  · obtain ⟨a, v, rfl, _⟩ := h
    rfl
  · refine ⟨_, (pss_cons (ps_expr (pe_upinit rfl T.g_IceError T.rd_IceError T.ga_IceError T.vi_IceError (pa_cons (pv 0) (pa_cons pe_str pa_nil))))
        (pss_one (ps_ost (pv 0) (pv 1)))), ?_⟩
    exact xinit_rd T.ox_NoNumber T.n_NoNumber_found h
theorem ok_NoKind___init__ (T : Tx K mg) : FnOk P w K mg base CX0 1 T.a_NoKind___init__ T.d_NoKind___init__ ["self", "found"] (spXInit T.a_NoKind "found") := by
  refine T.F_NoKind___init__.ok sc_NoKind___init__ (fun vs H Q E h => ?_) (fun cdv A outer s H vs Q E hr h => ?_)
  · obtain ⟨a, v, rfl, _⟩ := h
    rfl
  · refine ⟨_, (pss_cons (ps_expr (pe_upinit rfl T.g_IceError T.rd_IceError T.ga_IceError T.vi_IceError (pa_cons (pv 0) (pa_cons pe_str pa_nil))))
        (pss_one (ps_ost (pv 0) (pv 1)))), ?_⟩
    exact xinit_rd T.ox_NoKind T.n_NoKind_found h
theorem ok_Doubled___init__ (T : Tx K mg) : FnOk P w K mg base CX0 1 T.a_Doubled___init__ T.d_Doubled___init__ ["self", "name"] (spXInit T.a_Doubled "name") := by
  refine T.F_Doubled___init__.ok sc_Doubled___init__ (fun vs H Q E h => ?_) (fun cdv A outer s H vs Q E hr h => ?_)
  · obtain ⟨a, v, rfl, _⟩ := h
    rfl
  · refine ⟨_, (pss_cons (ps_expr (pe_upinit rfl T.g_IceError T.rd_IceError T.ga_IceError T.vi_IceError (pa_cons (pv 0) (pa_cons pe_str pa_nil))))
        (pss_one (ps_ost (pv 0) (pv 1)))), ?_⟩
    exact xinit_rd T.ox_Doubled T.n_Doubled_name h
def sp_is_whole (K : PySem.W.Frag) : Sp := fun vs H Q _ => ∃ v, vs = [v] ∧ ThingAt K H v ∧ Q (.bl (wholeV v)) H
theorem ok_is_whole (T : Tx K mg) : FnOk P w K mg base CX0 1 T.a_is_whole T.d_is_whole ["thing"] (sp_is_whole K) := by
  refine T.F_is_whole.ok sc_is_whole (fun vs H Q E h => ?_) (fun cdv A outer s H vs Q E hr h => ?_)
  · obtain ⟨v, rfl, _⟩ := h
    rfl
  · refine ⟨_, (pss_one (ps_ret (pe_and (pe_callB (isiK (K := K) rfl) (by rfl) T.m_isinstance (by decide +kernel) (pa_cons (pv 0) (pa_cons (pe_bltn (v := .ty "int") rfl T.m_int (by decide +kernel) rfl) pa_nil))) (pe_one (pe_not (pe_callB (isiK (K := K) rfl) (by rfl) T.m_isinstance (by decide +kernel) (pa_cons (pv 0) (pa_cons (pe_bltn (v := .ty "bool") rfl T.m_bool (by decide +kernel) rfl) pa_nil)))))))), ?_⟩
    obtain ⟨v, rfl, hT, q⟩ := h
    obtain ⟨t, ht, h1, h2, h3⟩ := thing_ty hT
    walk_at "rd"
    refine rd_isiV ht h1 ?_
    walk_at "rd"
    cases v with
    | int i =>
      refine iteT ?_
      walk_at "rd"
      refine rd_isiV ht h2 ?_
      walk_at "rd"
      exact q
    | bl b =>
      refine iteT ?_
      walk_at "rd"
      refine rd_isiV ht h2 ?_
      walk_at "rd"
      exact q
    | _ => first | exact iteF q | exact hT.elim
def sp_is_within (K : PySem.W.Frag) : Sp := fun vs H Q _ => ∃ v lo hi, vs = [v, .int lo, .int hi] ∧ ThingAt K H v ∧ Q (.bl (withinV v lo hi)) H
theorem ok_is_within (T : Tx K mg) : FnOk P w K mg base CX0 2 T.a_is_within T.d_is_within ["thing", "low", "high"] (sp_is_within K) := by
  refine T.F_is_within.ok sc_is_within (fun vs H Q E h => ?_) (fun cdv A outer s H vs Q E hr h => ?_)
  · obtain ⟨v, lo, hi, rfl, _⟩ := h
    rfl
  · refine ⟨_, (pss_one (ps_ret (pe_and (pe_call (ok_is_whole T) (hr.mono (by decide)) (by rfl) T.g_is_whole T.F_is_whole.kp T.b_is_whole .nil pass0 (pa_cons (pv 0) pa_nil)) (pe_one (pe_chain op_le op_le (pv 1) (pv 0) (pv 2)))))), ?_⟩
    obtain ⟨v, lo, hi, rfl, hT, q⟩ := h
    walk_at "rd"
    refine ⟨v, rfl, hT, ?_⟩
    walk_at "rd"
    cases v with
    | int i =>
      refine iteT ?_
      walk_at "rd"
      refine rd_iteD (fun h1 => ?_) (fun h1 => ?_)
      · walk_at "rd"
        rw [withinV, decide_eq_true h1, Bool.true_and] at q
        exact q
      · walk_at "rd"
        rw [withinV, decide_eq_false h1, Bool.false_and] at q
        exact q
    | _ => first | exact iteF q | exact hT.elim
def sp_is_name (K : PySem.W.Frag) : Sp := fun vs H Q _ => ∃ v, vs = [v] ∧ ThingAt K H v ∧ ∀ H', Same H H' → Q (.bl (nameV v)) H'
theorem ok_is_name (T : Tx K mg) : FnOk P w K mg base CX0 1 T.a_is_name T.d_is_name ["thing"] (sp_is_name K) := by
  refine T.F_is_name.ok sc_is_name (fun vs H Q E h => ?_) (fun cdv A outer s H vs Q E hr h => ?_)
  · obtain ⟨v, rfl, _⟩ := h
    rfl
  · refine ⟨_, (pss_cons (ps_if (PW.pt (pw_or (pt_not (pt_val (pe_callB (isiK (K := K) rfl) (by rfl) T.m_isinstance (by decide +kernel) (pa_cons (pv 0) (pa_cons (pe_bltn (v := .ty "str") rfl T.m_str (by decide +kernel) rfl) pa_nil))))) (pw_or1 (pt_not (pt_chain op_le op_le pe_int (pe_callB (lenK (K := K) rfl) (by rfl) T.m_len (by decide +kernel) (pa_cons (pv 0) pa_nil)) (C8.pe_gc rfl T.c_LONGEST_NAME))))))
        (pss_one (ps_ret pe_bl))
        pss_nil)
        (pss_one (ps_ret (pe_callB (allK (K := K) rfl rfl) (by rfl) T.m_all (by decide +kernel) (pa_cons (pe_lc (own := [("sign", 1)]) (g := gName 1) (tt := tYes) rfl sc_is_name.nd (pi_str (pv 0)) (blkOk_by (own := [("sign", 1)]) (N := N_is_name) (sc := defScope s_is_name) (by decide +kernel)) (fun _ _ _ _ _ => (pg_name (i := 1) sc_is_name.nd rfl (Or.inl rfl))) (fun _ _ _ _ _ => pts_nil) (fun _ _ _ _ _ => (pe_frm (pe_cmpR inSg (pv 1) (C8.pe_gc rfl T.c_LETTERS) rfl)))) pa_nil))))), ?_⟩
    obtain ⟨v, rfl, hT, q⟩ := h
    obtain ⟨t, ht, h1, h2, h3⟩ := thing_ty hT
    walk_at "rd"
    refine rd_isiV ht h3 ?_
    walk_at "rd"
    cases v with
    | str z =>
      have hz : z.length ≤ 2000 := hT
      refine iteT ?_
      walk_at "rd"
      refine rd_iteD (fun h4 => ?_) (fun h4 => ?_)
      · walk_at "rd"
        refine rd_iteD (fun h5 => ?_) (fun h5 => ?_)
        · walk_at "rd"
          refine lcgo_str (f := fun c => .bl (isLet c)) (by omega) (fun _ => rfl) (fun c H' Q' hc q' => ?_) (fun D hD => ?_)
          · walk_at "rd"
            rw [isLet_in]
            exact q'
          · walk_at "rd"
            refine rd_all (bs := z.cps.toList.map isLet) (sqL_of (by rw [upd_same, List.map_map]; rfl)) ?_
            have eall : (z.cps.toList.map isLet).all id = z.cps.toList.all isLet := by rw [List.all_map]; rfl
            rw [eall]
            walk_at "rd"
            have e : nameV (.str z) = z.cps.toList.all isLet := by rw [nameV, nameS, decide_eq_true (show 1 ≤ z.length ∧ z.length ≤ 8 by omega), Bool.true_and]
            rw [← e]
            exact q _ (same_new hD)
        · walk_at "rd"
          have := q _ (Same.refl H)
          rw [nameV, nameS, decide_eq_false (show ¬ (1 ≤ z.length ∧ z.length ≤ 8) by omega), Bool.false_and] at this
          exact this
      · walk_at "rd"
        have := q _ (Same.refl H)
        rw [nameV, nameS, decide_eq_false (show ¬ (1 ≤ z.length ∧ z.length ≤ 8) by omega), Bool.false_and] at this
        exact this
    | _ =>
      first
      | (refine iteF ?_
         walk_at "rd"
         exact q _ (Same.refl H))
      | exact hT.elim

def sp_need_names (T : Tx K mg) : Sp := fun vs H Q E => ∃ p xs, vs = [.ref p] ∧ SqL K H p xs ∧ (∀ x ∈ xs, ThingAt K H x) ∧ xs.length ≤ 1000 ∧ (xs.find? (fun v => !nameV v) = none → ∀ H', Same H H' → Q .non H') ∧
  ∀ v, xs.find? (fun v => !nameV v) = some v → ∀ d H', Same H H' → H' d = some (.xd [("found", v)]) → E (.ref T.a_NoName) (some d) H'
theorem ok_need_names (T : Tx K mg) : FnOk P w K mg base (L2.CX P w) 3 T.a_need_names T.d_need_names ["things"] (sp_need_names T) := by
  refine T.F_need_names.okX sc_need_names (fun vs H Q E h => ?_) (fun cdv A outer s H vs Q E hr h => ?_)
  · obtain ⟨p, xs, rfl, _⟩ := h
    rfl
  · refine ⟨_, (pss_one (ps_for (passes_of rfl) rfl (pi_listK (K := K) rfl (pv 0)) (pg_name (i := 1) sc_need_names.nd rfl (Or.inl rfl))
        (pss_one (ps_if (pt_not (pt_val (pe_call (ok_is_name T) (hr.mono (by decide)) (by rfl) T.g_is_name T.F_is_name.kp T.b_is_name .nil pass0 (pa_cons (pv 1) pa_nil))))
        (pss_one (ps_raiseX rfl (takes_of rfl rfl rfl rfl) T.ox_NoName T.ix_NoName T.tx_NoName (ok_NoName___init__ T) (hr.mono (by decide)) T.b_NoName___init__ rfl T.g_NoName (pa_cons (pv 1) pa_nil)))
        pss_nil)))), ?_⟩
    obtain ⟨p, xs, rfl, hS, hT, hl, q1, q2⟩ := h
    walk_at "rd"
    refine rd_il hS ?_
    refine forgo walk_list (fun i σ' H' => Same H H' ∧ (xs.take i).find? (fun v => !nameV v) = none ∧ ∃ x1, σ' = [some (.ref p), x1]) ⟨Same.refl _, rfl, _, rfl⟩ (fun i σ' H' _ p => (p.1).seq hS) ?_ ?_
    · rintro i x σ' Ha Hb hi ⟨sa, hn, x1, rfl⟩ ⟨e0, hx⟩
      subst e0
      walk_at "rd"
      refine ⟨x, rfl, (hT x (List.mem_of_getElem? hx)).keep sa, fun Hc sc => ?_⟩
      walk_at "rd"
      cases hv : nameV x with
      | true =>
        walk_at "rd"
        exact ⟨sa.trans sc, (find_step hn hx).1 (by rw [hv]; rfl), _, rfl⟩
      | false =>
        walk_at "rd"
        refine rd_raise1 fun d hd => ?_
        exact q2 x ((find_step hn hx).2 (by rw [hv]; rfl)) d _ ((sa.trans sc).trans (same_new hd)) upd_same
    · rintro σ' Ha ⟨sa, hn, x1, rfl⟩
      walk_at "rd"
      rw [List.take_length] at hn
      exact q1 hn _ sa
def sp_need_numbers (T : Tx K mg) : Sp := fun vs H Q E => ∃ p, ∃ rs : List (Addr × V × Int × Int), vs = [.ref p] ∧ SqL K H p (rs.map fun r => .ref r.1) ∧ (∀ r ∈ rs, SqT K H r.1 [r.2.1, .int r.2.2.1, .int r.2.2.2] ∧ ThingAt K H r.2.1) ∧ rs.length ≤ 1000 ∧
  ((rs.map (·.2)).find? badN = none → ∀ H', Same H H' → Q .non H') ∧
  ∀ r, (rs.map (·.2)).find? badN = some r → ∀ d H', Same H H' → H' d = some (.xd [("found", r.1)]) → E (.ref T.a_NoNumber) (some d) H'
theorem ok_need_numbers (T : Tx K mg) : FnOk P w K mg base (L2.CX P w) 3 T.a_need_numbers T.d_need_numbers ["rows"] (sp_need_numbers T) := by
  refine T.F_need_numbers.okX sc_need_numbers (fun vs H Q E h => ?_) (fun cdv A outer s H vs Q E hr h => ?_)
  · obtain ⟨p, rs, rfl, _⟩ := h
    rfl
  · refine ⟨_, (pss_one (ps_for (passes_of rfl) rfl (pi_listK (K := K) rfl (pv 0)) (pg_tup rfl (pgs_cons (pg_name (i := 1) sc_need_numbers.nd rfl (Or.inl rfl)) (pgs_cons (pg_name (i := 2) sc_need_numbers.nd rfl (Or.inl rfl)) (pgs_cons (pg_name (i := 3) sc_need_numbers.nd rfl (Or.inl rfl)) pgs_nil))))
        (pss_one (ps_if (pt_not (pt_val (pe_call (ok_is_within T) (hr.mono (by decide)) (by rfl) T.g_is_within T.F_is_within.kp T.b_is_within .nil pass0 (pa_cons (pv 1) (pa_cons (pv 2) (pa_cons (pv 3) pa_nil))))))
        (pss_one (ps_raiseX rfl (takes_of rfl rfl rfl rfl) T.ox_NoNumber T.ix_NoNumber T.tx_NoNumber (ok_NoNumber___init__ T) (hr.mono (by decide)) T.b_NoNumber___init__ rfl T.g_NoNumber (pa_cons (pv 1) pa_nil)))
        pss_nil)))), ?_⟩
    obtain ⟨p, rs, rfl, hS, hT, hl, q1, q2⟩ := h
    walk_at "rd"
    refine rd_il hS ?_
    refine forgo walk_list (fun i σ' H' => Same H H' ∧ ((rs.map (·.2)).take i).find? badN = none ∧ ∃ x1 x2 x3, σ' = [some (.ref p), x1, x2, x3]) ⟨Same.refl _, rfl, _, _, _, rfl⟩ (fun i σ' H' _ p => (p.1).seq hS) ?_ ?_
    · rintro i x σ' Ha Hb hi ⟨sa, hn, x1, x2, x3, rfl⟩ ⟨e0, hx⟩
      subst e0
      rw [List.getElem?_map] at hx
      obtain ⟨⟨t, v, lo, hi2⟩, hr, rfl⟩ := Option.map_eq_some_iff.mp hx
      obtain ⟨ht, hth⟩ := hT _ (List.mem_of_getElem? hr)
      have hx2 : (rs.map (·.2))[i]? = some (v, lo, hi2) := by rw [List.getElem?_map, hr]; rfl
      refine rd_gtup (Same.seqT sa ht) rfl ?_
      walk_at "rd"
      refine ⟨v, lo, hi2, rfl, hth.keep sa, ?_⟩
      walk_at "rd"
      cases hv : withinV v lo hi2 with
      | true =>
        walk_at "rd"
        exact ⟨sa, (find_step hn hx2).1 (by simp only [badN, hv]; rfl), _, _, _, rfl⟩
      | false =>
        walk_at "rd"
        refine rd_raise1 fun d hd => ?_
        exact q2 _ ((find_step hn hx2).2 (by simp only [badN, hv]; rfl)) d _ (sa.trans (same_new hd)) upd_same
    · rintro σ' Ha ⟨sa, hn, x1, x2, x3, rfl⟩
      walk_at "rd"
      rw [show (rs.map fun r => V.ref r.1).length = (rs.map (·.2)).length by rw [List.length_map, List.length_map], List.take_length] at hn
      exact q1 hn _ sa
def sp_Channel___init__ (T : Tx K mg) : Sp := fun vs H Q E => ∃ a dx nm one oth h d f g m, vs = [.ref a, nm, one, oth, h, d, f, g, m] ∧ H a = some (.ins T.a_Channel dx []) ∧ (∀ x ∈ [nm, one, oth, h, d, f, g, m], ThingAt K H x) ∧
  (chanRef nm one oth h d f g m = none → ∀ c H', [nm, one, oth, h, d, f, g, m] = chV c → KeepB a H H' → H' a = some (.ins T.a_Channel dx (chF c)) → Q .non H') ∧
  (∀ v, chanRef nm one oth h d f g m = some (0, v) → ∀ d H', Same H H' → H' d = some (.xd [("found", v)]) → E (.ref T.a_NoName) (some d) H') ∧
  (∀ v, chanRef nm one oth h d f g m = some (1, v) → ∀ d H', Same H H' → H' d = some (.xd [("name", v)]) → E (.ref T.a_Doubled) (some d) H') ∧
  (∀ v, chanRef nm one oth h d f g m = some (2, v) → ∀ d H', Same H H' → H' d = some (.xd [("found", v)]) → E (.ref T.a_NoNumber) (some d) H')
theorem chan_0 {nm one oth h d f g m v : V} (h0 : [nm, one, oth].find? (fun v => !nameV v) = some v) : chanRef nm one oth h d f g m = some (0, v) := by
  unfold chanRef
  rw [h0]
theorem chan_1 {nm one oth h d f g m : V} (h0 : [nm, one, oth].find? (fun v => !nameV v) = none) (h1 : one = oth) : chanRef nm one oth h d f g m = some (1, one) := by
  unfold chanRef
  rw [h0]
  exact if_pos h1
theorem chan_2 {nm one oth h d f g m : V} {r : V × Int × Int} (h0 : [nm, one, oth].find? (fun v => !nameV v) = none) (h1 : one ≠ oth) (h2 : [(h, (1 : Int), (1000 : Int)), (d, 0, 1000), (f, 0, 1000000)].find? badN = some r) : chanRef nm one oth h d f g m = some (2, r.1) := by
  unfold chanRef
  rw [h0]
  simp only [if_neg h1, h2]
theorem chan_3 {nm one oth h d f g m : V} {r : V × Int × Int} (h0 : [nm, one, oth].find? (fun v => !nameV v) = none) (h1 : one ≠ oth) (h2 : [(h, (1 : Int), (1000 : Int)), (d, 0, 1000), (f, 0, 1000000)].find? badN = none) (h3 : [(g, (0 : Int), (1000 : Int)), (m, intOf f, 1000000)].find? badN = some r) :
    chanRef nm one oth h d f g m = some (2, r.1) := by
  unfold chanRef
  rw [h0]
  simp only [if_neg h1, h2, h3]
theorem chan_4 {nm one oth h d f g m : V} (h0 : [nm, one, oth].find? (fun v => !nameV v) = none) (h1 : one ≠ oth) (h2 : [(h, (1 : Int), (1000 : Int)), (d, 0, 1000), (f, 0, 1000000)].find? badN = none) (h3 : [(g, (0 : Int), (1000 : Int)), (m, intOf f, 1000000)].find? badN = none) :
    chanRef nm one oth h d f g m = none := by
  unfold chanRef
  rw [h0]
  simp only [if_neg h1, h2, h3]
theorem ok_Channel___init__ (T : Tx K mg) : FnOk P w K mg base (L2.CX P w) 4 T.a_Channel___init__ T.d_Channel___init__ ["self", "name", "one", "other", "hours", "depth", "first", "growth", "most"] (sp_Channel___init__ T) := by
  refine T.F_Channel___init__.okX sc_Channel___init__ (fun vs H Q E h => ?_) (fun cdv A outer s H vs Q E hr h => ?_)
  · obtain ⟨a, dx, nm, one, oth, h1, d1, f1, g1, m1, rfl, _⟩ := h
    rfl
  · refine ⟨_, (pss_cons (ps_expr (pe_callS (ok_need_names T) (hr.mono (by decide)) (by rfl) T.g_need_names T.F_need_names.kp T.b_need_names (fun σ => passAt (takes_of rfl rfl rfl rfl) σ) (pa_cons (pe_lst (pa_cons (pv 1) (pa_cons (pv 2) (pa_cons (pv 3) pa_nil)))) pa_nil)))
        (pss_cons (ps_if (pt_cmpR op_eq (pv 2) (pv 3) (nomark _))
        (pss_one (ps_raiseX rfl (takes_of rfl rfl rfl rfl) T.ox_Doubled T.ix_Doubled T.tx_Doubled (ok_Doubled___init__ T) (hr.mono (by decide)) T.b_Doubled___init__ rfl T.g_Doubled (pa_cons (pv 2) pa_nil)))
        pss_nil)
        (pss_cons (ps_expr (pe_callS (ok_need_numbers T) (hr.mono (by decide)) (by rfl) T.g_need_numbers T.F_need_numbers.kp T.b_need_numbers (fun σ => passAt (takes_of rfl rfl rfl rfl) σ) (pa_cons (pe_lst (pa_cons (pe_tup (pa_cons (pv 4) (pa_cons pe_int (pa_cons (C8.pe_gc rfl T.c_MOST_LENGTH) pa_nil)))) (pa_cons (pe_tup (pa_cons (pv 5) (pa_cons pe_int (pa_cons (C8.pe_gc rfl T.c_MOST_DEPTH) pa_nil)))) (pa_cons (pe_tup (pa_cons (pv 6) (pa_cons pe_int (pa_cons (C8.pe_gc rfl T.c_MOST_ICE) pa_nil)))) pa_nil)))) pa_nil)))
        (pss_cons (ps_expr (pe_callS (ok_need_numbers T) (hr.mono (by decide)) (by rfl) T.g_need_numbers T.F_need_numbers.kp T.b_need_numbers (fun σ => passAt (takes_of rfl rfl rfl rfl) σ) (pa_cons (pe_lst (pa_cons (pe_tup (pa_cons (pv 7) (pa_cons pe_int (pa_cons (C8.pe_gc rfl T.c_MOST_GROWTH) pa_nil)))) (pa_cons (pe_tup (pa_cons (pv 8) (pa_cons (pv 6) (pa_cons (C8.pe_gc rfl T.c_MOST_ICE) pa_nil)))) pa_nil))) pa_nil)))
        (pss_cons (ps_fldK (K := K) rfl (pv 0) (pv 1) rfl)
        (pss_cons (ps_fldK (K := K) rfl (pv 0) (pv 2) rfl)
        (pss_cons (ps_fldK (K := K) rfl (pv 0) (pv 3) rfl)
        (pss_cons (ps_fldK (K := K) rfl (pv 0) (pv 4) rfl)
        (pss_cons (ps_fldK (K := K) rfl (pv 0) (pv 5) rfl)
        (pss_cons (ps_fldK (K := K) rfl (pv 0) (pv 6) rfl)
        (pss_cons (ps_fldK (K := K) rfl (pv 0) (pv 7) rfl)
        (pss_one (ps_fldK (K := K) rfl (pv 0) (pv 8) rfl))))))))))))), ?_⟩
    obtain ⟨a, dx, nm, one, oth, h1, d1, f1, g1, m1, rfl, hA, hT, q0, q1, q2, q3⟩ := h
    walk_at "rd"
    refine rd_lstA (by simp) fun l H1 nl s1 el => ?_
    refine ⟨l, [nm, one, oth], rfl, sqL_of el, fun x hx => (hT x (by simp only [List.mem_cons, List.not_mem_nil, or_false] at hx; rcases hx with h | h | h <;> simp [h])).keep s1, by simp, fun hf H2 s2 => ?_, fun v hv d H2 s2 hd => q1 v (chan_0 hv) d H2 (s1.trans s2) hd⟩
    have n0 := List.find?_eq_none.mp hf
    obtain ⟨z0, rfl⟩ := name_str (v := nm) (by simpa using n0 nm (by simp))
    obtain ⟨z1, rfl⟩ := name_str (v := one) (by simpa using n0 one (by simp))
    obtain ⟨z2, rfl⟩ := name_str (v := oth) (by simpa using n0 oth (by simp))
    have s02 := s1.trans s2
    walk_at "rd"
    refine rd_iteD (fun he => ?_) (fun he => ?_)
    · walk_at "rd"
      refine rd_raise1 fun d hd => ?_
      exact q2 _ (chan_1 hf he) d _ (s02.trans (same_new hd)) upd_same
    · walk_at "rd"
      refine rd_tupA (by simp) fun t1 H3 n3 s3 e3 => ?_
      walk_at "rd"
      refine rd_tupA (by simp) fun t2 H4 n4 s4 e4 => ?_
      walk_at "rd"
      refine rd_tupA (by simp) fun t3 H5 n5 s5 e5 => ?_
      walk_at "rd"
      refine rd_lstA (by simp) fun l2 H6 n6 s6 e6 => ?_
      have s06 := (((s02.trans s3).trans s4).trans s5).trans s6
      refine ⟨l2, [(t1, h1, 1, 1000), (t2, d1, 0, 1000), (t3, f1, 0, 1000000)], rfl, sqL_of e6, fun r hr => ?_, by simp, fun hf2 H7 s7 => ?_, fun r hv d H7 s7 hd => q3 r.1 (chan_2 hf he hv) d H7 (s06.trans s7) hd⟩
      · simp only [List.mem_cons, List.not_mem_nil, or_false] at hr
        rcases hr with rfl | rfl | rfl
        · exact ⟨sqT_of (s6 _ _ (s5 _ _ (s4 _ _ e3))), (hT _ (by simp)).keep s06⟩
        · exact ⟨sqT_of (s6 _ _ (s5 _ _ e4)), (hT _ (by simp)).keep s06⟩
        · exact ⟨sqT_of (s6 _ _ e5), (hT _ (by simp)).keep s06⟩
      have hf2 : [(h1, (1 : Int), (1000 : Int)), (d1, 0, 1000), (f1, 0, 1000000)].find? badN = none := hf2
      have n2 := List.find?_eq_none.mp hf2
      obtain ⟨ih, rfl⟩ := in_int (v := h1) (lo := 1) (hi := 1000) (by simpa using n2 (h1, 1, 1000) (by simp))
      obtain ⟨id, rfl⟩ := in_int (v := d1) (lo := 0) (hi := 1000) (by simpa using n2 (d1, 0, 1000) (by simp))
      obtain ⟨iff, rfl⟩ := in_int (v := f1) (lo := 0) (hi := 1000000) (by simpa using n2 (f1, 0, 1000000) (by simp))
      have s07 := s06.trans s7
      walk_at "rd"
      refine rd_tupA (by simp) fun t4 H8 n8 s8 e8 => ?_
      walk_at "rd"
      refine rd_tupA (by simp) fun t5 H9 n9 s9 e9 => ?_
      walk_at "rd"
      refine rd_lstA (by simp) fun l3 Ha na sa ea => ?_
      have s0a := ((s07.trans s8).trans s9).trans sa
      refine ⟨l3, [(t4, g1, 0, 1000), (t5, m1, iff, 1000000)], rfl, sqL_of ea, fun r hr => ?_, by simp, fun hf3 Hb sb => ?_, fun r hv d Hb sb hd => q3 r.1 (chan_3 hf he hf2 hv) d Hb (s0a.trans sb) hd⟩
      · simp only [List.mem_cons, List.not_mem_nil, or_false] at hr
        rcases hr with rfl | rfl
        · exact ⟨sqT_of (sa _ _ (s9 _ _ e8)), (hT _ (by simp)).keep s0a⟩
        · exact ⟨sqT_of (sa _ _ e9), (hT _ (by simp)).keep s0a⟩
      have hf3 : [(g1, (0 : Int), (1000 : Int)), (m1, iff, 1000000)].find? badN = none := hf3
      have n3' := List.find?_eq_none.mp hf3
      obtain ⟨ig, rfl⟩ := in_int (v := g1) (lo := 0) (hi := 1000) (by simpa using n3' (g1, 0, 1000) (by simp))
      obtain ⟨im, rfl⟩ := in_int (v := m1) (lo := iff) (hi := 1000000) (by simpa using n3' (m1, iff, 1000000) (by simp))
      have s0b := s0a.trans sb
      have hA8 := s0b _ _ hA
      walk_at "rd"
      refine rd_fldSet hA8 T.cl_Channel T.n_Channel_name (of_decide_eq_true (by kernel_rfl)) ?_
      walk_at "rd"
      refine rd_fldSet upd_same T.cl_Channel T.n_Channel_one (of_decide_eq_true (by kernel_rfl)) ?_
      walk_at "rd"
      refine rd_fldSet upd_same T.cl_Channel T.n_Channel_other (of_decide_eq_true (by kernel_rfl)) ?_
      walk_at "rd"
      refine rd_fldSet upd_same T.cl_Channel T.n_Channel_hours (of_decide_eq_true (by kernel_rfl)) ?_
      walk_at "rd"
      refine rd_fldSet upd_same T.cl_Channel T.n_Channel_depth (of_decide_eq_true (by kernel_rfl)) ?_
      walk_at "rd"
      refine rd_fldSet upd_same T.cl_Channel T.n_Channel_first (of_decide_eq_true (by kernel_rfl)) ?_
      walk_at "rd"
      refine rd_fldSet upd_same T.cl_Channel T.n_Channel_growth (of_decide_eq_true (by kernel_rfl)) ?_
      walk_at "rd"
      refine rd_fldSet upd_same T.cl_Channel T.n_Channel_most (of_decide_eq_true (by kernel_rfl)) ?_
      walk_at "rd"
      refine q0 (chan_4 hf he hf2 hf3) ⟨z0, z1, z2, ih, id, iff, ig, im⟩ _ rfl ((Same.keepB s0b).put.put.put.put.put.put.put.put) ?_
      rw [upd_same]
      exact congrArg (fun fs => some (HO.ins T.a_Channel dx fs)) (ch_put ⟨z0, z1, z2, ih, id, iff, ig, im⟩)
def chNames (c : Ch) : Prop := nameS c.name = true ∧ nameS c.one = true ∧ nameS c.other = true ∧ c.one ≠ c.other
theorem make_same {H H' : Hp} {x dx : Addr} {o1 o2 : HO} (hx : H x = none) (hdx : H dx = none) (k : KeepB x (upd (upd H dx o1) x o2) H') : Same H H' := make_keep hx hdx k
theorem chan_ok {c : Ch} (h : chOk c) (n : chNames c) : chanRef (.str c.name) (.str c.one) (.str c.other) (.int c.hours) (.int c.depth) (.int c.first) (.int c.growth) (.int c.most) = none := by
  obtain ⟨n1, n2, n3, n4⟩ := n
  unfold chOk at h
  have w : ∀ {i lo hi : Int}, lo ≤ i → i ≤ hi → badN (.int i, lo, hi) = false := fun h1 h2 => by
    simp only [badN, withinV, decide_eq_true h1, decide_eq_true h2]
    rfl
  refine chan_4 ?_ (fun e => n4 (V.str.inj e)) ?_ ?_
  · simp only [List.find?_cons, List.find?_nil, nameV, n1, n2, n3, Bool.not_true]
  · simp only [List.find?_cons, List.find?_nil, w (show 1 ≤ c.hours by omega) (show c.hours ≤ 1000 by omega), w (show 0 ≤ c.depth by omega) (show c.depth ≤ 1000 by omega), w (show 0 ≤ c.first by omega) (show c.first ≤ 1000000 by omega)]
  · simp only [List.find?_cons, List.find?_nil, intOf, w (show 0 ≤ c.growth by omega) (show c.growth ≤ 1000 by omega), w (show c.first ≤ c.most by omega) (show c.most ≤ 1000000 by omega)]
theorem chV_inj {c d : Ch} (h : chV c = chV d) : d = c := by
  cases c
  cases d
  simp only [chV, List.cons.injEq, V.str.injEq, V.int.injEq, and_true] at h
  obtain ⟨rfl, rfl, rfl, rfl, rfl, rfl, rfl, rfl⟩ := h
  rfl
theorem rd_mkChan {Q : VK} {E : XK} {H : Hp} (T : Tx K mg) (c : Ch) (hok : chOk c) (hn : chNames c) (q : ∀ x H', Nn H x → Same H H' → ChanAt T H' x c → Q (.ref x) H') : MakeG T.a_Channel (sp_Channel___init__ T) Q E (chV c) H := by
  intro x dx hx hdx hne
  refine ⟨x, dx, _, _, _, _, _, _, _, _, rfl, upd_same, fun y hy => ?_, fun _ u H' hu k' h' => ?_, fun u hu => ?_, fun u hu => ?_, fun u hu => ?_⟩
  · have l : ∀ {z : Str}, nameS z = true → z.length ≤ 2000 := fun h => by
      unfold nameS at h
      have := of_decide_eq_true (Bool.and_eq_true_iff.mp h).1
      omega
    simp only [List.mem_cons, List.not_mem_nil, or_false] at hy
    rcases hy with rfl | rfl | rfl | rfl | rfl | rfl | rfl | rfl <;> first | exact l hn.1 | exact l hn.2.1 | exact l hn.2.2.1 | trivial
  · have e := chV_inj hu
    rw [e] at h'
    exact ⟨rfl, q x H' ⟨hx⟩ (make_same hx hdx k') ⟨dx, h'⟩⟩
  · rw [chan_ok hok hn] at hu
    cases hu
  · rw [chan_ok hok hn] at hu
    cases hu
  · rw [chan_ok hok hn] at hu
    cases hu
theorem cab_ok {d : Int} (h0 : 0 ≤ d) (h1 : d ≤ 1000) : chOk ⟨Str.ofString "c", Str.ofString "a", Str.ofString "b", 1, d, 0, 0, 0⟩ := by
  unfold chOk
  simp only []
  omega
theorem cab_n {d : Int} : chNames ⟨Str.ofString "c", Str.ofString "a", Str.ofString "b", 1, d, 0, 0, 0⟩ := ⟨show nameS (Str.ofString "c") = true by decide +kernel, show nameS (Str.ofString "a") = true by decide +kernel, show nameS (Str.ofString "b") = true by decide +kernel, show Str.ofString "a" ≠ Str.ofString "b" by decide +kernel⟩

def sp_Channel_row (T : Tx K mg) : Sp := fun vs H Q _ => ∃ a c, vs = [.ref a] ∧ ChanAt T H a c ∧ ∀ p H', H p = none → Same H H' → H' p = some (.tup (chV c)) → Q (.ref p) H'
theorem ok_Channel_row (T : Tx K mg) : FnOk P w K mg base CX0 1 T.a_Channel_row T.d_Channel_row ["self"] (sp_Channel_row T) := by
  refine T.F_Channel_row.ok sc_Channel_row (fun vs H Q E h => ?_) (fun cdv A outer s H vs Q E hr h => ?_)
  · obtain ⟨a, c, rfl, _⟩ := h
    rfl
  · refine ⟨_, (pss_one (ps_ret (pe_tup (pa_cons (pe_fldK (K := K) rfl (pv 0)) (pa_cons (pe_fldK (K := K) rfl (pv 0)) (pa_cons (pe_fldK (K := K) rfl (pv 0)) (pa_cons (pe_fldK (K := K) rfl (pv 0)) (pa_cons (pe_fldK (K := K) rfl (pv 0)) (pa_cons (pe_fldK (K := K) rfl (pv 0)) (pa_cons (pe_fldK (K := K) rfl (pv 0)) (pa_cons (pe_fldK (K := K) rfl (pv 0)) pa_nil))))))))))), ?_⟩
    obtain ⟨a, c, rfl, ⟨dx, hc⟩, q⟩ := h
    walk_at "rd"
    exact rd_tupA (by simp) q
theorem ve_setC (T : Tx K mg) (k : Nat) : SetC K (veC T k) := ⟨ve_cl T k, ve_n_name T k, ve_n_port T k, ve_n_hour T k, ve_n_strength T k, ve_n_draught T k⟩
def sp_Vessel_settle (K : PySem.W.Frag) : Sp := fun vs H Q _ => ∃ (C a dx : Addr) (v : Ve) (fs : List (Str × V)), vs = [.ref a, .str v.name, .str v.port, .int v.hour, .int v.strength, .int v.draught] ∧ H a = some (.ins C dx fs) ∧ SetC K C ∧ fs.length ≤ 100 ∧
  ∀ H', KeepB a H H' → H' a = some (.ins C dx (veBOn v fs)) → Q .non H'
theorem ok_Vessel_settle (T : Tx K mg) : FnOk P w K mg base CX0 1 T.a_Vessel_settle T.d_Vessel_settle ["self", "name", "port", "hour", "strength", "draught"] (sp_Vessel_settle K) := by
  refine T.F_Vessel_settle.ok sc_Vessel_settle (fun vs H Q E h => ?_) (fun cdv A outer s H vs Q E hr h => ?_)
  · obtain ⟨C, a, dx, v, fs, rfl, _⟩ := h
    rfl
  · refine ⟨_, (pss_cons (ps_fldK (K := K) rfl (pv 0) (pv 1) rfl)
        (pss_cons (ps_fldK (K := K) rfl (pv 0) (pv 2) rfl)
        (pss_cons (ps_fldK (K := K) rfl (pv 0) (pv 3) rfl)
        (pss_cons (ps_fldK (K := K) rfl (pv 0) (pv 4) rfl)
        (pss_one (ps_fldK (K := K) rfl (pv 0) (pv 5) rfl)))))), ?_⟩
    obtain ⟨C, a, dx, v, fs, rfl, hA, ⟨cl, n1, n2, n3, n4, n5⟩, hl, q⟩ := h
    have l1 := putF_le "name" (.str v.name) fs
    have l2 := putF_le "port" (.str v.port) (putF "name" (.str v.name) fs)
    have l3 := putF_le "hour" (.int v.hour) (putF "port" (.str v.port) (putF "name" (.str v.name) fs))
    have l4 := putF_le "strength" (.int v.strength) (putF "hour" (.int v.hour) (putF "port" (.str v.port) (putF "name" (.str v.name) fs)))
    walk_at "rd"
    refine rd_fldSet hA cl n1 (by omega) ?_
    walk_at "rd"
    refine rd_fldSet upd_same cl n2 (by omega) ?_
    walk_at "rd"
    refine rd_fldSet upd_same cl n3 (by omega) ?_
    walk_at "rd"
    refine rd_fldSet upd_same cl n4 (by omega) ?_
    walk_at "rd"
    refine rd_fldSet upd_same cl n5 (by omega) ?_
    walk_at "rd"
    exact q _ ((KeepB.refl a H).put.put.put.put.put) upd_same
def sp_Vessel___init__ (T : Tx K mg) : Sp := fun vs H Q E => ∃ (k : Nat) (a dx : Addr) (nm po ho st dr : V), vs = [.ref a, nm, po, ho, st, dr] ∧ H a = some (.ins (veC T k) dx []) ∧ (∀ x ∈ [nm, po, ho, st, dr], ThingAt K H x) ∧
  (veRef nm po ho st dr = none → ∀ (v : Ve) H', [nm, po, ho, st, dr] = [.str v.name, .str v.port, .int v.hour, .int v.strength, .int v.draught] → KeepB a H H' → H' a = some (.ins (veC T k) dx (veB v)) → Q .non H') ∧
  (∀ v, veRef nm po ho st dr = some (0, v) → ∀ d H', Same H H' → H' d = some (.xd [("found", v)]) → E (.ref T.a_NoName) (some d) H') ∧
  (∀ v, veRef nm po ho st dr = some (2, v) → ∀ d H', Same H H' → H' d = some (.xd [("found", v)]) → E (.ref T.a_NoNumber) (some d) H')
theorem ve_0 {nm po ho st dr v : V} (h0 : [nm, po].find? (fun v => !nameV v) = some v) : veRef nm po ho st dr = some (0, v) := by
  unfold veRef
  rw [h0]
theorem ve_2 {nm po ho st dr : V} {r : V × Int × Int} (h0 : [nm, po].find? (fun v => !nameV v) = none) (h2 : [(ho, (0 : Int), (1000000 : Int)), (st, 0, 1000000), (dr, 0, 1000)].find? badN = some r) : veRef nm po ho st dr = some (2, r.1) := by
  unfold veRef
  rw [h0]
  simp only [h2]
theorem ve_4 {nm po ho st dr : V} (h0 : [nm, po].find? (fun v => !nameV v) = none) (h2 : [(ho, (0 : Int), (1000000 : Int)), (st, 0, 1000000), (dr, 0, 1000)].find? badN = none) : veRef nm po ho st dr = none := by
  unfold veRef
  rw [h0]
  simp only [h2]
theorem ok_Vessel___init__ (T : Tx K mg) : FnOk P w K mg base (L2.CX P w) 4 T.a_Vessel___init__ T.d_Vessel___init__ ["self", "name", "port", "hour", "strength", "draught"] (sp_Vessel___init__ T) := by
  refine T.F_Vessel___init__.okX sc_Vessel___init__ (fun vs H Q E h => ?_) (fun cdv A outer s H vs Q E hr h => ?_)
  · obtain ⟨k, a, dx, nm, po, ho, st, dr, rfl, _⟩ := h
    rfl
  · refine ⟨_, (pss_cons (ps_expr (pe_callS (ok_need_names T) (hr.mono (by decide)) (by rfl) T.g_need_names T.F_need_names.kp T.b_need_names (fun σ => passAt (takes_of rfl rfl rfl rfl) σ) (pa_cons (pe_lst (pa_cons (pv 1) (pa_cons (pv 2) pa_nil))) pa_nil)))
        (pss_cons (ps_expr (pe_callS (ok_need_numbers T) (hr.mono (by decide)) (by rfl) T.g_need_numbers T.F_need_numbers.kp T.b_need_numbers (fun σ => passAt (takes_of rfl rfl rfl rfl) σ) (pa_cons (pe_lst (pa_cons (pe_tup (pa_cons (pv 3) (pa_cons pe_int (pa_cons (C8.pe_gc rfl T.c_MOST_HOUR) pa_nil)))) (pa_cons (pe_tup (pa_cons (pv 4) (pa_cons pe_int (pa_cons (C8.pe_gc rfl T.c_MOST_ICE) pa_nil)))) (pa_cons (pe_tup (pa_cons (pv 5) (pa_cons pe_int (pa_cons (C8.pe_gc rfl T.c_MOST_DEPTH) pa_nil)))) pa_nil)))) pa_nil)))
        (pss_one (ps_expr (pe_alt (pe_meth (pv 0) T.cl_Vessel T.me_Vessel_settle (ok_Vessel_settle T) (hr.mono (by decide)) T.b_Vessel_settle .nil pass0 (pa_cons (pv 1) (pa_cons (pv 2) (pa_cons (pv 3) (pa_cons (pv 4) (pa_cons (pv 5) pa_nil)))))) (pe_alt (pe_meth (pv 0) T.cl_Breaker T.me_Breaker_settle (ok_Vessel_settle T) (hr.mono (by decide)) T.b_Vessel_settle .nil pass0 (pa_cons (pv 1) (pa_cons (pv 2) (pa_cons (pv 3) (pa_cons (pv 4) (pa_cons (pv 5) pa_nil)))))) (pe_meth (pv 0) T.cl_Ship T.me_Ship_settle (ok_Vessel_settle T) (hr.mono (by decide)) T.b_Vessel_settle .nil pass0 (pa_cons (pv 1) (pa_cons (pv 2) (pa_cons (pv 3) (pa_cons (pv 4) (pa_cons (pv 5) pa_nil)))))))))))), ?_⟩
    obtain ⟨k, a, dx, nm, po, ho, st, dr, rfl, hA, hT, q0, q1, q2⟩ := h
    walk_at "rd"
    refine rd_lstA (by simp) fun l H1 nl s1 el => ?_
    refine ⟨l, [nm, po], rfl, sqL_of el, fun x hx => (hT x (by simp only [List.mem_cons, List.not_mem_nil, or_false] at hx; rcases hx with h | h <;> simp [h])).keep s1, by simp, fun hf H2 s2 => ?_, fun v hv d H2 s2 hd => q1 v (ve_0 hv) d H2 (s1.trans s2) hd⟩
    have n0 := List.find?_eq_none.mp hf
    obtain ⟨z0, rfl⟩ := name_str (v := nm) (by simpa using n0 nm (by simp))
    obtain ⟨z1, rfl⟩ := name_str (v := po) (by simpa using n0 po (by simp))
    have s02 := s1.trans s2
    walk_at "rd"
    refine rd_tupA (by simp) fun t1 H3 n3 s3 e3 => ?_
    walk_at "rd"
    refine rd_tupA (by simp) fun t2 H4 n4 s4 e4 => ?_
    walk_at "rd"
    refine rd_tupA (by simp) fun t3 H5 n5 s5 e5 => ?_
    walk_at "rd"
    refine rd_lstA (by simp) fun l2 H6 n6 s6 e6 => ?_
    have s06 := (((s02.trans s3).trans s4).trans s5).trans s6
    refine ⟨l2, [(t1, ho, 0, 1000000), (t2, st, 0, 1000000), (t3, dr, 0, 1000)], rfl, sqL_of e6, fun r hr => ?_, by simp, fun hf2 H7 s7 => ?_, fun r hv d H7 s7 hd => q2 r.1 (ve_2 hf hv) d H7 (s06.trans s7) hd⟩
    · simp only [List.mem_cons, List.not_mem_nil, or_false] at hr
      rcases hr with rfl | rfl | rfl
      · exact ⟨sqT_of (s6 _ _ (s5 _ _ (s4 _ _ e3))), (hT _ (by simp)).keep s06⟩
      · exact ⟨sqT_of (s6 _ _ (s5 _ _ e4)), (hT _ (by simp)).keep s06⟩
      · exact ⟨sqT_of (s6 _ _ e5), (hT _ (by simp)).keep s06⟩
    have hf2 : [(ho, (0 : Int), (1000000 : Int)), (st, 0, 1000000), (dr, 0, 1000)].find? badN = none := hf2
    have n2 := List.find?_eq_none.mp hf2
    obtain ⟨ih, rfl⟩ := in_int (v := ho) (lo := 0) (hi := 1000000) (by simpa using n2 (ho, 0, 1000000) (by simp))
    obtain ⟨is, rfl⟩ := in_int (v := st) (lo := 0) (hi := 1000000) (by simpa using n2 (st, 0, 1000000) (by simp))
    obtain ⟨id, rfl⟩ := in_int (v := dr) (lo := 0) (hi := 1000) (by simpa using n2 (dr, 0, 1000) (by simp))
    have s07 := s06.trans s7
    have hA7 := s07 _ _ hA
    walk_at "rd"
    match k, hA7, q0 with
    | 0, hA7, q0 =>
      have hA8 : H7 a = some (.ins T.a_Vessel dx []) := hA7
      refine rd_altL ?_
      walk_at "rd"
      refine ⟨T.a_Vessel, a, dx, ⟨0, z0, z1, z1, ih, is, id, 0⟩, [], rfl, hA8, ve_setC T 0, by decide, fun H8 k8 h8 => ?_⟩
      walk_at "rd"
      exact q0 (ve_4 hf hf2) ⟨0, z0, z1, z1, ih, is, id, 0⟩ H8 rfl (fun b o hb hne => k8 b o (s07 b o hb) hne) (h8.trans (congrArg (fun fs => some (HO.ins T.a_Vessel dx fs)) (ve_put ⟨0, z0, z1, z1, ih, is, id, 0⟩)))
    | 1, hA7, q0 =>
      have hA8 : H7 a = some (.ins T.a_Breaker dx []) := hA7
      refine rd_altR (rd_altL ?_)
      walk_at "rd"
      refine ⟨T.a_Breaker, a, dx, ⟨0, z0, z1, z1, ih, is, id, 0⟩, [], rfl, hA8, ve_setC T 1, by decide, fun H8 k8 h8 => ?_⟩
      walk_at "rd"
      exact q0 (ve_4 hf hf2) ⟨0, z0, z1, z1, ih, is, id, 0⟩ H8 rfl (fun b o hb hne => k8 b o (s07 b o hb) hne) (h8.trans (congrArg (fun fs => some (HO.ins T.a_Breaker dx fs)) (ve_put ⟨0, z0, z1, z1, ih, is, id, 0⟩)))
    | k + 2, hA7, q0 =>
      have hA8 : H7 a = some (.ins T.a_Ship dx []) := hA7
      refine rd_altR (rd_altR ?_)
      walk_at "rd"
      refine ⟨T.a_Ship, a, dx, ⟨0, z0, z1, z1, ih, is, id, 0⟩, [], rfl, hA8, ve_setC T 2, by decide, fun H8 k8 h8 => ?_⟩
      walk_at "rd"
      exact q0 (ve_4 hf hf2) ⟨0, z0, z1, z1, ih, is, id, 0⟩ H8 rfl (fun b o hb hne => k8 b o (s07 b o hb) hne) (h8.trans (congrArg (fun fs => some (HO.ins T.a_Ship dx fs)) (ve_put ⟨0, z0, z1, z1, ih, is, id, 0⟩)))
def sp_Vessel_kind (K : PySem.W.Frag) : Sp := fun vs H Q _ => ∃ a, vs = [.ref a] ∧ Q (.str (veKind 0)) H
theorem ok_Vessel_kind (T : Tx K mg) : FnOk P w K mg base CX0 1 T.a_Vessel_kind T.d_Vessel_kind ["self"] (sp_Vessel_kind K) := by
  refine T.F_Vessel_kind.ok sc_Vessel_kind (fun vs H Q E h => ?_) (fun cdv A outer s H vs Q E hr h => ?_)
  · obtain ⟨a, rfl, _⟩ := h
    rfl
  · refine ⟨_, (pss_one (ps_ret pe_str)), ?_⟩
    obtain ⟨a, rfl, q⟩ := h
    walk_at "rd"
    exact q
def sp_Vessel_thins (K : PySem.W.Frag) : Sp := fun vs H Q _ => ∃ a, vs = [.ref a] ∧ Q (.int 0) H
theorem ok_Vessel_thins (T : Tx K mg) : FnOk P w K mg base CX0 1 T.a_Vessel_thins T.d_Vessel_thins ["self"] (sp_Vessel_thins K) := by
  refine T.F_Vessel_thins.ok sc_Vessel_thins (fun vs H Q E h => ?_) (fun cdv A outer s H vs Q E hr h => ?_)
  · obtain ⟨a, rfl, _⟩ := h
    rfl
  · refine ⟨_, (pss_one (ps_ret pe_int)), ?_⟩
    obtain ⟨a, rfl, q⟩ := h
    walk_at "rd"
    exact q
/-- an instance with a draught -/
def DrAt (K : PySem.W.Frag) (H : Hp) (a : Addr) (d : Int) : Prop := ∃ C dx fs, H a = some (.ins C dx fs) ∧ Cls K C ∧ NoAttr K C "draught" ∧ fs.lookup ("draught" : Str) = some (.int d)
theorem VeAt.dr {T : Tx K mg} {H : Hp} {a : Addr} {v : Ve} (h : VeAt T H a v) : DrAt K H a v.draught := ⟨_, h.2.choose, _, h.2.choose_spec, ve_cl T _, ve_n_draught T _, vel_draught v⟩
def sp_Vessel_lets (T : Tx K mg) : Sp := fun vs H Q _ => ∃ a d b c, vs = [.ref a, .ref b] ∧ DrAt K H a d ∧ ChanAt T H b c ∧ Q (.bl (decide (d ≤ c.depth))) H
theorem ok_Vessel_lets (T : Tx K mg) : FnOk P w K mg base CX0 1 T.a_Vessel_lets T.d_Vessel_lets ["self", "channel"] (sp_Vessel_lets T) := by
  refine T.F_Vessel_lets.ok sc_Vessel_lets (fun vs H Q E h => ?_) (fun cdv A outer s H vs Q E hr h => ?_)
  · obtain ⟨a, d, b, c, rfl, _⟩ := h
    rfl
  · refine ⟨_, (pss_one (ps_ret (pe_cmpR op_le (pe_fldK (K := K) rfl (pv 0)) (pe_fldK (K := K) rfl (pv 1)) (nomark _)))), ?_⟩
    obtain ⟨a, d, b, c, rfl, ⟨C, dx, fs, hA, cl, na, lk⟩, ⟨dy, hB⟩, q⟩ := h
    walk_at "rd"
    refine rd_fldGet hA cl na lk ?_
    walk_at "rd"
    exact q
def sp_Vessel_row (T : Tx K mg) : Sp := fun vs H Q _ => ∃ a v, vs = [.ref a] ∧ VeAt T H a v ∧ ∀ p H', H p = none → Same H H' → H' p = some (.tup [.str v.name, .str v.port, .int v.hour, .int v.strength, .int v.draught]) → Q (.ref p) H'
theorem ok_Vessel_row (T : Tx K mg) : FnOk P w K mg base CX0 1 T.a_Vessel_row T.d_Vessel_row ["self"] (sp_Vessel_row T) := by
  refine T.F_Vessel_row.ok sc_Vessel_row (fun vs H Q E h => ?_) (fun cdv A outer s H vs Q E hr h => ?_)
  · obtain ⟨a, v, rfl, _⟩ := h
    rfl
  · refine ⟨_, (pss_one (ps_ret (pe_tup (pa_cons (pe_fldK (K := K) rfl (pv 0)) (pa_cons (pe_fldK (K := K) rfl (pv 0)) (pa_cons (pe_fldK (K := K) rfl (pv 0)) (pa_cons (pe_fldK (K := K) rfl (pv 0)) (pa_cons (pe_fldK (K := K) rfl (pv 0)) pa_nil)))))))), ?_⟩
    obtain ⟨a, v, rfl, ⟨hk, dx, hA⟩, q⟩ := h
    walk_at "rd"
    exact rd_tupA (by simp) q
theorem br_1 {nm po ho st dr cu : V} {r : Nat × V} (h : veRef nm po ho st dr = some r) : brRef nm po ho st dr cu = some r := by
  unfold brRef
  rw [h]
theorem br_2 {nm po ho st dr cu : V} (h : veRef nm po ho st dr = none) (h2 : badN (cu, 1, 1000000) = true) : brRef nm po ho st dr cu = some (2, cu) := by
  unfold brRef
  rw [h]
  exact if_pos h2
theorem br_4 {nm po ho st dr cu : V} (h : veRef nm po ho st dr = none) (h2 : badN (cu, 1, 1000000) = false) : brRef nm po ho st dr cu = none := by
  unfold brRef
  rw [h]
  exact if_neg (by rw [h2]; decide)
theorem br_put (v : Ve) : putF "cut" (.int v.cut) (veB v) = veB v ++ [(("cut" : Str), V.int v.cut)] := by kernel_rfl
theorem ThingAt.keepB {H H' : Hp} {v : V} {a : Addr} (h : ThingAt K H v) (hne : v ≠ .ref a) (k : KeepB a H H') : ThingAt K H' v := by
  cases v with
  | ref b =>
    have nb : ∀ {o}, H b = some o → H' b = some o := fun e => k b _ e fun z => hne (congrArg V.ref z)
    have ty : ∀ {t}, TyOf K H (.ref b) t → TyOf K H' (.ref b) t := fun h1 => by
      cases h1 with
      | lst e => exact .lst (nb e)
      | frz e => exact .frz (nb e)
      | tup e => exact .tup (nb e)
      | dK e => exact .dK (nb e)
      | dT e => exact .dT (nb e)
      | ins h a b c d m => exact .ins (nb h) a b c d m
    rcases h with ⟨t, h1, h2⟩ | ⟨C2, h1, h2⟩
    · exact .inl ⟨t, ty h1, h2⟩
    · exact .inr ⟨C2, ty h1, h2⟩
  | _ => exact h
def sp_Breaker___init__ (T : Tx K mg) : Sp := fun vs H Q E => ∃ (a dx : Addr) (nm po ho st dr cu : V), vs = [.ref a, nm, po, ho, st, dr, cu] ∧ H a = some (.ins T.a_Breaker dx []) ∧ (∀ x ∈ [nm, po, ho, st, dr, cu], ThingAt K H x) ∧ cu ≠ .ref a ∧
  (brRef nm po ho st dr cu = none → ∀ (v : Ve) H', v.kind = 1 → [nm, po, ho, st, dr, cu] = veV v → KeepB a H H' → VeAt T H' a v → Q .non H') ∧
  (∀ v, brRef nm po ho st dr cu = some (0, v) → ∀ d H', KeepB a H H' → H' d = some (.xd [("found", v)]) → E (.ref T.a_NoName) (some d) H') ∧
  (∀ v, brRef nm po ho st dr cu = some (2, v) → ∀ d H', KeepB a H H' → H' d = some (.xd [("found", v)]) → E (.ref T.a_NoNumber) (some d) H')
theorem ok_Breaker___init__ (T : Tx K mg) : FnOk P w K mg base (L2.CX P w) 5 T.a_Breaker___init__ T.d_Breaker___init__ ["self", "name", "port", "hour", "strength", "draught", "cut"] (sp_Breaker___init__ T) := by
  refine T.F_Breaker___init__.okX sc_Breaker___init__ (fun vs H Q E h => ?_) (fun cdv A outer s H vs Q E hr h => ?_)
  · obtain ⟨a, dx, nm, po, ho, st, dr, cu, rfl, _⟩ := h
    rfl
  · refine ⟨_, (pss_cons (ps_expr (pe_ccall rfl T.g_Vessel T.rd_Vessel T.ga_Vessel T.cm_Vessel___init__ (ok_Vessel___init__ T) (hr.mono (by decide)) T.F_Vessel___init__.kp T.b_Vessel___init__ (fun σ => passAt (takes_of rfl rfl rfl rfl) σ) (pa_cons (pv 0) (pa_cons (pv 1) (pa_cons (pv 2) (pa_cons (pv 3) (pa_cons (pv 4) (pa_cons (pv 5) pa_nil))))))))
        (pss_cons (ps_expr (pe_callS (ok_need_numbers T) (hr.mono (by decide)) (by rfl) T.g_need_numbers T.F_need_numbers.kp T.b_need_numbers (fun σ => passAt (takes_of rfl rfl rfl rfl) σ) (pa_cons (pe_lst (pa_cons (pe_tup (pa_cons (pv 6) (pa_cons pe_int (pa_cons (C8.pe_gc rfl T.c_MOST_ICE) pa_nil)))) pa_nil)) pa_nil)))
        (pss_one (ps_fldK (K := K) rfl (pv 0) (pv 6) rfl)))), ?_⟩
    obtain ⟨a, dx, nm, po, ho, st, dr, cu, rfl, hA, hT, hcu, q0, q1, q2⟩ := h
    walk_at "rd"
    refine ⟨1, a, dx, nm, po, ho, st, dr, rfl, hA, fun x hx => hT x (List.mem_append_left [cu] hx), fun hf v H1 hv k1 h1 => ?_, fun v hv d H1 s1 hd => q1 v (br_1 hv) d H1 (Same.keepB s1) hd, fun v hv d H1 s1 hd => q2 v (br_1 hv) d H1 (Same.keepB s1) hd⟩
    have tcu : ThingAt K H1 cu := (hT cu (by simp)).keepB hcu k1
    walk_at "rd"
    refine rd_tupA (by simp) fun t1 H2 n2 s2 e2 => ?_
    walk_at "rd"
    refine rd_lstA (by simp) fun l H3 n3 s3 e3 => ?_
    have s13 := s2.trans s3
    refine ⟨l, [(t1, cu, 1, 1000000)], rfl, sqL_of e3, fun r hr => ?_, by simp, fun hf2 H4 s4 => ?_, fun r hv2 d H4 s4 hd => ?_⟩
    · rw [List.mem_singleton.mp hr]
      exact ⟨sqT_of (s3 _ _ e2), tcu.keep s13⟩
    · have hb : badN (cu, 1, 1000000) = false := by
        have := List.find?_eq_none.mp hf2 (cu, 1, 1000000) (by simp)
        simpa using this
      obtain ⟨ic, rfl⟩ := in_int hb
      have h14 := (s13.trans s4) _ _ h1
      walk_at "rd"
      refine rd_fldSet h14 T.cl_Breaker T.n_Breaker_cut (of_decide_eq_true (by kernel_rfl)) ?_
      walk_at "rd"
      simp only [List.cons.injEq, and_true] at hv
      obtain ⟨rfl, rfl, rfl, rfl, rfl⟩ := hv
      refine q0 (br_4 hf hb) { v with kind := 1, cut := ic } _ rfl rfl (k1.trans (Same.keepB (s13.trans s4))).put ⟨show 1 < 3 by decide, dx, ?_⟩
      rw [upd_same]
      exact congrArg (fun fs => some (HO.ins T.a_Breaker dx fs)) (br_put { v with kind := 1, cut := ic })
    · have e : r = (cu, 1, 1000000) ∧ badN (cu, 1, 1000000) = true := by
        have h1 := List.mem_of_find?_eq_some hv2
        have h2 := List.find?_some hv2
        have h3 := List.mem_singleton.mp h1
        rw [h3] at h2
        exact ⟨h3, h2⟩
      rw [e.1] at hd
      exact q2 cu (br_2 hf e.2) d H4 (k1.trans (Same.keepB (s13.trans s4))) hd
def sp_Breaker_kind (K : PySem.W.Frag) : Sp := fun vs H Q _ => ∃ a, vs = [.ref a] ∧ Q (.str (veKind 1)) H
theorem ok_Breaker_kind (T : Tx K mg) : FnOk P w K mg base CX0 1 T.a_Breaker_kind T.d_Breaker_kind ["self"] (sp_Breaker_kind K) := by
  refine T.F_Breaker_kind.ok sc_Breaker_kind (fun vs H Q E h => ?_) (fun cdv A outer s H vs Q E hr h => ?_)
  · obtain ⟨a, rfl, _⟩ := h
    rfl
  · refine ⟨_, (pss_one (ps_ret pe_str)), ?_⟩
    obtain ⟨a, rfl, q⟩ := h
    walk_at "rd"
    exact q
def sp_Breaker_thins (T : Tx K mg) : Sp := fun vs H Q _ => ∃ a v, vs = [.ref a] ∧ VeAt T H a v ∧ v.kind = 1 ∧ Q (.int v.cut) H
theorem ok_Breaker_thins (T : Tx K mg) : FnOk P w K mg base CX0 1 T.a_Breaker_thins T.d_Breaker_thins ["self"] (sp_Breaker_thins T) := by
  refine T.F_Breaker_thins.ok sc_Breaker_thins (fun vs H Q E h => ?_) (fun cdv A outer s H vs Q E hr h => ?_)
  · obtain ⟨a, v, rfl, _⟩ := h
    rfl
  · refine ⟨_, (pss_one (ps_ret (pe_fldK (K := K) rfl (pv 0)))), ?_⟩
    obtain ⟨a, v, rfl, ⟨_, dx, hA⟩, hk, q⟩ := h
    have hA' : H a = some (.ins T.a_Breaker dx (veF v)) := by
      rw [hk] at hA
      exact hA
    walk_at "rd"
    exact q
def sp_Breaker_row (T : Tx K mg) : Sp := fun vs H Q _ => ∃ a v, vs = [.ref a] ∧ VeAt T H a v ∧ v.kind = 1 ∧ ∀ p H', H p = none → Same H H' → H' p = some (.tup (veV v)) → Q (.ref p) H'
theorem ok_Breaker_row (T : Tx K mg) : FnOk P w K mg base CX0 2 T.a_Breaker_row T.d_Breaker_row ["self"] (sp_Breaker_row T) := by
  refine T.F_Breaker_row.ok sc_Breaker_row (fun vs H Q E h => ?_) (fun cdv A outer s H vs Q E hr h => ?_)
  · obtain ⟨a, v, rfl, _⟩ := h
    rfl
  · refine ⟨_, (pss_one (ps_ret (pe_op (catAK (K := K) rfl) (pe_ccall (E := fun _ => E0) rfl T.g_Vessel T.rd_Vessel T.ga_Vessel T.cm_Vessel_row (ok_Vessel_row T) (hr.mono (by decide)) T.F_Vessel_row.kp T.b_Vessel_row (fun _ _ _ _ _ _ _ h => h.elim) (pa_cons (pv 0) pa_nil)) (pe_tup (pa_cons (pe_fldK (K := K) rfl (pv 0)) pa_nil))))), ?_⟩
    obtain ⟨a, v, rfl, ⟨hk3, dx, hA⟩, hk, q⟩ := h
    walk_at "rd"
    refine ⟨a, v, rfl, ⟨hk3, dx, hA⟩, fun t1 H1 n1 s1 e1 => ?_⟩
    have hA1 : H1 a = some (.ins T.a_Breaker dx (veF v)) := by
      have := s1 _ _ hA
      rw [hk] at this
      exact this
    walk_at "rd"
    refine rd_tupA (by simp) fun t2 H2 n2 s2 e2 => ?_
    refine rd_catA (sqT_of (s2 _ _ e1)) (sqT_of e2) (by simp) fun t3 H3 n3 s3 e3 => ?_
    refine q t3 H3 (none_same (s1.trans s2) n3) ((s1.trans s2).trans s3) ?_
    unfold veV
    rw [hk]
    exact e3
theorem sh_1 {nm po go ho st dr v : V} (h : [nm, po, go].find? (fun v => !nameV v) = some v) : shRef nm po go ho st dr = some (0, v) := by
  unfold shRef
  rw [h]
theorem sh_2 {nm po go ho st dr : V} (h : [nm, po, go].find? (fun v => !nameV v) = none) : shRef nm po go ho st dr = veRef nm po ho st dr := by
  unfold shRef
  rw [h]
theorem sh_put (v : Ve) : putF "goal" (.str v.goal) (veB v) = veB v ++ [(("goal" : Str), V.str v.goal)] := by kernel_rfl
def sp_Ship___init__ (T : Tx K mg) : Sp := fun vs H Q E => ∃ (a dx : Addr) (nm po go ho st dr : V), vs = [.ref a, nm, po, go, ho, st, dr] ∧ H a = some (.ins T.a_Ship dx []) ∧ (∀ x ∈ [nm, po, go, ho, st, dr], ThingAt K H x) ∧
  (shRef nm po go ho st dr = none → ∀ (v : Ve) H', v.kind = 2 → [nm, po, go, ho, st, dr] = veV v → KeepB a H H' → VeAt T H' a v → Q .non H') ∧
  (∀ v, shRef nm po go ho st dr = some (0, v) → ∀ d H', KeepB a H H' → H' d = some (.xd [("found", v)]) → E (.ref T.a_NoName) (some d) H') ∧
  (∀ v, shRef nm po go ho st dr = some (2, v) → ∀ d H', KeepB a H H' → H' d = some (.xd [("found", v)]) → E (.ref T.a_NoNumber) (some d) H')
theorem ok_Ship___init__ (T : Tx K mg) : FnOk P w K mg base (L2.CX P w) 5 T.a_Ship___init__ T.d_Ship___init__ ["self", "name", "port", "goal", "hour", "strength", "draught"] (sp_Ship___init__ T) := by
  refine T.F_Ship___init__.okX sc_Ship___init__ (fun vs H Q E h => ?_) (fun cdv A outer s H vs Q E hr h => ?_)
  · obtain ⟨a, dx, nm, po, go, ho, st, dr, rfl, _⟩ := h
    rfl
  · refine ⟨_, (pss_cons (ps_expr (pe_callS (ok_need_names T) (hr.mono (by decide)) (by rfl) T.g_need_names T.F_need_names.kp T.b_need_names (fun σ => passAt (takes_of rfl rfl rfl rfl) σ) (pa_cons (pe_lst (pa_cons (pv 1) (pa_cons (pv 2) (pa_cons (pv 3) pa_nil)))) pa_nil)))
        (pss_cons (ps_expr (pe_ccall rfl T.g_Vessel T.rd_Vessel T.ga_Vessel T.cm_Vessel___init__ (ok_Vessel___init__ T) (hr.mono (by decide)) T.F_Vessel___init__.kp T.b_Vessel___init__ (fun σ => passAt (takes_of rfl rfl rfl rfl) σ) (pa_cons (pv 0) (pa_cons (pv 1) (pa_cons (pv 2) (pa_cons (pv 4) (pa_cons (pv 5) (pa_cons (pv 6) pa_nil))))))))
        (pss_one (ps_fldK (K := K) rfl (pv 0) (pv 3) rfl)))), ?_⟩
    obtain ⟨a, dx, nm, po, go, ho, st, dr, rfl, hA, hT, q0, q1, q2⟩ := h
    walk_at "rd"
    refine rd_lstA (by simp) fun l H1 n1 s1 e1 => ?_
    refine ⟨l, [nm, po, go], rfl, sqL_of e1, fun x hx => (hT x (List.mem_append_left [ho, st, dr] hx)).keep s1, by simp, fun hf H2 s2 => ?_, fun v hv d H2 s2 hd => q1 v (sh_1 hv) d H2 (Same.keepB (s1.trans s2)) hd⟩
    have s02 := s1.trans s2
    have n0 := List.find?_eq_none.mp hf
    obtain ⟨zg, rfl⟩ := name_str (v := go) (by simpa using n0 go (by simp))
    walk_at "rd"
    refine ⟨2, a, dx, nm, po, ho, st, dr, rfl, s02 _ _ hA, fun x hx => (hT x ?_).keep s02, fun hf2 v H3 hv k3 h3 => ?_, fun v hv d H3 s3 hd => q1 v ((sh_2 hf).trans hv) d H3 (Same.keepB (s02.trans s3)) hd, fun v hv d H3 s3 hd => q2 v ((sh_2 hf).trans hv) d H3 (Same.keepB (s02.trans s3)) hd⟩
    · simp only [List.mem_cons, List.not_mem_nil, or_false] at hx
      rcases hx with h | h | h | h | h <;> simp [h]
    · walk_at "rd"
      refine rd_fldSet h3 T.cl_Ship T.n_Ship_goal (of_decide_eq_true (by kernel_rfl)) ?_
      walk_at "rd"
      simp only [List.cons.injEq, and_true] at hv
      obtain ⟨rfl, rfl, rfl, rfl, rfl⟩ := hv
      refine q0 ((sh_2 hf).trans hf2) { v with kind := 2, goal := zg } _ rfl rfl (KeepB.trans (Same.keepB s02) k3).put ⟨show 2 < 3 by decide, dx, ?_⟩
      rw [upd_same]
      exact congrArg (fun fs => some (HO.ins T.a_Ship dx fs)) (sh_put { v with kind := 2, goal := zg })

def sp_Ship_kind (K : PySem.W.Frag) : Sp := fun vs H Q _ => ∃ a, vs = [.ref a] ∧ Q (.str (veKind 2)) H
theorem ok_Ship_kind (T : Tx K mg) : FnOk P w K mg base CX0 1 T.a_Ship_kind T.d_Ship_kind ["self"] (sp_Ship_kind K) := by
  refine T.F_Ship_kind.ok sc_Ship_kind (fun vs H Q E h => ?_) (fun cdv A outer s H vs Q E hr h => ?_)
  · obtain ⟨a, rfl, _⟩ := h
    rfl
  · refine ⟨_, (pss_one (ps_ret pe_str)), ?_⟩
    obtain ⟨a, rfl, q⟩ := h
    walk_at "rd"
    exact q
def sp_Ship_row (T : Tx K mg) : Sp := fun vs H Q _ => ∃ a v, vs = [.ref a] ∧ VeAt T H a v ∧ v.kind = 2 ∧ ∀ p H', H p = none → Same H H' → H' p = some (.tup (veV v)) → Q (.ref p) H'
theorem ok_Ship_row (T : Tx K mg) : FnOk P w K mg base CX0 1 T.a_Ship_row T.d_Ship_row ["self"] (sp_Ship_row T) := by
  refine T.F_Ship_row.ok sc_Ship_row (fun vs H Q E h => ?_) (fun cdv A outer s H vs Q E hr h => ?_)
  · obtain ⟨a, v, rfl, _⟩ := h
    rfl
  · refine ⟨_, (pss_one (ps_ret (pe_tup (pa_cons (pe_fldK (K := K) rfl (pv 0)) (pa_cons (pe_fldK (K := K) rfl (pv 0)) (pa_cons (pe_fldK (K := K) rfl (pv 0)) (pa_cons (pe_fldK (K := K) rfl (pv 0)) (pa_cons (pe_fldK (K := K) rfl (pv 0)) (pa_cons (pe_fldK (K := K) rfl (pv 0)) pa_nil))))))))), ?_⟩
    obtain ⟨a, v, rfl, ⟨hk3, dx, hA⟩, hk, q⟩ := h
    have hA1 : H a = some (.ins T.a_Ship dx (veF v)) := by
      rw [hk] at hA
      exact hA
    walk_at "rd"
    refine rd_tupA (by simp) fun t1 H1 n1 s1 e1 => ?_
    refine q t1 H1 n1 s1 ?_
    unfold veV
    rw [hk]
    exact e1
/-- v.thins(), whatever its kind -/
theorem rd_thinsC {T : Tx K mg} {a : Addr} {v : Ve} {H : Hp} {Q : VK} {σ : L2.St} {i : Nat} (h : VeAt T H a v) (hi : σ[i]? = some (some (.ref a))) (q : Q (.int (veThins v)) H) :
    tAlt (tMeth T.a_Vessel "thins" (sp_Vessel_thins K) [] E0 (tVar i) tNil) (tAlt (tMeth T.a_Breaker "thins" (sp_Breaker_thins T) [] E0 (tVar i) tNil) (tMeth T.a_Ship "thins" (sp_Vessel_thins K) [] E0 (tVar i) tNil)) σ H Q := by
  refine rd_thins h (fun hk => ?_) (fun hk => ?_) (fun hk => ?_)
  · obtain ⟨_, h0⟩ := h.c0 hk
    refine ⟨_, hi, a, _, _, rfl, h0, ven_thins _, ⟨a, rfl, ?_⟩⟩
    rw [ve_th0 (by omega)] at q
    exact q
  · obtain ⟨_, h0⟩ := h.c1 hk
    refine ⟨_, hi, a, _, _, rfl, h0, ven_thins _, ⟨a, v, rfl, h, hk, ?_⟩⟩
    rw [ve_th1 hk] at q
    exact q
  · obtain ⟨_, h0⟩ := h.c2 hk
    refine ⟨_, hi, a, _, _, rfl, h0, ven_thins _, ⟨a, rfl, ?_⟩⟩
    rw [ve_th0 (by omega)] at q
    exact q
/-- what makes no train -/
def BadTr (T : Tx K mg) (H : Hp) (x : V) : Prop := isSeq K H x false ∨ ∃ p xs, x = .ref p ∧ isSeq K H x true ∧ SqA K H p xs ∧ (xs = [] ∨ 6 < xs.length ∨ ((∀ y ∈ xs, NoVe T H y ∨ ∃ b v, y = .ref b ∧ VeAt T H b v) ∧ ∃ y ∈ xs, NoVe T H y))
theorem VeAt.same {T : Tx K mg} {H H' : Hp} {a : Addr} {v : Ve} (h : VeAt T H a v) (s : Same H H') : VeAt T H' a v := ⟨h.1, h.2.elim fun dx e => ⟨dx, s _ _ e⟩⟩
theorem BadTr.keep {T : Tx K mg} {H H' : Hp} {x : V} (h : BadTr T H x) (s : Same H H') : BadTr T H' x := by
  rcases h with h | ⟨p, xs, e, h1, h2, h3⟩
  · exact .inl (h.keep s)
  · refine .inr ⟨p, xs, e, h1.keep s, h2.same s, h3.imp id fun h3 => h3.imp id fun ⟨h4, y, hy, h5⟩ => ⟨fun y hy => (h4 y hy).imp (fun z => z.keep s) fun ⟨b, v, e, z⟩ => ⟨b, v, e, z.same s⟩, y, hy, h5.keep s⟩⟩
theorem TrAt.dr {T : Tx K mg} {H : Hp} {a : Addr} {ws : List (Addr × Ve)} (h : TrAt T H a ws) : DrAt K H a (maxL ((ws.map (·.2)).map (·.draught))) := by
  obtain ⟨l, dx, h1, _⟩ := h
  exact ⟨_, dx, _, h1, T.cl_Train, T.n_Train_draught, trl_draught _ _⟩
def sp_Train___init__ (T : Tx K mg) : Sp := fun vs H Q E => ∃ (a dx : Addr) (x : V), vs = [.ref a, x] ∧ H a = some (.ins T.a_Train dx []) ∧
  ((∃ p ws, x = .ref p ∧ ((∃ xs, H p = some (.lst xs)) ∨ ∃ xs, H p = some (.tup xs)) ∧ SqA K H p (refsOf ws) ∧ 1 ≤ ws.length ∧ ws.length ≤ 6 ∧ VesAt T H ws ∧ ∀ H' l, H l = none → KeepB a H H' → TrAtL T H' a l ws → Q .non H') ∨
  (BadTr T H x ∧
    ∀ d H', KeepB a H H' → H' d = some (.xd [("found", x)]) → E (.ref T.a_NoKind) (some d) H'))
theorem ok_Train___init__ (T : Tx K mg) : FnOk P w K mg base (L2.CX P w) 3 T.a_Train___init__ T.d_Train___init__ ["self", "vessels"] (sp_Train___init__ T) := by
  refine T.F_Train___init__.okX sc_Train___init__ (fun vs H Q E h => ?_) (fun cdv A outer s H vs Q E hr h => ?_)
  · obtain ⟨a, dx, x, rfl, _⟩ := h
    rfl
  · refine ⟨_, (pss_cons (ps_if (PW.pt (pw_or (pt_not (pt_val (pe_callB (isiTK (K := K) rfl) (by rfl) T.m_isinstance (by decide +kernel) (pa_cons (pv 1) (pa_cons (pe_tup (pa_cons (pe_bltn (v := .ty "list") rfl T.m_list (by decide +kernel) rfl) (pa_cons (pe_bltn (v := .ty "tuple") rfl T.m_tuple (by decide +kernel) rfl) pa_nil))) pa_nil))))) (pw_or1 (pt_not (pt_chain op_le op_le pe_int (pe_callB (lenK (K := K) rfl) (by rfl) T.m_len (by decide +kernel) (pa_cons (pv 1) pa_nil)) (C8.pe_gc rfl T.c_MOST_IN_TRAIN))))))
        (pss_one (ps_raiseX rfl (takes_of rfl rfl rfl rfl) T.ox_NoKind T.ix_NoKind T.tx_NoKind (ok_NoKind___init__ T) (hr.mono (by decide)) T.b_NoKind___init__ rfl T.g_NoKind (pa_cons (pv 1) pa_nil)))
        pss_nil)
        (C8.pss_cut (ps_for (passes_of rfl) rfl (pi_seqK (K := K) rfl (pv 1)) (pg_name (i := 2) sc_Train___init__.nd rfl (Or.inl rfl))
        (pss_one (ps_if (PW.pt (pw_or (pt_not (pt_val (pe_callB (isiK (K := K) rfl) (by rfl) T.m_isinstance (by decide +kernel) (pa_cons (pv 2) (pa_cons (pe_glob (v := .ref T.a_Vessel) rfl T.g_Vessel rfl) pa_nil))))) (pw_or1 (pt_val (pe_callB (isiK (K := K) rfl) (by rfl) T.m_isinstance (by decide +kernel) (pa_cons (pv 2) (pa_cons (pe_glob (v := .ref T.a_Train) rfl T.g_Train rfl) pa_nil)))))))
        (pss_one (ps_raiseX rfl (takes_of rfl rfl rfl rfl) T.ox_NoKind T.ix_NoKind T.tx_NoKind (ok_NoKind___init__ T) (hr.mono (by decide)) T.b_NoKind___init__ rfl T.g_NoKind (pa_cons (pv 1) pa_nil)))
        pss_nil)))
        (pss_cons (ps_set (i := 3) sc_Train___init__.nd rfl (Or.inl rfl) pe_int)
        (pss_cons (ps_set (i := 4) sc_Train___init__.nd rfl (Or.inl rfl) (pe_lst pa_nil))
        (C8.pss_cut (ps_for (passes_of rfl) rfl (pi_seqK (K := K) rfl (pv 1)) (pg_name (i := 2) sc_Train___init__.nd rfl (Or.inl rfl))
        (pss_cons (ps_expr (pe_bm PySem.F.plainAttrs_list PySem.F.slot_list_append PySem.F.type_list_append mt_append (pv 4) (pa_cons (pe_op op_add (pe_fldK (K := K) rfl (pv 2)) (pv 3)) pa_nil)))
        (pss_one (ps_aug (i := 3) sc_Train___init__.nd rfl (Or.inl rfl) (pe_alt (pe_meth0 (pv 2) T.cl_Vessel T.me_Vessel_thins (ok_Vessel_thins T) (hr.mono (by decide)) T.b_Vessel_thins .nil pass0) (pe_alt (pe_meth0 (pv 2) T.cl_Breaker T.me_Breaker_thins (ok_Breaker_thins T) (hr.mono (by decide)) T.b_Breaker_thins .nil pass0) (pe_meth0 (pv 2) T.cl_Ship T.me_Ship_thins (ok_Vessel_thins T) (hr.mono (by decide)) T.b_Vessel_thins .nil pass0))) ip_add))))
        (pss_cons (ps_fldK (K := K) rfl (pv 0) (pe_callTy (listOfK (K := K) rfl) (by rfl) T.m_list (by decide +kernel) (pa_cons (pv 1) pa_nil)) rfl)
        (pss_cons (ps_fldK (K := K) rfl (pv 0) (pv 3) rfl)
        (pss_cons (ps_set (i := 5) sc_Train___init__.nd rfl (Or.inl rfl) (pe_callB (maxK (K := K) rfl rfl) (by rfl) T.m_max (by decide +kernel) (pa_cons (pe_lc (own := [("vessel", 2)]) (g := gName 2) (tt := tYes) rfl sc_Train___init__.nd (pi_seqK (K := K) rfl (pv 1)) (blkOk_by (own := [("vessel", 2)]) (N := N_Train___init__) (sc := defScope s_Train___init__) (by decide +kernel)) (fun _ _ _ _ _ => (pg_name (i := 2) sc_Train___init__.nd rfl (Or.inl rfl))) (fun _ _ _ _ _ => pts_nil) (fun _ _ _ _ _ => (pe_frm (pe_fldK (K := K) rfl (pv 2))))) pa_nil)))
        (pss_cons (ps_set (i := 6) sc_Train___init__.nd rfl (Or.inl rfl) (pe_callB (maxK (K := K) rfl rfl) (by rfl) T.m_max (by decide +kernel) (pa_cons (pe_lc (own := [("vessel", 2)]) (g := gName 2) (tt := tYes) rfl sc_Train___init__.nd (pi_seqK (K := K) rfl (pv 1)) (blkOk_by (own := [("vessel", 2)]) (N := N_Train___init__) (sc := defScope s_Train___init__) (by decide +kernel)) (fun _ _ _ _ _ => (pg_name (i := 2) sc_Train___init__.nd rfl (Or.inl rfl))) (fun _ _ _ _ _ => pts_nil) (fun _ _ _ _ _ => (pe_frm (pe_fldK (K := K) rfl (pv 2))))) pa_nil)))
        (pss_one (ps_expr (pe_meth (pv 0) T.cl_Train T.me_Train_settle (ok_Vessel_settle T) (hr.mono (by decide)) T.b_Vessel_settle .nil pass0 (pa_cons (pe_fldK (K := K) rfl (pe_ix (ixK (K := K) rfl) (pv 1) pe_int (fun _ _ => rfl))) (pa_cons (pe_fldK (K := K) rfl (pe_ix (ixK (K := K) rfl) (pv 1) pe_int (fun _ _ => rfl))) (pa_cons (pv 5) (pa_cons (pe_callB (minK (K := K) rfl rfl) (by rfl) T.m_min (by decide +kernel) (pa_cons (pv 4) pa_nil)) (pa_cons (pv 6) pa_nil))))))))))))))))), ?_⟩
    obtain ⟨a, dx, x, rfl, hA, h⟩ := h
    walk_at "rd"
    refine rd_tupB fun t1 H1 n_t1 s_H1 e_t1 => ?_ <;> walk_at "rd"
    rcases h with ⟨p, ws, rfl, hty, hS, l1, l6, hV, q⟩ | ⟨hb, q⟩
    · have hs : isSeq K H1 (.ref p) true := by
        rcases hty with ⟨xs, e⟩ | ⟨xs, e⟩
        · exact lst_seq (s_H1 _ _ e)
        · exact tup_seq (s_H1 _ _ e)
      have hS1 := hS.same s_H1
      have hlen : (refsOf ws).length = ws.length := by unfold refsOf; rw [List.length_map]
      refine rd_isiLT hs e_t1 ?_
      walk_at "rd"
      refine rd_lenA hS1 ?_
      rw [hlen]
      walk_at "rd"
      refine rd_iteD (fun c1 => ?_) (fun c1 => absurd (show (1 : Int) ≤ (ws.length : Int) by omega) c1)
      walk_at "rd"
      refine rd_iteD (fun c2 => ?_) (fun c2 => absurd (show (ws.length : Int) ≤ 6 by omega) c2)
      have hA1 := s_H1 _ _ hA
      have hV1 := hV.keep s_H1
      walk_at "rd"
      refine ⟨fun σ' H' => H' = H1 ∧ ∃ x2, σ' = [some (.ref a), some (.ref p), x2, none, none, none, none], ?_, ?_⟩
      · walk_at "rd"
        refine rd_iq hS1 fun J G w hG => ?_
        refine forgo w (fun i σ' H' => H' = H1 ∧ ∃ x2, σ' = [some (.ref a), some (.ref p), x2, none, none, none, none]) ⟨rfl, _, rfl⟩ (fun i σ' H' _ p => by rw [p.1]; exact hG _ fun o e => e) ?_ ?_
        · rintro i x σ' Ha Hb hi ⟨e1, x2, rfl⟩ ⟨e0, hx⟩
          subst e0
          subst e1
          obtain ⟨w, hw, rfl⟩ := refs_get hx
          have hw1 := hV1 w (List.mem_of_getElem? hw)
          walk_at "rd"
          refine rd_isiO (ve_ty T hw1) (ve_isV T _) ?_ <;> walk_at "rd"
          refine rd_isiO (ve_ty T hw1) (ve_isT T _) ?_ <;> walk_at "rd"
          exact ⟨rfl, _, rfl⟩
        · rintro σ' Ha ⟨e1, x2, rfl⟩
          subst e1
          walk_at "rd"
          exact ⟨rfl, _, rfl⟩
      · rintro σ' Ha ⟨e1, x2, rfl⟩
        subst e1
        walk_at "rd"
        refine rd_lstB fun l H2 n_l s_H2 e_l => ?_ <;> walk_at "rd"
        have npl : p ≠ l := by
          rcases hty with ⟨xs, e⟩ | ⟨xs, e⟩ <;> exact ne_of_none (s_H1 _ _ e) n_l.e
        have hV2 := hV1.keep s_H2
        have nil : ∀ C dx fs, H2 l ≠ some (.ins C dx fs) := fun C dx fs z => by
          rw [e_l] at z
          cases z
        walk_at "rd"
        refine ⟨fun σ' H' => KeepB l H2 H' ∧ H' l = some (.lst ((letsL 0 (ws.map (·.2))).map V.int)) ∧ ∃ x2, σ' = [some (.ref a), some (.ref p), x2, some (.int (thinL (ws.map (·.2)))), some (.ref l), none, none], ?_, ?_⟩
        · walk_at "rd"
          refine rd_iq (hS1.same s_H2) fun J G w hG => ?_
          refine forgo w (fun i σ' H' => KeepB l H2 H' ∧ H' l = some (.lst ((letsL 0 ((ws.take i).map (·.2))).map V.int)) ∧ ∃ x2, σ' = [some (.ref a), some (.ref p), x2, some (.int (thinL ((ws.take i).map (·.2)))), some (.ref l), none, none]) ⟨KeepB.refl _ _, e_l, _, rfl⟩ (fun i σ' H' _ q => hG _ fun o e => q.1 _ _ e npl) ?_ ?_
          · rintro i x σ' Ha Hb hi ⟨ka, hla, x2, rfl⟩ ⟨e0, hx⟩
            subst e0
            obtain ⟨⟨b, vv⟩, hw, rfl⟩ := refs_get hx
            have hv : VeAt T Hb b vv := hV2.kb ka nil _ (List.mem_of_getElem? hw)
            obtain ⟨_, dx2, hv0⟩ := id hv
            have hi' : i < ws.length := by rw [refs_len] at hi; exact hi
            walk_at "rd"
            refine rd_tyL (sqL_of hla) ?_
            walk_at "rd"
            refine rd_append hla (by rw [List.length_map, lets_len, List.length_map, List.length_take]; omega) ?_
            have hvv := hv.put (o := .lst ((letsL 0 ((ws.take i).map (·.2))).map V.int ++ [.int (vv.strength + thinL ((ws.take i).map (·.2)))])) hla
            have e2 := take_map (·.2) hw
            refine ⟨_, rfl, rd_thinsC hvv rfl ?_⟩
            walk_at "rd"
            refine ⟨ka.put, ?_, _, by rw [e2, thin_snoc]; rfl⟩
            rw [upd_same, e2, lets_snoc, List.map_append, Int.zero_add]
            rfl
          · rintro σ' Ha ⟨ka, hla, x2, rfl⟩
            walk_at "rd"
            rw [refs_len, List.take_length] at hla
            exact ⟨ka, hla, _, by rw [refs_len, List.take_length]⟩
        · rintro σ' Ha ⟨ka, hla, x2, rfl⟩
          have hV3 := hV2.kb ka nil
          have hS3 := hS1.keep fun o e => ka _ _ (s_H2 _ _ e) npl
          walk_at "rd"
          refine rd_listOf hS3 fun l2 H3 n_l2 s_H3 e_l2 => ?_
          have hA3 : H3 a = some (.ins T.a_Train dx []) := s_H3 _ _ (ka _ _ (s_H2 _ _ hA1) (ne_of_none hA1 n_l.e))
          have hla3 := s_H3 _ _ hla
          have hV4 := hV3.keep s_H3
          have hS4 := hS3.same s_H3
          walk_at "rd"
          refine rd_fldSet hA3 T.cl_Train T.n_Train_crew (by decide) ?_
          walk_at "rd"
          refine rd_fldSet upd_same T.cl_Train T.n_Train_thinned (of_decide_eq_true (by kernel_rfl)) ?_
          have hV5 : VesAt T (upd (upd H3 a (.ins T.a_Train dx (putF "crew" (.ref l2) []))) a (.ins T.a_Train dx (putF "thinned" (.int (thinL (ws.map (·.2)))) (putF "crew" (.ref l2) [])))) ws := fun u hu => by
            have z := (hV4 u hu).ne hA3
            obtain ⟨hk, dy, e⟩ := hV4 u hu
            exact ⟨hk, dy, by rw [upd_ne z, upd_ne z]; exact e⟩
          have k35 : KeepB a H3 (upd (upd H3 a (.ins T.a_Train dx (putF "crew" (.ref l2) []))) a (.ins T.a_Train dx (putF "thinned" (.int (thinL (ws.map (·.2)))) (putF "crew" (.ref l2) [])))) := (KeepB.refl a H3).put.put
          have hA5 : (upd (upd H3 a (.ins T.a_Train dx (putF "crew" (.ref l2) []))) a (.ins T.a_Train dx (putF "thinned" (.int (thinL (ws.map (·.2)))) (putF "crew" (.ref l2) [])))) a = some (.ins T.a_Train dx (putF "thinned" (.int (thinL (ws.map (·.2)))) (putF "crew" (.ref l2) []))) := upd_same
          generalize (upd (upd H3 a (.ins T.a_Train dx (putF "crew" (.ref l2) []))) a (.ins T.a_Train dx (putF "thinned" (.int (thinL (ws.map (·.2)))) (putF "crew" (.ref l2) [])))) = H5 at hV5 k35 hA5
          have npa : p ≠ a := by
            rcases hty with ⟨xs, e⟩ | ⟨xs, e⟩ <;> exact ne_of e hA nofun
          have hS5 : SqA K H5 p (refsOf ws) := hS4.keep fun o e => k35 _ _ e npa
          have e_l5 : H5 l = some (.lst ((letsL 0 (ws.map (·.2))).map V.int)) := k35 _ _ hla3 (ne_of hla3 hA3 nofun)
          have e_l25 : H5 l2 = some (.lst (refsOf ws)) := k35 _ _ e_l2 (ne_of e_l2 hA3 nofun)
          walk_at "rd"
          refine rd_iq hS5 fun J G w hG => ?_
          refine lcQ w (by omega) (fun H' s => hG _ fun o e => s _ _ e) (fun u => .int u.2.hour) (fun _ => rfl) (fun u hu Q' q' => ?_) fun D hD => ?_
          · obtain ⟨_, dy, e⟩ := hV5 u hu
            walk_at "rd"
            exact q'
          have s56 := same_new (o := .lst (ws.map fun u => .int u.2.hour)) hD
          have eD : (upd H5 D (.lst (ws.map fun u => .int u.2.hour))) D = some (.lst ((ws.map (·.2.hour)).map V.int)) := by rw [upd_same, List.map_map]; rfl
          generalize upd H5 D (.lst (ws.map fun u => .int u.2.hour)) = H6 at s56 eD
          have hV6 := hV5.keep s56
          have hS6 := hS5.same s56
          walk_at "rd"
          refine rd_maxL (sqL_of eD) (by rw [List.length_map]; omega) ?_
          walk_at "rd"
          refine rd_iq hS6 fun J G w hG => ?_
          refine lcQ w (by omega) (fun H' s => hG _ fun o e => s _ _ e) (fun u => .int u.2.draught) (fun _ => rfl) (fun u hu Q' q' => ?_) fun D2 hD2 => ?_
          · obtain ⟨_, dy, e⟩ := hV6 u hu
            walk_at "rd"
            exact q'
          have s67 := same_new (o := .lst (ws.map fun u => .int u.2.draught)) hD2
          have eD2 : (upd H6 D2 (.lst (ws.map fun u => .int u.2.draught))) D2 = some (.lst ((ws.map (·.2.draught)).map V.int)) := by rw [upd_same, List.map_map]; rfl
          generalize upd H6 D2 (.lst (ws.map fun u => .int u.2.draught)) = H7 at s67 eD2
          have hV7 := hV6.keep s67
          have hS7 := hS6.same s67
          have s57 := s56.trans s67
          have hA7 := s57 _ _ hA5
          have e_l7 := s57 _ _ e_l5
          have e_l27 := s57 _ _ e_l25
          walk_at "rd"
          refine rd_maxL (sqL_of eD2) (by rw [List.length_map]; omega) ?_
          obtain ⟨⟨b0, v0⟩, wr, rfl⟩ : ∃ u wr, ws = u :: wr := by
            cases ws with
            | nil => simp at l1
            | cons u r => exact ⟨u, r, rfl⟩
          obtain ⟨_, dy, e0⟩ := hV7 _ List.mem_cons_self
          have ati : atI (refsOf ((b0, v0) :: wr)) (0 : Int) = some (.ref b0) := by
            show atI (V.ref b0 :: refsOf wr) (0 : Int) = _
            exact atI0
          walk_at "rd"
          refine rd_ixA hS7 ati ?_
          walk_at "rd"
          refine rd_ixA hS7 ati ?_
          walk_at "rd"
          refine rd_minL (sqL_of e_l7) (by rw [lets_len, List.length_map]; omega) ?_
          walk_at "rd"
          refine ⟨T.a_Train, a, dx, ⟨0, v0.name, v0.port, v0.port, _, _, _, 0⟩, _, rfl, hA7, ⟨T.cl_Train, T.n_Train_name, T.n_Train_port, T.n_Train_hour, T.n_Train_strength, T.n_Train_draught⟩, of_decide_eq_true (by kernel_rfl), fun H8 k8 h8 => ?_⟩
          have sHa : Same H Ha := ka.same (s_H1.trans s_H2) (none_same s_H1 n_l.e)
          walk_at "rd"
          refine q H8 l2 (none_same sHa n_l2) (((Same.keepB (sHa.trans s_H3)).trans k35).trans ((Same.keepB s57).trans k8)) ⟨⟨dx, ?_⟩, k8 _ _ e_l27 (ne_of e_l2 hA3 nofun), fun u hu => ?_⟩
          · rw [h8]
            refine (congrArg (fun fs => some (HO.ins T.a_Train dx fs)) (tr_put l2 (((b0, v0) :: wr).map (·.2)))).symm.trans ?_ |>.symm
            rw [List.map_map, List.map_map]
            rfl
          · obtain ⟨hk, dz, e⟩ := hV7 u hu
            exact ⟨hk, dz, k8 _ _ e ((hV4 u hu).ne hA3)⟩
    · rcases hb with hb | ⟨p, xs, rfl, hsq, hS, hb⟩
      · refine rd_isiLT (hb.keep s_H1) e_t1 ?_
        walk_at "rd"
        refine rd_raise1 fun d hd => ?_
        exact q d _ (Same.keepB (s_H1.trans (same_new hd))) upd_same
      · have hS1 := hS.same s_H1
        refine rd_isiLT (hsq.keep s_H1) e_t1 ?_
        walk_at "rd"
        refine rd_lenA hS1 ?_
        walk_at "rd"
        refine rd_iteD (fun c1 => ?_) (fun c1 => ?_)
        · walk_at "rd"
          refine rd_iteD (fun c2 => ?_) (fun c2 => ?_)
          · obtain ⟨hi1, y0, hy0, hn0⟩ : (∀ y ∈ xs, NoVe T H y ∨ ∃ b v, y = .ref b ∧ VeAt T H b v) ∧ ∃ y ∈ xs, NoVe T H y := by
              rcases hb with rfl | h6 | h
              · exact absurd c1 (by decide)
              · omega
              · exact h
            walk_at "rd"
            refine ⟨fun _ _ => False, ?_, fun _ _ z => z.elim⟩
            walk_at "rd"
            refine rd_iq hS1 fun J G w hG => ?_
            refine forgo w (fun i σ' H' => H' = H1 ∧ (∀ y ∈ xs.take i, ∃ b v, y = V.ref b ∧ VeAt T H b v) ∧ ∃ x2, σ' = [some (.ref a), some (.ref p), x2, none, none, none, none]) ⟨rfl, (fun y hy => by simp at hy), _, rfl⟩ (fun i σ' H' _ p => by rw [p.1]; exact hG _ fun o e => e) ?_ ?_
            · rintro i x σ' Ha Hb hi ⟨e1, hgood, x2, rfl⟩ ⟨e0, hx⟩
              subst e0
              subst e1
              rcases hi1 x (List.mem_of_getElem? hx) with hn | ⟨b, v, rfl, hv⟩
              · rcases hn.keep s_H1 with ⟨t, ty, k⟩ | ⟨b, dy, fs, rfl, e⟩
                · walk_at "rd"
                  refine rd_isiO ty k ?_ <;> walk_at "rd"
                  refine rd_raise1 fun d hd => ?_
                  exact q d _ (Same.keepB (s_H1.trans (same_new hd))) upd_same
                · walk_at "rd"
                  refine rd_isiO (tr_ty T e) T.ki_Train_Vessel ?_ <;> walk_at "rd"
                  refine rd_isiO (tr_ty T e) T.ki_Train_Train ?_ <;> walk_at "rd"
                  refine rd_raise1 fun d hd => ?_
                  exact q d _ (Same.keepB (s_H1.trans (same_new hd))) upd_same
              · have hv1 := (show VesAt T H [(b, v)] from fun u hu => by rw [List.mem_singleton.mp hu]; exact hv).keep s_H1 _ List.mem_cons_self
                walk_at "rd"
                refine rd_isiO (ve_ty T hv1) (ve_isV T _) ?_ <;> walk_at "rd"
                refine rd_isiO (ve_ty T hv1) (ve_isT T _) ?_ <;> walk_at "rd"
                refine ⟨rfl, fun y hy => ?_, _, rfl⟩
                rw [List.take_add_one, hx] at hy
                rcases List.mem_append.mp hy with hy | hy
                · exact hgood y hy
                · rw [show y = V.ref b by simpa using hy]
                  exact ⟨b, v, rfl, hv⟩
            · rintro σ' Ha ⟨e1, hgood, x2, rfl⟩
              exfalso
              rw [List.take_length] at hgood
              obtain ⟨b, v, rfl, hv⟩ := hgood y0 hy0
              exact nove_ve hn0 hv
          · walk_at "rd"
            refine rd_raise1 fun d hd => ?_
            exact q d _ (Same.keepB (s_H1.trans (same_new hd))) upd_same
        · walk_at "rd"
          refine rd_raise1 fun d hd => ?_
          exact q d _ (Same.keepB (s_H1.trans (same_new hd))) upd_same
theorem rd_mkTrain {Q : VK} {E : XK} {H : Hp} (T : Tx K mg) {p : Addr} {ws : List (Addr × Ve)} (hty : (∃ xs, H p = some (.lst xs)) ∨ ∃ xs, H p = some (.tup xs)) (hS : SqA K H p (refsOf ws)) (h1 : 1 ≤ ws.length) (h6 : ws.length ≤ 6) (hV : VesAt T H ws)
    (q : ∀ x l H', Nn H x → Nn H l → Same H H' → TrAtL T H' x l ws → Q (.ref x) H') : MakeG T.a_Train (sp_Train___init__ T) Q E [.ref p] H := by
  intro x dx hx hdx hne
  have s0 : Same H (upd (upd H dx (.own x)) x (.ins T.a_Train dx [])) := make_same hx hdx (KeepB.refl _ _)
  refine ⟨x, dx, _, rfl, upd_same, .inl ⟨p, ws, rfl, hty.imp (fun ⟨xs, e⟩ => ⟨xs, s0 _ _ e⟩) (fun ⟨xs, e⟩ => ⟨xs, s0 _ _ e⟩), hS.same s0, h1, h6, hV.keep s0, fun H' l hl k h => ⟨rfl, q x l H' ⟨hx⟩ ⟨none_same s0 hl⟩ (make_same hx hdx k) h⟩⟩⟩

def sp_Train_kind (K : PySem.W.Frag) : Sp := fun vs H Q _ => ∃ a, vs = [.ref a] ∧ Q (.str (Str.ofString "train")) H
theorem ok_Train_kind (T : Tx K mg) : FnOk P w K mg base CX0 1 T.a_Train_kind T.d_Train_kind ["self"] (sp_Train_kind K) := by
  refine T.F_Train_kind.ok sc_Train_kind (fun vs H Q E h => ?_) (fun cdv A outer s H vs Q E hr h => ?_)
  · obtain ⟨a, rfl, _⟩ := h
    rfl
  · refine ⟨_, (pss_one (ps_ret pe_str)), ?_⟩
    obtain ⟨a, rfl, q⟩ := h
    walk_at "rd"
    exact q
def sp_Train_thins (T : Tx K mg) : Sp := fun vs H Q _ => ∃ a ws, vs = [.ref a] ∧ TrAt T H a ws ∧ Q (.int (thinL (ws.map (·.2)))) H
theorem ok_Train_thins (T : Tx K mg) : FnOk P w K mg base CX0 1 T.a_Train_thins T.d_Train_thins ["self"] (sp_Train_thins T) := by
  refine T.F_Train_thins.ok sc_Train_thins (fun vs H Q E h => ?_) (fun cdv A outer s H vs Q E hr h => ?_)
  · obtain ⟨a, ws, rfl, _⟩ := h
    rfl
  · refine ⟨_, (pss_one (ps_ret (pe_fldK (K := K) rfl (pv 0)))), ?_⟩
    obtain ⟨a, ws, rfl, ⟨l, dx, hA, _⟩, q⟩ := h
    walk_at "rd"
    exact q
def sp_Train_names (T : Tx K mg) : Sp := fun vs H Q _ => ∃ a ws, vs = [.ref a] ∧ TrAt T H a ws ∧ ws.length ≤ 1000 ∧ ∀ D H', Nn H D → Same H H' → H' D = some (.lst (ws.map fun w => .str w.2.name)) → Q (.ref D) H'
theorem ok_Train_names (T : Tx K mg) : FnOk P w K mg base CX0 1 T.a_Train_names T.d_Train_names ["self"] (sp_Train_names T) := by
  refine T.F_Train_names.ok sc_Train_names (fun vs H Q E h => ?_) (fun cdv A outer s H vs Q E hr h => ?_)
  · obtain ⟨a, ws, rfl, _⟩ := h
    rfl
  · refine ⟨_, (pss_one (ps_ret (pe_lc (own := [("vessel", 1)]) (g := gName 1) (tt := tYes) rfl sc_Train_names.nd (pi_listK (K := K) rfl (pe_fldK (K := K) rfl (pv 0))) (blkOk_by (own := [("vessel", 1)]) (N := N_Train_names) (sc := defScope s_Train_names) (by decide +kernel)) (fun _ _ _ _ _ => (pg_name (i := 1) sc_Train_names.nd rfl (Or.inl rfl))) (fun _ _ _ _ _ => pts_nil) (fun _ _ _ _ _ => (pe_frm (pe_fldK (K := K) rfl (pv 1))))))), ?_⟩
    obtain ⟨a, ws, rfl, ⟨l, dx, hA, hl, hV⟩, hlen, q⟩ := h
    walk_at "rd"
    refine rd_il (sqL_of hl) ?_
    refine lcQ walk_list (by omega) (fun H' s => (s.seq (sqL_of hl))) (fun u => .str u.2.name) (fun _ => rfl) (fun u hu Q' q' => ?_) fun D hD => ?_
    · obtain ⟨_, dy, e⟩ := hV u hu
      walk_at "rd"
      exact q'
    · exact q D _ ⟨hD⟩ (same_new hD) upd_same
/-- v.row(), whatever its kind -/
theorem rd_rowC {T : Tx K mg} {a : Addr} {v : Ve} {H : Hp} {Q : VK} {σ : L2.St} {i : Nat} (h : VeAt T H a v) (hi : σ[i]? = some (some (.ref a))) (q : ∀ t H', Nn H t → Same H H' → H' t = some (.tup (veV v)) → Q (.ref t) H') :
    tAlt (tMeth T.a_Vessel "row" (sp_Vessel_row T) [] E0 (tVar i) tNil) (tAlt (tMeth T.a_Breaker "row" (sp_Breaker_row T) [] E0 (tVar i) tNil) (tMeth T.a_Ship "row" (sp_Ship_row T) [] E0 (tVar i) tNil)) σ H Q := by
  refine rd_thins h (fun hk => ?_) (fun hk => ?_) (fun hk => ?_)
  · obtain ⟨_, h0⟩ := h.c0 hk
    exact ⟨_, hi, a, _, _, rfl, h0, ven_row _, ⟨a, v, rfl, h, fun t H' n s e => q t H' ⟨n⟩ s (by rw [veV_0 hk]; exact e)⟩⟩
  · obtain ⟨_, h0⟩ := h.c1 hk
    exact ⟨_, hi, a, _, _, rfl, h0, ven_row _, ⟨a, v, rfl, h, hk, fun t H' n s e => q t H' ⟨n⟩ s e⟩⟩
  · obtain ⟨_, h0⟩ := h.c2 hk
    exact ⟨_, hi, a, _, _, rfl, h0, ven_row _, ⟨a, v, rfl, h, hk, fun t H' n s e => q t H' ⟨n⟩ s e⟩⟩
/-- rows of vessels: the addresses of their tuples -/
def RowsOf (H : Hp) (ps : List V) (vs : List Ve) : Prop := ∃ ts : List Addr, ps = ts.map V.ref ∧ ts.length = vs.length ∧ ∀ (i : Nat) (t : Addr) (v : Ve), ts[i]? = some t → vs[i]? = some v → H t = some (.tup (veV v))
theorem RowsOf.nil {H : Hp} : RowsOf H [] [] := ⟨[], rfl, rfl, nofun⟩
theorem RowsOf.keep {H H' : Hp} {ps : List V} {vs : List Ve} (h : RowsOf H ps vs) (s : Same H H') : RowsOf H' ps vs := by
  obtain ⟨ts, e, l, h⟩ := h
  exact ⟨ts, e, l, fun i t v h1 h2 => s _ _ (h i t v h1 h2)⟩
theorem RowsOf.snoc {H : Hp} {ps : List V} {vs : List Ve} {t : Addr} {v : Ve} (h : RowsOf H ps vs) (e : H t = some (.tup (veV v))) : RowsOf H (ps ++ [.ref t]) (vs ++ [v]) := by
  obtain ⟨ts, rfl, l, h⟩ := h
  refine ⟨ts ++ [t], by rw [List.map_append]; rfl, by rw [List.length_append, List.length_append, l]; rfl, fun i u w h1 h2 => ?_⟩
  by_cases hi : i < ts.length
  · rw [List.getElem?_append_left hi] at h1
    rw [List.getElem?_append_left (by omega)] at h2
    exact h i u w h1 h2
  · rw [List.getElem?_append_right (by omega)] at h1
    rw [List.getElem?_append_right (by omega), ← l] at h2
    cases hj : i - ts.length with
    | zero =>
      rw [hj] at h1 h2
      cases h1
      cases h2
      exact e
    | succ j =>
      rw [hj] at h1
      cases h1
def sp_Train_row (T : Tx K mg) : Sp := fun vs H Q _ => ∃ a ws, vs = [.ref a] ∧ TrAt T H a ws ∧ ws.length ≤ 1000 ∧ ∀ t ps H', Nn H t → Same H H' → H' t = some (.tup ps) → RowsOf H' ps (ws.map (·.2)) → Q (.ref t) H'
theorem ok_Train_row (T : Tx K mg) : FnOk P w K mg base CX0 3 T.a_Train_row T.d_Train_row ["self"] (sp_Train_row T) := by
  refine T.F_Train_row.ok sc_Train_row (fun vs H Q E h => ?_) (fun cdv A outer s H vs Q E hr h => ?_)
  · obtain ⟨a, ws, rfl, _⟩ := h
    rfl
  · refine ⟨_, (pss_one (ps_ret (pe_callTy (tupOfK (K := K) rfl) (by rfl) T.m_tuple (by decide +kernel) (pa_cons (pe_lc (own := [("vessel", 1)]) (g := gName 1) (tt := tYes) rfl sc_Train_row.nd (pi_listK (K := K) rfl (pe_fldK (K := K) rfl (pv 0))) (blkOk_by (own := [("vessel", 1)]) (N := N_Train_row) (sc := defScope s_Train_row) (by decide +kernel)) (fun _ _ _ _ _ => (pg_name (i := 1) sc_Train_row.nd rfl (Or.inl rfl))) (fun _ _ _ _ _ => pts_nil) (fun _ _ _ _ _ => (pe_frm (pe_alt (pe_meth0 (pv 1) T.cl_Vessel T.me_Vessel_row (ok_Vessel_row T) (hr.mono (by decide)) T.b_Vessel_row .nil pass0) (pe_alt (pe_meth0 (pv 1) T.cl_Breaker T.me_Breaker_row (ok_Breaker_row T) (hr.mono (by decide)) T.b_Breaker_row .nil pass0) (pe_meth0 (pv 1) T.cl_Ship T.me_Ship_row (ok_Ship_row T) (hr.mono (by decide)) T.b_Ship_row .nil pass0)))))) pa_nil)))), ?_⟩
    obtain ⟨a, ws, rfl, ⟨l, dx, hA, hl, hV⟩, hlen, q⟩ := h
    walk_at "rd"
    refine rd_il (sqL_of hl) ?_
    refine lcQn walk_list (by omega) (fun H' s => (s.seq (sqL_of hl))) (fun acc us H' => RowsOf H' acc (us.map (·.2))) RowsOf.nil (fun _ => rfl) (fun i u acc H' Q' hu s hr q' => ?_) fun acc D H' s hD hla hr => ?_
    · obtain ⟨b, vv⟩ := u
      have hvv : VeAt T H' b vv := hV.keep s _ (List.mem_of_getElem? hu)
      refine rd_rowC hvv rfl fun t Hx _ sx e => q' _ _ sx ?_
      show RowsOf Hx (acc ++ [V.ref t]) ((ws.take (i + 1)).map (·.2))
      rw [take_map (·.2) hu]
      exact (hr.keep sx).snoc e
    · have sD := same_new (o := .lst acc) hD
      have eD : (upd H' D (.lst acc)) D = some (.lst acc) := upd_same
      generalize upd H' D (.lst acc) = H2 at sD eD
      walk_at "rd"
      refine rd_tupOf (sqL_of eD) fun t H3 n_t s_H3 e_t => ?_
      exact q t acc H3 ⟨none_same (s.trans sD) n_t⟩ ((s.trans sD).trans s_H3) e_t ((hr.keep sD).keep s_H3)
def sp_law_cell (K : PySem.W.Frag) : Sp := fun vs H Q _ => ∃ (l : Addr) (ns : List Int) (k : Nat), vs = [.ref l, .int (k : Int)] ∧ SqL K H l (ns.map V.int) ∧ ∀ z : Int, (z ∈ ns ∨ (0 ≤ z ∧ z ≤ 15485863 * (k : Int) + 1000)) → Q (.int z) H
theorem ok_law_cell (T : Tx K mg) : FnOk P w K mg base CX0 1 T.a_law_cell T.d_law_cell ["_law_script", "_law_k"] (sp_law_cell K) := by
  refine T.F_law_cell.ok sc_law_cell (fun vs H Q E h => ?_) (fun cdv A outer s H vs Q E hr h => ?_)
  · obtain ⟨l, ns, k, rfl, _⟩ := h
    rfl
  · refine ⟨_, (pss_cons (ps_if (pt_cmpR op_lt (pv 1) (pe_callB (lenK (K := K) rfl) (by rfl) T.m_len (by decide +kernel) (pa_cons (pv 0) pa_nil)) (nomark _))
        (pss_one (ps_ret (pe_ix (ixK (K := K) rfl) (pv 0) (pv 1) (fun _ _ => rfl))))
        pss_nil)
        (pss_one (ps_ret (pe_op op_add (pe_op op_mul pe_int (pv 1)) pe_int)))), ?_⟩
    obtain ⟨l, ns, k, rfl, hS, q⟩ := h
    walk_at "rd"
    refine rd_iteD (fun hc => ?_) (fun hc => ?_)
    · rw [List.length_map] at hc
      have hk : k < ns.length := by omega
      walk_at "rd"
      refine rd_ixL hS (atI_nat (j := k) (v := .int ns[k]) ?_) ?_
      · rw [List.getElem?_map, List.getElem?_eq_getElem hk]
        rfl
      · exact q _ (.inl (List.getElem_mem hk))
    · walk_at "rd"
      walk_at "rd"
      exact q _ (.inr ⟨by omega, by omega⟩)
theorem rd_law_cell {Q : VK} {E : XK} {H : Hp} {l : Addr} {ns : List Int} {j : Int} (q : ∀ z : Int, Q (.int z) H) (hS : SqL K H l (ns.map V.int) := by walk_at "sl") (hj : 0 ≤ j := by omega) : sp_law_cell K [.ref l, .int j] H Q E := ⟨l, ns, j.toNat, by rw [Int.toNat_of_nonneg hj], hS, fun z _ => q z⟩
def sp_law_box (K : PySem.W.Frag) : Sp := fun vs H Q _ => ∃ z : Int, vs = [.int z] ∧ ∀ (p : Addr) (H' : Hp), H p = none → Same H H' → BoxAt H' p 0 → Q (.ref p) H'
theorem ok_law_box (T : Tx K mg) : FnOk P w K mg base CX0 1 T.a_law_box T.d_law_box ["_law_cell_here"] (sp_law_box K) := by
  refine T.F_law_box.ok sc_law_box (fun vs H Q E h => ?_) (fun cdv A outer s H vs Q E hr h => ?_)
  · obtain ⟨z, rfl, _⟩ := h
    rfl
  · refine ⟨_, (pss_one (ps_ret (pe_lst (pa_cons (pe_callB (max2 rfl) (by rfl) T.m_max (by decide +kernel) (pa_cons pe_int (pa_cons (pe_op op_sub (pv 0) (pe_op op_pow pe_int pe_int)) pa_nil))) (pa_cons (pe_op op_mod (pv 0) pe_int) (pa_cons pe_int pa_nil)))))), ?_⟩
    obtain ⟨z, rfl, q⟩ := h
    walk_at "rd"
    refine rd_max2 fun m hm => ?_
    walk_at "rd"
    refine rd_I (by decide) ?_
    walk_at "rd"
    refine rd_lstA (by simp) fun p H1 hp s1 e1 => ?_
    refine q p _ hp s1 ⟨_, _, _, e1, ?_, ?_, ?_, Int.le_refl _, Int.le_refl _⟩
    · omega
    · exact Int.emod_nonneg _ (by decide)
    · exact Int.emod_lt_of_pos _ (by decide)
theorem rd_law_box {Q : VK} {E : XK} {H : Hp} {z : Int} (q : ∀ (p : Addr) (H' : Hp), Nn H p → Same H H' → BoxAt H' p 0 → Q (.ref p) H') : sp_law_box K [.int z] H Q E := ⟨z, rfl, fun p H' n => q p H' ⟨n⟩⟩

theorem box_one (b c : Int) (h1 : 0 ≤ b) (h2 : b < 2147483629) (h3 : 0 ≤ c) (h4 : c ≤ 1000001) : (b + 7919 * c + 101).natAbs < 2 ^ 64 := by omega
theorem box_two (o c : Int) (h1 : 0 ≤ o) (h2 : o < 2147483647) (h3 : 0 ≤ c) (h4 : c ≤ 1000001) : (o / 8 + 104729 * c * c + 3).natAbs < 2 ^ 64 := by
  have h5 : 104729 * c * c ≤ 104729 * 1000001 * 1000001 := Int.mul_le_mul (by omega) h4 h3 (by decide)
  have h6 : 0 ≤ 104729 * c * c := Int.mul_nonneg (by omega) h3
  have h7 : (104729 : Int) * 1000001 * 1000001 = 104729209458104729 := by decide
  omega
theorem pow5 (x : Int) : CPow x 5 ↔ x.natAbs < 2 ^ 64 := ⟨fun h => h.2.2, fun h => ⟨by decide, by decide, h⟩⟩
theorem pow3 (x : Int) : CPow x 3 ↔ x.natAbs < 2 ^ 64 := ⟨fun h => h.2.2, fun h => ⟨by decide, by decide, h⟩⟩
def sp_law_take (K : PySem.W.Frag) : Sp := fun vs H Q _ => ∃ (p : Addr) (m : Int) (n : Nat), vs = [.ref p, .int m] ∧ BoxAt H p n ∧ 0 < m ∧ m < 2 ^ 200 ∧ n ≤ 1000000 ∧ ∀ (r : Int) (H' : Hp), 0 ≤ r → r < m → BoxAt H' p (n + 1) → KeepB p H H' → Q (.int r) H'
theorem rd_take {K : PySem.W.Frag} {H : Hp} {Q : VK} {E : XK} {p : Addr} {m : Int} {n : Nat} (hB : BoxAt H p n) (hm : 0 < m) (hm2 : m < 2 ^ 200) (hn : n ≤ 1000000) (q : ∀ (r : Int) (H' : Hp), 0 ≤ r → r < m → BoxAt H' p (n + 1) → KeepB p H H' → Q (.int r) H') :
    sp_law_take K [.ref p, .int m] H Q E := ⟨p, m, n, rfl, hB, hm, hm2, hn, q⟩
theorem rd_takeB {K : PySem.W.Frag} {Q : VK} {E : XK} {H : Hp} {p : Addr} {m : Int} {n : Nat} (q : ∀ (r : Int) (H' : Hp), 0 ≤ r → r < m → BoxAt H' p (n + 1) → KeepB p H H' → Q (.int r) H') (hB : BoxAt H p n := by walk_at "bx") (hm : 0 < m := by walk_at "ar") (hm2 : m ≤ 10000000000000000000000000000000000000000 := by walk_at "ar") (hn : n ≤ 1000000 := by omega) :
    sp_law_take K [.ref p, .int m] H Q E := rd_take hB hm (Int.lt_of_le_of_lt hm2 (by decide)) hn q
theorem ok_law_take (T : Tx K mg) : FnOk P w K mg base CX0 1 T.a_law_take T.d_law_take ["_law_box_here", "_law_many"] (sp_law_take K) := by
  refine T.F_law_take.ok sc_law_take (fun vs H Q E h => ?_) (fun cdv A outer s H vs Q E hr h => ?_)
  · obtain ⟨p, m, n, rfl, _⟩ := h
    rfl
  · refine ⟨_, (pss_cons (ps_if (pt_cmpR op_gt (pe_ix (ixK (K := K) rfl) (pv 0) pe_int (fun _ _ => rfl)) pe_int (nomark _))
        (pss_cons (ps_set (i := 2) sc_law_take.nd rfl (Or.inl rfl) (pe_op op_mod (pe_ix (ixK (K := K) rfl) (pv 0) pe_int (fun _ _ => rfl)) (pv 1)))
        (pss_cons (ps_asg (pe_op op_fdivW (pe_ix (ixK (K := K) rfl) (pv 0) pe_int (fun _ _ => rfl)) (pv 1)) (pg_sub (pv 0) pe_int set_list))
        (pss_one (ps_ret (pv 2)))))
        pss_nil)
        (pss_cons (ps_asg (pe_op op_add (pe_ix (ixK (K := K) rfl) (pv 0) pe_int (fun _ _ => rfl)) pe_int) (pg_sub (pv 0) pe_int set_list))
        (pss_cons (ps_set (i := 3) sc_law_take.nd rfl (Or.inl rfl) (pe_op op_mod (pe_op op_pow (pe_op op_add (pe_op op_add (pe_ix (ixK (K := K) rfl) (pv 0) pe_int (fun _ _ => rfl)) (pe_op op_mul pe_int (pe_ix (ixK (K := K) rfl) (pv 0) pe_int (fun _ _ => rfl)))) pe_int) pe_int) pe_int))
        (pss_cons (ps_set (i := 4) sc_law_take.nd rfl (Or.inl rfl) (pe_op op_mod (pe_op op_pow (pe_op op_add (pe_op op_add (pe_op op_fdivW (pv 3) pe_int) (pe_op op_mul (pe_op op_mul pe_int (pe_ix (ixK (K := K) rfl) (pv 0) pe_int (fun _ _ => rfl))) (pe_ix (ixK (K := K) rfl) (pv 0) pe_int (fun _ _ => rfl)))) pe_int) pe_int) pe_int))
        (pss_one (ps_ret (pe_op op_mod (pe_op op_add (pe_op op_fdivW (pv 3) pe_int) (pe_op op_mul pe_int (pe_op op_fdivW (pv 4) pe_int))) (pv 1)))))))), ?_⟩
    obtain ⟨p, m, n, rfl, ⟨a, b, c, hp, ha, hb, hb2, hc, hc2⟩, hm, hm2, hn, q⟩ := h
    walk_at "rd"
    refine rd_iteD (fun h0 => ?_) (fun h0 => ?_)
    · walk_at "rd"
      refine rd_I hm ?_
      walk_at "rd"
      refine rd_I ⟨hm, log2_small hm hm2⟩ ?_
      walk_at "rd"
      refine rd_setL hp (j := 0) rfl ?_
      walk_at "rd"
      refine q _ _ (Int.emod_nonneg _ (by omega)) (Int.emod_lt_of_pos _ hm) ⟨_, _, _, upd_same, Int.ediv_nonneg ha (by omega), hb, hb2, hc, by omega⟩ keepB_upd
    · walk_at "rd"
      refine rd_setL hp (j := 2) rfl ?_
      have hp2 : (upd H p (.lst ([V.int a, .int b, .int c].set 2 (.int (c + 1))))) p = some (.lst [V.int a, .int b, .int (c + 1)]) := upd_same
      have hk : KeepB p H (upd H p (.lst ([V.int a, .int b, .int c].set 2 (.int (c + 1))))) := keepB_upd
      generalize (upd H p (.lst ([V.int a, .int b, .int c].set 2 (.int (c + 1))))) = H2 at hp2 hk
      walk_at "rd"
      refine rd_I ((pow5 _).mpr (box_one _ _ hb hb2 (by omega) (by omega))) ?_
      walk_at "rd"
      refine rd_modA (by decide) fun one h1 h2 => ?_
      walk_at "rd"
      refine rd_I (.inr ⟨by omega, by omega⟩) ?_
      walk_at "rd"
      refine rd_I ((pow3 _).mpr (box_two _ _ h1 h2 (by omega) (by omega))) ?_
      walk_at "rd"
      refine rd_modA (by decide) fun other h3 h4 => ?_
      walk_at "rd"
      refine rd_modA hm fun r h5 h6 => ?_
      walk_at "rd"
      exact q r H2 h5 h6 ⟨_, _, _, hp2, ha, hb, hb2, by omega, by omega⟩ hk
def sp_law_names (K : PySem.W.Frag) : Sp := fun vs H Q _ => ∃ (p : Addr) (n m : Nat), vs = [.ref p, .int (m : Int)] ∧ BoxAt H p n ∧ n ≤ 10000 ∧ m ≤ 26 ∧
  ∀ (l : Addr) (ys : List Str) H', BoxAt H' p (n + 20) → KeepB p H H' → H' l = some (.lst (ys.map V.str)) → ys.length = m → (∀ y ∈ ys, nameS y = true) → ys.Nodup → Q (.ref l) H'
theorem ok_law_names (T : Tx K mg) : FnOk P w K mg base CX0 2 T.a_law_names T.d_law_names ["_law_box_here", "_law_many"] (sp_law_names K) := by
  refine T.F_law_names.ok sc_law_names (fun vs H Q E h => ?_) (fun cdv A outer s H vs Q E hr h => ?_)
  · obtain ⟨p, n, m, rfl, _⟩ := h
    rfl
  · refine ⟨_, (pss_cons (ps_set (i := 2) sc_law_names.nd rfl (Or.inr rfl) pe_str)
        (pss_cons (ps_set (i := 3) sc_law_names.nd rfl (Or.inl rfl) (pe_call (ok_law_take T) (hr.mono (by decide)) (by rfl) T.g_law_take T.F_law_take.kp T.b_law_take .nil pass0 (pa_cons (pv 0) (pa_cons pe_int pa_nil))))
        (pss_cons (ps_set (i := 4) sc_law_names.nd rfl (Or.inr rfl) (pe_call (ok_law_take T) (hr.mono (by decide)) (by rfl) T.g_law_take T.F_law_take.kp T.b_law_take .nil pass0 (pa_cons (pv 0) (pa_cons pe_int pa_nil))))
        (pss_cons (ps_set (i := 5) sc_law_names.nd rfl (Or.inr rfl) (pe_ix (ixLK (K := K) rfl) (pe_lst (pa_cons pe_int (pa_cons pe_int (pa_cons pe_int (pa_cons pe_int (pa_cons pe_int (pa_cons pe_int pa_nil))))))) (pe_call (ok_law_take T) (hr.mono (by decide)) (by rfl) T.g_law_take T.F_law_take.kp T.b_law_take .nil pass0 (pa_cons (pv 0) (pa_cons pe_int pa_nil))) (fun _ _ => rfl)))
        (pss_cons (ps_set (i := 6) sc_law_names.nd rfl (Or.inr rfl) (pe_call (ok_law_take T) (hr.mono (by decide)) (by rfl) T.g_law_take T.F_law_take.kp T.b_law_take .nil pass0 (pa_cons (pv 0) (pa_cons pe_int pa_nil))))
        (pss_cons (ps_set (i := 7) sc_law_names.nd rfl (Or.inr rfl) (pe_op op_add (pv 6) (pe_call (ok_law_take T) (hr.mono (by decide)) (by rfl) T.g_law_take T.F_law_take.kp T.b_law_take .nil pass0 (pa_cons (pv 0) (pa_cons (pe_op op_sub pe_int (pv 6)) pa_nil)))))
        (pss_cons (ps_set (i := 8) sc_law_names.nd rfl (Or.inr rfl) (pe_joinK (K := K) rfl pe_str (pe_lc (own := [("_law_k", 9)]) (g := gName 9) (tt := tYes) rfl sc_law_names.nd (pi_range1 (by rfl) T.m_range (pa_cons pe_int pa_nil)) (blkOk_by (own := [("_law_k", 9)]) (N := N_law_names) (sc := defScope s_law_names) (by decide +kernel)) (fun _ _ _ _ _ => (pg_name (i := 9) sc_law_names.nd rfl (Or.inl rfl))) (fun _ _ _ _ _ => pts_nil) (fun _ _ _ _ _ => (pe_frm (pe_ix ix_str (pv 2) (pe_call (ok_law_take T) (hr.mono (by decide)) (by rfl) T.g_law_take T.F_law_take.kp T.b_law_take .nil pass0 (pa_cons (pv 0) (pa_cons pe_int pa_nil))) (fun _ _ => rfl)))))))
        (C8.pss_cut (ps_if (PW.pt (pw_and (pt_cmpR op_eq (pv 3) pe_int (nomark _)) (pw_and1 (pt_cmpR op_lt (pv 1) pe_int (nomark _)))))
        (pss_one (ps_ret (pe_lc (own := [("_law_k", 9)]) (g := gName 9) (tt := tYes) rfl sc_law_names.nd (pi_range1 (by rfl) T.m_range (pa_cons (pv 1) pa_nil)) (blkOk_by (own := [("_law_k", 9)]) (N := N_law_names) (sc := defScope s_law_names) (by decide +kernel)) (fun _ _ _ _ _ => (pg_name (i := 9) sc_law_names.nd rfl (Or.inl rfl))) (fun _ _ _ _ _ => pts_nil) (fun _ _ _ _ _ => (pe_frm (pe_slice sl_str (pe_op addS (pe_ix ix_str (pv 2) (pv 4) (fun _ _ => rfl)) (pv 8)) po_none (po_some (pe_op op_add pe_int (pe_op op_mod (pe_op op_add (pv 4) (pe_op op_mul pe_int (pv 9))) pe_int)))))))))
        pss_nil)
        (pss_one (ps_ret (pe_lc (own := [("_law_k", 9)]) (g := gName 9) (tt := tYes) rfl sc_law_names.nd (pi_range1 (by rfl) T.m_range (pa_cons (pv 1) pa_nil)) (blkOk_by (own := [("_law_k", 9)]) (N := N_law_names) (sc := defScope s_law_names) (by decide +kernel)) (fun _ _ _ _ _ => (pg_name (i := 9) sc_law_names.nd rfl (Or.inl rfl))) (fun _ _ _ _ _ => pts_nil) (fun _ _ _ _ _ => (pe_frm (pe_op addS (pe_op addS (pe_slice sl_str (pv 8) po_none (po_some (pv 6))) (pe_ix ix_str (pv 2) (pe_op op_mod (pe_op op_add (pv 4) (pe_op op_mul (pv 5) (pv 9))) pe_int) (fun _ _ => rfl))) (pe_slice sl_str (pv 8) (po_some (pv 6)) (po_some (pv 7))))))))))))))))), ?_⟩
    obtain ⟨p, n, m, rfl, hB, hn, hm, q⟩ := h
    walk_at "rd"
    refine rd_take hB (by decide) (by decide) (by omega) fun way H1 w0 w1 hB1 k1 => ?_
    walk_at "rd"
    refine rd_take hB1 (by decide) (by decide) (by omega) fun first H2 f0 f1 hB2 k2 => ?_
    walk_at "rd"
    refine rd_lstA (by simp) fun l2 H3 nl s3 el => ?_
    walk_at "rd"
    refine rd_take (hB2.keep s3) (by decide) (by decide) (by omega) fun r3 H4 r30 r31 hB4 k4 => ?_
    refine rd_ixAny1 (sqL_of (k4 _ _ el (hB2.ne nl))) r30 (by simpa using r31) fun v hv => ?_
    obtain ⟨step, rfl, hst⟩ : ∃ step : Int, v = .int step ∧ (step = 1 ∨ step = 3 ∨ step = 5 ∨ step = 7 ∨ step = 9 ∨ step = 11) := by
      simp only [List.mem_cons, List.not_mem_nil, or_false] at hv
      rcases hv with rfl | rfl | rfl | rfl | rfl | rfl <;> exact ⟨_, rfl, by omega⟩
    have k04 : KeepB p H H4 := ((k1.trans k2).trans (Same.keepB s3)).trans k4
    walk_at "rd"
    refine rd_take hB4 (by decide) (by decide) (by omega) fun at_ H5 a0 a1 hB5 k5 => ?_
    walk_at "rd"
    refine rd_take hB5 (by omega) (by omega) (by omega) fun r6 H6 r60 r61 hB6 k6 => ?_
    walk_at "rd"
    refine rd_r1 (by omega) (by omega) ?_
    have k06 : KeepB p H H6 := (k04.trans k5).trans k6
    refine lcgoF walk_range (by omega) (fun i x => True) (fun i H x H' _ _ y => ⟨y.1, trivial⟩) (fun _ => rfl) (fun i acc H' => BoxAt H' p (n + 5 + i) ∧ KeepB p H6 H' ∧ ∃ cs : List Nat, acc = (cs.map sg).map V.str ∧ ∀ c ∈ cs, isLet c = true) ⟨hB6, KeepB.refl p H6, [], rfl, fun _ h => nomatch h⟩ (fun _ _ _ _ _ _ _ => trivial) ?_ ?_
    · rintro i x acc Ha Qc hi hla ⟨hBa, ka, cs, rfl, hcs⟩ - hq
      walk_at "rd"
      refine rd_take hBa (by decide) (by decide) (by omega) fun r Hc r0 r1 hBc kc => ?_
      refine rd_ixSany (by decide +kernel) r0 (by rw [lett_len]; exact r1) fun c hc => ?_
      refine hq _ _ ⟨hBc, ka.trans kc, cs ++ [c], by rw [List.map_append, List.map_append]; rfl, fun y hy => ?_⟩
      rcases List.mem_append.mp hy with hy | hy
      · exact hcs y hy
      · rw [List.mem_singleton.mp hy, ← isLet_in]
        exact decide_eq_true hc
    rintro acc H7' D hla ⟨hB7, k7, cs, rfl, hcs⟩ hD
    have hB7 := hB7.new (o := .lst ((cs.map sg).map V.str)) (hB7.ne hD).symm
    have k7 : KeepB p H6 (upd H7' D (.lst ((cs.map sg).map V.str))) := k7.trans (Same.keepB (same_new hD))
    have hD7 : (upd H7' D (.lst ((cs.map sg).map V.str))) D = some (.lst ((cs.map sg).map V.str)) := upd_same
    generalize upd H7' D (.lst ((cs.map sg).map V.str)) = H7 at hB7 k7 hD7
    rw [List.length_map, List.length_map] at hla
    refine rd_join1 (sqL_of hD7) (fun y hy => ?_) (by rw [List.length_map]; omega) fun z hz hz2 => ?_
    · obtain ⟨c, _, rfl⟩ := List.mem_map.mp hy
      rfl
    have hzl : z.cps.toList = cs := by rw [hz, join_sg]
    have hzn : z.length = 7 := by rw [len_list, hzl, hla]; rfl
    walk_at "rd"
    have k07 := k06.trans k7
    have bn : n + 5 + (7 : Int).toNat ≤ n + 20 := by show n + 5 + 7 ≤ n + 20; omega
    obtain ⟨fn, rfl⟩ : ∃ fn : Nat, first = (fn : Int) := ⟨first.toNat, by omega⟩
    obtain ⟨an, rfl⟩ : ∃ an : Nat, at_ = (an : Int) := ⟨at_.toNat, by omega⟩
    obtain ⟨sn, hsn⟩ : ∃ sn : Nat, step = (sn : Int) := ⟨step.toNat, by omega⟩
    subst hsn
    obtain ⟨rn, rfl⟩ : ∃ rn : Nat, r6 = (rn : Int) := ⟨r6.toNat, by omega⟩
    refine ⟨fun σ' H' => σ' = [some (.ref p), some (.int m), some (.str (Str.ofString "abcdefghijklmnopqrstuvwxyz")), some (.int way), some (.int fn), some (.int sn), some (.int an), some (.int (an + rn)), some (.str z), none] ∧ H' = H7, ?_, ?_⟩
    · walk_at "rd"
      refine rd_iteD (fun h1 => ?_) (fun h1 => ?_)
      · walk_at "rd"
        refine rd_iteD (fun h2 => ?_) (fun h2 => ?_)
        · walk_at "rd"
          refine rd_r1 (by omega) (by omega) ?_
          have hfl : fn < 26 := by omega
          have c0 := lett_at hfl
          let f : Nat → Str := fun i => cutS (sg (97 + fn) ++ z) none (some (((1 + (fn + 3 * i) % 8 : Nat)) : Int))
          have fl : ∀ i, (f i).cps.toList = ((97 + fn) :: cs).take (1 + (fn + 3 * i) % 8) := fun i => by
            show (cutS (sg (97 + fn) ++ z) none (some (((1 + (fn + 3 * i) % 8 : Nat)) : Int))).cps.toList = _
            rw [cut_to, toList_app, hzl]
            rfl
          have fn' : ∀ i, (f i).cps.toList.length = 1 + (fn + 3 * i) % 8 := fun i => by
            rw [fl, List.length_take, List.length_cons, hla]
            show min (1 + (fn + 3 * i) % 8) (7 + 1) = _
            omega
          refine lcgo_rng (f := fun i => .str (f i)) (by omega) (fun _ => rfl) (fun i H' Q' hi q' => ?_) (fun D hD => ?_)
          · walk_at "rd"
            refine rd_ixS1 (by decide +kernel) c0 ?_
            walk_at "rd"
            refine rd_addS (a := sg (97 + fn)) (b := z) (by show 1 + z.length ≤ 100000; omega) ?_
            walk_at "rd"
            refine rd_I (show (0 : Int) < 8 by decide) ?_
            walk_at "rd"
            have e : (1 : Int) + ((fn : Int) + 3 * (i : Int)) % 8 = ((1 + (fn + 3 * i) % 8 : Nat) : Int) := by omega
            rw [e]
            refine rd_slS (small_sz (by rw [PySem.Str.length_append]; show 1 + z.length ≤ 100000; omega)) ?_
            exact q'
          · refine q D ((List.range m).map f) _ ((hB7.mono bn).new (hB7.ne hD).symm) (k07.trans (Same.keepB (same_new hD))) ?_ (by rw [List.length_map, List.length_range]) (fun y hy => ?_) (nodup_map fun i j hi hj hij e => ?_)
            · rw [upd_same, List.map_map, Int.toNat_natCast]
              rfl
            · obtain ⟨i, hi, rfl⟩ := List.mem_map.mp hy
              have := fn' i
              refine name_of (by omega) (by omega) fun c hc => ?_
              rw [fl] at hc
              rcases List.mem_cons.mp (List.mem_of_mem_take hc) with rfl | hc
              · exact isLet_at _ hfl
              · exact hcs c hc
            · have e1 := fn' i
              have e2 := fn' j
              rw [e] at e1
              omega
        · walk_at "rd"
          exact ⟨rfl, rfl⟩
      · walk_at "rd"
        exact ⟨rfl, rfl⟩
    · rintro σ' H' ⟨rfl, rfl⟩
      walk_at "rd"
      refine rd_r1 (by omega) (by omega) ?_
      let f : Nat → Str := fun i => (cutS z none (some (an : Int)) ++ sg (97 + (fn + sn * i) % 26)) ++ cutS z (some (an : Int)) (some ((an + rn : Nat) : Int))
      have fl : ∀ i, (f i).cps.toList = (cs.take an ++ [97 + (fn + sn * i) % 26]) ++ (cs.take (an + rn)).drop an := fun i => by
        show ((cutS z none (some (an : Int)) ++ sg (97 + (fn + sn * i) % 26)) ++ cutS z (some (an : Int)) (some ((an + rn : Nat) : Int))).cps.toList = _
        rw [toList_app, toList_app, cut_to, cut_ft, hzl]
        rfl
      have hla' : cs.length = 7 := hla
      have fn' : ∀ i, (f i).cps.toList.length = an + 1 + rn := fun i => by
        rw [fl, List.length_append, List.length_append, List.length_drop, List.length_take, List.length_take, hla']
        show min an 7 + 1 + (min (an + rn) 7 - an) = _
        omega
      refine lcgo_rng (f := fun i => .str (f i)) (by omega) (fun _ => rfl) (fun i H' Q' hi q' => ?_) (fun D hD => ?_)
      · walk_at "rd"
        refine rd_I (.inr ⟨by omega, by omega⟩) ?_
        walk_at "rd"
        refine rd_I (show (0 : Int) < 26 by decide) ?_
        have e : ((fn : Int) + (sn : Int) * (i : Int)) % 26 = (((fn + sn * i) % 26 : Nat) : Int) := by
          rw [Int.natCast_emod, Int.natCast_add, Int.natCast_mul]
          rfl
        rw [e]
        refine rd_ixS1 (by decide +kernel) (lett_at (Nat.mod_lt _ (by decide))) ?_
        have l1 := cutS_length z none (some (an : Int))
        have l2 := cutS_length z (some (an : Int)) (some ((an : Int) + (rn : Int)))
        refine rd_addS (a := cutS z none (some (an : Int))) (b := sg (97 + (fn + sn * i) % 26)) (by show (cutS z none (some (an : Int))).length + 1 ≤ 100000; omega) ?_
        walk_at "rd"
        refine rd_addS (a := cutS z none (some (an : Int)) ++ sg (97 + (fn + sn * i) % 26)) (by rw [PySem.Str.length_append]; show (cutS z none (some (an : Int))).length + 1 + (cutS z (some (an : Int)) (some ((an : Int) + (rn : Int)))).length ≤ 100000; omega) ?_
        exact q'
      · refine q D ((List.range m).map f) _ ((hB7.mono bn).new (hB7.ne hD).symm) (k07.trans (Same.keepB (same_new hD))) ?_ (by rw [List.length_map, List.length_range]) (fun y hy => ?_) (nodup_map fun i j hi hj hij e => ?_)
        · rw [upd_same, List.map_map, Int.toNat_natCast]
          rfl
        · obtain ⟨i, hi, rfl⟩ := List.mem_map.mp hy
          have := fn' i
          refine name_of (by omega) (by omega) fun c hc => ?_
          rw [fl] at hc
          rcases List.mem_append.mp hc with hc | hc
          · rcases List.mem_append.mp hc with hc | hc
            · exact hcs c (List.mem_of_mem_take hc)
            · rw [List.mem_singleton.mp hc]
              exact isLet_at _ (Nat.mod_lt _ (by decide))
          · exact hcs c (List.mem_of_mem_take (List.mem_of_mem_drop hc))
        · have e1 := fl i
          have e2 := fl j
          rw [e, e2, List.append_cancel_right_eq, List.append_cancel_left_eq] at e1
          have e3 : (fn + sn * j) % 26 = (fn + sn * i) % 26 := by
            have := List.head_eq_of_cons_eq e1
            omega
          have hst' : sn = 1 ∨ sn = 3 ∨ sn = 5 ∨ sn = 7 ∨ sn = 9 ∨ sn = 11 := by omega
          rcases hst' with rfl | rfl | rfl | rfl | rfl | rfl <;> omega
theorem names_ne {H : Hp} {l p : Addr} {n : Nat} {ys : List Str} (hB : BoxAt H p n) (hl : H l = some (.lst (ys.map V.str))) (h1 : 1 ≤ ys.length) : l ≠ p := fun e => by
  obtain ⟨b1, b2, b3, hp, _⟩ := hB
  rw [e, hp] at hl
  match ys, hl, h1 with
  | y :: r, hl, _ =>
    rw [List.map_cons] at hl
    cases hl
theorem rd_law_names {Q : VK} {E : XK} {H : Hp} {p : Addr} {n : Nat} {j : Int} (q : ∀ (l : Addr) (ys : List Str) (H' : Hp), BoxAt H' p (n + 20) → KeepB p H H' → H' l = some (.lst (ys.map V.str)) → l ≠ p → ys.length = j.toNat → (∀ y ∈ ys, nameS y = true) → ys.Nodup → Q (.ref l) H') (hB : BoxAt H p n := by walk_at "bx") (hn : n ≤ 10000 := by omega) (h1 : 1 ≤ j := by omega) (hm : j ≤ 26 := by omega) :
    sp_law_names K [.ref p, .int j] H Q E := ⟨p, n, j.toNat, by rw [Int.toNat_of_nonneg (by omega)], hB, hn, by omega, fun l ys H' b k e hl => q l ys H' b k e (names_ne b e (by omega)) hl⟩

def sp_law_number (K : PySem.W.Frag) : Sp := fun vs H Q _ => ∃ (p : Addr) (n : Nat) (lo hi : Int), vs = [.ref p, .int lo, .int hi] ∧ BoxAt H p n ∧ n ≤ 1000 ∧ 0 ≤ lo ∧ lo ≤ hi ∧ hi ≤ 1000000000000000000 ∧
  ∀ r H', lo ≤ r → r ≤ hi → BoxAt H' p (n + 2) → KeepB p H H' → Q (.int r) H'
theorem ok_law_number (T : Tx K mg) : FnOk P w K mg base CX0 2 T.a_law_number T.d_law_number ["_law_box_here", "_law_low", "_law_high"] (sp_law_number K) := by
  refine T.F_law_number.ok sc_law_number (fun vs H Q E h => ?_) (fun cdv A outer s H vs Q E hr h => ?_)
  · obtain ⟨p, n, lo, hi, rfl, _⟩ := h
    rfl
  · refine ⟨_, (pss_cons (ps_set (i := 3) sc_law_number.nd rfl (Or.inl rfl) (pe_call (ok_law_take T) (hr.mono (by decide)) (by rfl) T.g_law_take T.F_law_take.kp T.b_law_take .nil pass0 (pa_cons (pv 0) (pa_cons pe_int pa_nil))))
        (pss_cons (ps_if (pt_cmpR op_lt (pv 3) pe_int (nomark _))
        (pss_one (ps_ret (pe_ix (ixLK (K := K) rfl) (pe_lst (pa_cons (pv 1) (pa_cons (pv 2) pa_nil))) (pv 3) (fun _ _ => rfl))))
        pss_nil)
        (pss_one (ps_ret (pe_op op_add (pv 1) (pe_call (ok_law_take T) (hr.mono (by decide)) (by rfl) T.g_law_take T.F_law_take.kp T.b_law_take .nil pass0 (pa_cons (pv 0) (pa_cons (pe_ix (ixLK (K := K) rfl) (pe_lst (pa_cons (pe_callB (min2 rfl) (by rfl) T.m_min (by decide +kernel) (pa_cons pe_int (pa_cons (pe_op op_add (pe_op op_sub (pv 2) (pv 1)) pe_int) pa_nil))) (pa_cons (pe_op op_add (pe_op op_sub (pv 2) (pv 1)) pe_int) pa_nil))) (pe_op op_mod (pv 3) pe_int) (fun _ _ => rfl)) pa_nil)))))))), ?_⟩
    obtain ⟨p, n, lo, hi, rfl, hB, hn, h0, h1, h2, q⟩ := h
    walk_at "rd"
    refine rd_take hB (by decide) (by decide) (by omega) fun way H1 w0 w1 hB1 k1 => ?_
    walk_at "rd"
    refine rd_iteD (fun hw => ?_) (fun hw => ?_)
    · walk_at "rd"
      refine rd_lstA (by simp) fun l H2 nl s2 el => ?_
      walk_at "rd"
      refine rd_ixAny1 (sqL_of el) w0 (by simpa using hw) fun v hv => ?_
      obtain ⟨r, rfl, r0, r1⟩ : ∃ r : Int, v = .int r ∧ lo ≤ r ∧ r ≤ hi := by
        simp only [List.mem_cons, List.not_mem_nil, or_false] at hv
        rcases hv with rfl | rfl <;> exact ⟨_, rfl, by omega, by omega⟩
      exact q r _ r0 r1 ((hB1.keep s2).mono (by omega)) (k1.trans (Same.keepB s2))
    · walk_at "rd"
      refine rd_min2 fun m hm => ?_
      walk_at "rd"
      refine rd_lstA (by simp) fun l H2 nl s2 el => ?_
      walk_at "rd"
      refine rd_modA (by decide) fun r3 r30 r31 => ?_
      walk_at "rd"
      refine rd_ixAny1 (sqL_of el) r30 (by simpa using r31) fun v hv => ?_
      obtain ⟨r, rfl, r0, r1⟩ : ∃ r : Int, v = .int r ∧ 1 ≤ r ∧ r ≤ hi - lo + 1 := by
        simp only [List.mem_cons, List.not_mem_nil, or_false] at hv
        rcases hv with rfl | rfl <;> exact ⟨_, rfl, by omega, by omega⟩
      walk_at "rd"
      refine rd_take (hB1.keep s2) (by omega) (by omega) (by omega) fun x H3 x0 x1 hB3 k3 => ?_
      walk_at "rd"
      exact q _ _ (by omega) (by omega) (hB3.mono (by omega)) ((k1.trans (Same.keepB s2)).trans k3)
theorem rd_number {K : PySem.W.Frag} {Q : VK} {E : XK} {H : Hp} {p : Addr} {n : Nat} {lo hi : Int} (q : ∀ r H', lo ≤ r → r ≤ hi → BoxAt H' p (n + 2) → KeepB p H H' → Q (.int r) H') (hB : BoxAt H p n := by walk_at "bx") (hn : n ≤ 1000 := by omega) (h0 : 0 ≤ lo := by walk_at "ar") (h1 : lo ≤ hi := by walk_at "ar") (h2 : hi ≤ 1000000000000000000 := by walk_at "ar") :
    sp_law_number K [.ref p, .int lo, .int hi] H Q E := ⟨p, n, lo, hi, rfl, hB, hn, h0, h1, h2, q⟩

def sp_law_vessel_row (K : PySem.W.Frag) : Sp := fun vs H Q _ => ∃ (p l : Addr) (n k : Nat) (nm : Str) (ys : List Str), vs = [.ref p, .str (veKind k), .str nm, .ref l] ∧ k < 3 ∧ BoxAt H p n ∧ n ≤ 900 ∧ l ≠ p ∧ H l = some (.lst (ys.map V.str)) ∧ 1 ≤ ys.length ∧ ys.length ≤ 26 ∧
  ∀ (v : Ve) (t : Addr) H', v.kind = k → v.name = nm → v.port ∈ ys → v.goal ∈ ys → veOk v → BoxAt H' p (n + 10) → KeepB p H H' → H' t = some (.tup (veV v)) → Q (.ref t) H'
theorem ok_law_vessel_row (T : Tx K mg) : FnOk P w K mg base CX0 3 T.a_law_vessel_row T.d_law_vessel_row ["_law_box_here", "_law_kind", "_law_name", "_law_ports"] (sp_law_vessel_row K) := by
  refine T.F_law_vessel_row.ok sc_law_vessel_row (fun vs H Q E h => ?_) (fun cdv A outer s H vs Q E hr h => ?_)
  · obtain ⟨p, l, n, k, nm, ys, rfl, _⟩ := h
    rfl
  · refine ⟨_, (pss_cons (ps_set (i := 4) sc_law_vessel_row.nd rfl (Or.inl rfl) (pe_tup (pa_cons (pv 2) (pa_cons (pe_ix (ixLK (K := K) rfl) (pv 3) (pe_call (ok_law_take T) (hr.mono (by decide)) (by rfl) T.g_law_take T.F_law_take.kp T.b_law_take .nil pass0 (pa_cons (pv 0) (pa_cons (pe_callB (lenK (K := K) rfl) (by rfl) T.m_len (by decide +kernel) (pa_cons (pv 3) pa_nil)) pa_nil))) (fun _ _ => rfl)) pa_nil))))
        (pss_cons (ps_if (pt_cmpR op_eq (pv 1) pe_str (nomark _))
        (pss_one (ps_set (i := 4) sc_law_vessel_row.nd rfl (Or.inl rfl) (pe_op (catAK (K := K) rfl) (pv 4) (pe_tup (pa_cons (pe_ix (ixLK (K := K) rfl) (pv 3) (pe_call (ok_law_take T) (hr.mono (by decide)) (by rfl) T.g_law_take T.F_law_take.kp T.b_law_take .nil pass0 (pa_cons (pv 0) (pa_cons (pe_callB (lenK (K := K) rfl) (by rfl) T.m_len (by decide +kernel) (pa_cons (pv 3) pa_nil)) pa_nil))) (fun _ _ => rfl)) pa_nil)))))
        pss_nil)
        (pss_cons (ps_set (i := 5) sc_law_vessel_row.nd rfl (Or.inl rfl) (pe_tup (pa_cons (pe_call (ok_law_number T) (hr.mono (by decide)) (by rfl) T.g_law_number T.F_law_number.kp T.b_law_number .nil pass0 (pa_cons (pv 0) (pa_cons pe_int (pa_cons (pe_op op_pow pe_int pe_int) pa_nil)))) (pa_cons (pe_call (ok_law_number T) (hr.mono (by decide)) (by rfl) T.g_law_number T.F_law_number.kp T.b_law_number .nil pass0 (pa_cons (pv 0) (pa_cons pe_int (pa_cons (pe_op op_pow pe_int pe_int) pa_nil)))) (pa_cons (pe_call (ok_law_number T) (hr.mono (by decide)) (by rfl) T.g_law_number T.F_law_number.kp T.b_law_number .nil pass0 (pa_cons (pv 0) (pa_cons pe_int (pa_cons pe_int pa_nil)))) pa_nil)))))
        (pss_cons (ps_if (pt_cmpR op_eq (pv 1) pe_str (nomark _))
        (pss_one (ps_set (i := 5) sc_law_vessel_row.nd rfl (Or.inl rfl) (pe_op (catAK (K := K) rfl) (pv 5) (pe_tup (pa_cons (pe_call (ok_law_number T) (hr.mono (by decide)) (by rfl) T.g_law_number T.F_law_number.kp T.b_law_number .nil pass0 (pa_cons (pv 0) (pa_cons pe_int (pa_cons (pe_op op_pow pe_int pe_int) pa_nil)))) pa_nil)))))
        pss_nil)
        (pss_one (ps_ret (pe_op (catAK (K := K) rfl) (pv 4) (pv 5)))))))), ?_⟩
    obtain ⟨p, l, n, k, nm, ys, rfl, hk, hB, hn, npl, hl, hy1, hy2, q⟩ := h
    walk_at "rd"
    refine rd_takeB fun r1 H1 r1_0 r1_1 b_H1 k_H1 => ?_ <;> walk_at "rd"
    refine rd_ixAny1 (xs := ys.map V.str) (by walk_at "sl") (by omega) (by omega) fun v hv => ?_
    obtain ⟨po, rfl, hpo⟩ := mem_map_str hv
    walk_at "rd"
    refine rd_tupB fun t2 H2 n_t2 s_H2 e_t2 => ?_ <;> walk_at "rd"
    match k, hk with
    | 0, _ =>
      (first | refine My.iteTd (by decide +kernel) ?_ | refine My.iteFd (by decide +kernel) ?_) <;> walk_at "rd"
      refine rd_number (lo := 0) (hi := 1000000) fun h1 H3 h1_0 h1_1 b_H3 k_H3 => ?_ <;> walk_at "rd"
      refine rd_number (lo := 0) (hi := 1000000) fun h2 H4 h2_0 h2_1 b_H4 k_H4 => ?_ <;> walk_at "rd"
      refine rd_number (lo := 0) (hi := 1000) fun h3 H5 h3_0 h3_1 b_H5 k_H5 => ?_ <;> walk_at "rd"
      refine rd_tupB fun t6 H6 n_t6 s_H6 e_t6 => ?_ <;> walk_at "rd"
      (first | refine My.iteTd (by decide +kernel) ?_ | refine My.iteFd (by decide +kernel) ?_) <;> walk_at "rd"
      refine rd_catT fun t7 H7 n_t7 s_H7 e_t7 => ?_ <;> walk_at "rd"
      exact q ⟨0, nm, po, po, h1, h2, h3, 1⟩ t7 _ rfl rfl hpo hpo ⟨(by decide : 0 < 3), h1_0, h1_1, h2_0, h2_1, h3_0, h3_1, (show (1 : Int) ≤ 1 by decide), (show (1 : Int) ≤ 1000000 by decide)⟩ (by walk_at "bx") (by walk_at "kb") e_t7
    | 1, _ =>
      (first | refine My.iteTd (by decide +kernel) ?_ | refine My.iteFd (by decide +kernel) ?_) <;> walk_at "rd"
      refine rd_number (lo := 0) (hi := 1000000) fun h1 H3 h1_0 h1_1 b_H3 k_H3 => ?_ <;> walk_at "rd"
      refine rd_number (lo := 0) (hi := 1000000) fun h2 H4 h2_0 h2_1 b_H4 k_H4 => ?_ <;> walk_at "rd"
      refine rd_number (lo := 0) (hi := 1000) fun h3 H5 h3_0 h3_1 b_H5 k_H5 => ?_ <;> walk_at "rd"
      refine rd_tupB fun t6 H6 n_t6 s_H6 e_t6 => ?_ <;> walk_at "rd"
      (first | refine My.iteTd (by decide +kernel) ?_ | refine My.iteFd (by decide +kernel) ?_) <;> walk_at "rd"
      refine rd_number (lo := 1) (hi := 1000000) fun h4 H7 h4_0 h4_1 b_H7 k_H7 => ?_ <;> walk_at "rd"
      refine rd_tupB fun t8 H8 n_t8 s_H8 e_t8 => ?_ <;> walk_at "rd"
      refine rd_catT fun t9 H9 n_t9 s_H9 e_t9 => ?_ <;> walk_at "rd"
      refine rd_catT fun t10 H10 n_t10 s_H10 e_t10 => ?_ <;> walk_at "rd"
      exact q ⟨1, nm, po, po, h1, h2, h3, h4⟩ t10 _ rfl rfl hpo hpo ⟨(by decide : 1 < 3), h1_0, h1_1, h2_0, h2_1, h3_0, h3_1, h4_0, h4_1⟩ (by walk_at "bx") (by walk_at "kb") e_t10
    | 2, _ =>
      (first | refine My.iteTd (by decide +kernel) ?_ | refine My.iteFd (by decide +kernel) ?_) <;> walk_at "rd"
      refine rd_takeB fun r2 H3 r2_0 r2_1 b_H3 k_H3 => ?_ <;> walk_at "rd"
      refine rd_ixAny1 (xs := ys.map V.str) (by walk_at "sl") (by omega) (by omega) fun v hv => ?_
      obtain ⟨go, rfl, hgo⟩ := mem_map_str hv
      walk_at "rd"
      refine rd_tupB fun t4 H4 n_t4 s_H4 e_t4 => ?_ <;> walk_at "rd"
      refine rd_catT fun t5 H5 n_t5 s_H5 e_t5 => ?_ <;> walk_at "rd"
      refine rd_number (lo := 0) (hi := 1000000) fun h1 H6 h1_0 h1_1 b_H6 k_H6 => ?_ <;> walk_at "rd"
      refine rd_number (lo := 0) (hi := 1000000) fun h2 H7 h2_0 h2_1 b_H7 k_H7 => ?_ <;> walk_at "rd"
      refine rd_number (lo := 0) (hi := 1000) fun h3 H8 h3_0 h3_1 b_H8 k_H8 => ?_ <;> walk_at "rd"
      refine rd_tupB fun t9 H9 n_t9 s_H9 e_t9 => ?_ <;> walk_at "rd"
      (first | refine My.iteTd (by decide +kernel) ?_ | refine My.iteFd (by decide +kernel) ?_) <;> walk_at "rd"
      refine rd_catT fun t10 H10 n_t10 s_H10 e_t10 => ?_ <;> walk_at "rd"
      exact q ⟨2, nm, po, go, h1, h2, h3, 1⟩ t10 _ rfl rfl hpo hgo ⟨(by decide : 2 < 3), h1_0, h1_1, h2_0, h2_1, h3_0, h3_1, (show (1 : Int) ≤ 1 by decide), (show (1 : Int) ≤ 1000000 by decide)⟩ (by walk_at "bx") (by walk_at "kb") e_t10

theorem name_lenV {z : Str} (h : nameS z = true) : z.length ≤ 2000 := by
  unfold nameS at h
  have := of_decide_eq_true (Bool.and_eq_true_iff.mp h).1
  omega
theorem in_n {i lo hi : Int} (h0 : lo ≤ i) (h1 : i ≤ hi) : badN (.int i, lo, hi) = false := by
  simp only [badN, withinV, decide_eq_true h0, decide_eq_true h1]
  rfl
theorem ve_ok {v : Ve} (h : veOk v) (n : veNames v) : veRef (.str v.name) (.str v.port) (.int v.hour) (.int v.strength) (.int v.draught) = none := by
  obtain ⟨_, a0, a1, b0, b1, c0, c1, _, _⟩ := h
  obtain ⟨n1, n2, n3⟩ := n
  refine ve_4 ?_ ?_
  · simp only [List.find?_cons, List.find?_nil, nameV, n1, n2, Bool.not_true]
  · simp only [List.find?_cons, List.find?_nil, in_n a0 a1, in_n b0 b1, in_n c0 c1]
theorem veF_of {v u : Ve} (k : u.kind = v.kind) (h : veV v = veV u) (hk : v.kind < 3) : veF u = veF v := by
  match e : v.kind, hk with
  | 0, _ =>
    have e2 := k.trans e
    rw [veV_0 e, veV_0 e2] at h
    simp only [List.cons.injEq, V.str.injEq, V.int.injEq, and_true] at h
    unfold veF veB
    rw [e, e2, h.1, h.2.1, h.2.2.1, h.2.2.2.1, h.2.2.2.2]
    rfl
  | 1, _ =>
    have e2 := k.trans e
    rw [veV_1 e, veV_1 e2] at h
    simp only [List.cons.injEq, V.str.injEq, V.int.injEq, and_true] at h
    unfold veF veB
    rw [e, e2, h.1, h.2.1, h.2.2.1, h.2.2.2.1, h.2.2.2.2.1, h.2.2.2.2.2]
    rfl
  | 2, _ =>
    have e2 := k.trans e
    rw [veV_2 e, veV_2 e2] at h
    simp only [List.cons.injEq, V.str.injEq, V.int.injEq, and_true] at h
    unfold veF veB
    rw [e, e2, h.1, h.2.1, h.2.2.1, h.2.2.2.1, h.2.2.2.2.1, h.2.2.2.2.2]
    rfl
theorem VeAt.of {T : Tx K mg} {H : Hp} {a : Addr} {v u : Ve} (h : VeAt T H a u) (k : u.kind = v.kind) (e : veV v = veV u) : VeAt T H a v := by
  obtain ⟨hk, dx, h⟩ := h
  rw [k] at hk h
  exact ⟨hk, dx, by rw [← veF_of k e hk]; exact h⟩
local macro_rules | `(tactic| walk_at "at") => `(tactic| ((with_reducible refine My.VeAt.keep (H := ?hH) ?hs ?hh); (case hh => assumption); (case hs => walk_at "sm")))
def sp_law_vessel (T : Tx K mg) : Sp := fun vs H Q _ => ∃ (k : Nat) (t : Addr) (v : Ve), vs = [.str (veKind k), .ref t] ∧ v.kind = k ∧ k < 3 ∧ H t = some (.tup (veV v)) ∧ veOk v ∧ veNames v ∧ ∀ a H', Nn H a → Same H H' → VeAt T H' a v → Q (.ref a) H'
theorem ok_law_vessel (T : Tx K mg) : FnOk P w K mg base CX0 7 T.a_law_vessel T.d_law_vessel ["_law_kind", "_law_row"] (sp_law_vessel T) := by
  refine T.F_law_vessel.ok sc_law_vessel (fun vs H Q E h => ?_) (fun cdv A outer s H vs Q E hr h => ?_)
  · obtain ⟨k, t, v, rfl, _⟩ := h
    rfl
  · refine ⟨_, (pss_cons (ps_if (pt_cmpR op_eq (pv 0) pe_str (nomark _))
        (pss_one (ps_ret (pe_make T.mk_Ship (ok_Ship___init__ T) (hr.mono (by decide)) rfl T.g_Ship T.b_Ship___init__ .nil passX0 (pa_cons (pe_ix (ixTK (K := K) rfl) (pv 1) pe_int (fun _ _ => rfl)) (pa_cons (pe_ix (ixTK (K := K) rfl) (pv 1) pe_int (fun _ _ => rfl)) (pa_cons (pe_ix (ixTK (K := K) rfl) (pv 1) pe_int (fun _ _ => rfl)) (pa_cons (pe_ix (ixTK (K := K) rfl) (pv 1) pe_int (fun _ _ => rfl)) (pa_cons (pe_ix (ixTK (K := K) rfl) (pv 1) pe_int (fun _ _ => rfl)) (pa_cons (pe_ix (ixTK (K := K) rfl) (pv 1) pe_int (fun _ _ => rfl)) pa_nil)))))))))
        pss_nil)
        (pss_cons (ps_if (pt_cmpR op_eq (pv 0) pe_str (nomark _))
        (pss_one (ps_ret (pe_make T.mk_Breaker (ok_Breaker___init__ T) (hr.mono (by decide)) rfl T.g_Breaker T.b_Breaker___init__ .nil passX0 (pa_cons (pe_ix (ixTK (K := K) rfl) (pv 1) pe_int (fun _ _ => rfl)) (pa_cons (pe_ix (ixTK (K := K) rfl) (pv 1) pe_int (fun _ _ => rfl)) (pa_cons (pe_ix (ixTK (K := K) rfl) (pv 1) pe_int (fun _ _ => rfl)) (pa_cons (pe_ix (ixTK (K := K) rfl) (pv 1) pe_int (fun _ _ => rfl)) (pa_cons (pe_ix (ixTK (K := K) rfl) (pv 1) pe_int (fun _ _ => rfl)) (pa_cons (pe_ix (ixTK (K := K) rfl) (pv 1) pe_int (fun _ _ => rfl)) pa_nil)))))))))
        pss_nil)
        (pss_one (ps_ret (pe_make T.mk_Vessel (ok_Vessel___init__ T) (hr.mono (by decide)) rfl T.g_Vessel T.b_Vessel___init__ .nil passX0 (pa_cons (pe_ix (ixTK (K := K) rfl) (pv 1) pe_int (fun _ _ => rfl)) (pa_cons (pe_ix (ixTK (K := K) rfl) (pv 1) pe_int (fun _ _ => rfl)) (pa_cons (pe_ix (ixTK (K := K) rfl) (pv 1) pe_int (fun _ _ => rfl)) (pa_cons (pe_ix (ixTK (K := K) rfl) (pv 1) pe_int (fun _ _ => rfl)) (pa_cons (pe_ix (ixTK (K := K) rfl) (pv 1) pe_int (fun _ _ => rfl)) pa_nil)))))))))), ?_⟩
    obtain ⟨k, t, v, rfl, hk, hk3, ht, hok, hn, q⟩ := h
    have vok := ve_ok hok hn
    have l1 := name_lenV hn.1
    have l2 := name_lenV hn.2.1
    have l3 := name_lenV hn.2.2
    obtain ⟨o0, o1, o2, o3, o4, o5, o6, o7, o8⟩ := id hok
    walk_at "rd"
    match k, hk3 with
    | 0, _ =>
      have eV := veV_0 hk
      rw [eV] at ht
      (first | refine My.iteTd (by decide +kernel) ?_ | refine My.iteFd (by decide +kernel) ?_) <;> walk_at "rd"
      (first | refine My.iteTd (by decide +kernel) ?_ | refine My.iteFd (by decide +kernel) ?_) <;> walk_at "rd"
      intro x dx hx hdx hne
      refine ⟨0, x, dx, _, _, _, _, _, rfl, upd_same, fun y hy => ?_, fun _ u H' hu k' h' => ?_, fun u hu => ?_, fun u hu => ?_⟩
      · simp only [List.mem_cons, List.not_mem_nil, or_false] at hy
        rcases hy with rfl | rfl | rfl | rfl | rfl <;> first | assumption | trivial
      · have w : VeAt T H' x { u with kind := 0 } := ⟨(by decide : 0 < 3), dx, h'⟩
        exact ⟨rfl, q x H' ⟨hx⟩ (make_same hx hdx k') (w.of hk.symm (eV.trans hu))⟩
      · rw [vok] at hu
        cases hu
      · rw [vok] at hu
        cases hu
    | 1, _ =>
      have eV := veV_1 hk
      rw [eV] at ht
      (first | refine My.iteTd (by decide +kernel) ?_ | refine My.iteFd (by decide +kernel) ?_) <;> walk_at "rd"
      (first | refine My.iteTd (by decide +kernel) ?_ | refine My.iteFd (by decide +kernel) ?_) <;> walk_at "rd"
      intro x dx hx hdx hne
      have r0 : brRef (.str v.name) (.str v.port) (.int v.hour) (.int v.strength) (.int v.draught) (.int v.cut) = none := br_4 vok (in_n o7 o8)
      refine ⟨x, dx, _, _, _, _, _, _, rfl, upd_same, fun y hy => ?_, nofun, fun _ u H' hu hv k' h' => ?_, fun u hu => ?_, fun u hu => ?_⟩
      · simp only [List.mem_cons, List.not_mem_nil, or_false] at hy
        rcases hy with rfl | rfl | rfl | rfl | rfl | rfl <;> first | assumption | trivial
      · exact ⟨rfl, q x H' ⟨hx⟩ (make_same hx hdx k') (h'.of (hu.trans hk.symm) (eV.trans hv))⟩
      · rw [r0] at hu
        cases hu
      · rw [r0] at hu
        cases hu
    | 2, _ =>
      have eV := veV_2 hk
      rw [eV] at ht
      (first | refine My.iteTd (by decide +kernel) ?_ | refine My.iteFd (by decide +kernel) ?_) <;> walk_at "rd"
      intro x dx hx hdx hne
      have r0 : shRef (.str v.name) (.str v.port) (.str v.goal) (.int v.hour) (.int v.strength) (.int v.draught) = none := by
        refine (sh_2 ?_).trans vok
        simp only [List.find?_cons, List.find?_nil, nameV, hn.1, hn.2.1, hn.2.2, Bool.not_true]
      refine ⟨x, dx, _, _, _, _, _, _, rfl, upd_same, fun y hy => ?_, fun _ u H' hu hv k' h' => ?_, fun u hu => ?_, fun u hu => ?_⟩
      · simp only [List.mem_cons, List.not_mem_nil, or_false] at hy
        rcases hy with rfl | rfl | rfl | rfl | rfl | rfl <;> first | assumption | trivial
      · exact ⟨rfl, q x H' ⟨hx⟩ (make_same hx hdx k') (h'.of (hu.trans hk.symm) (eV.trans hv))⟩
      · rw [r0] at hu
        cases hu
      · rw [r0] at hu
        cases hu

def sp_law_all_let (T : Tx K mg) : Sp := fun vs H Q _ => ∃ p ws th, vs = [.ref p, .int th] ∧ H p = some (.lst (refsOf ws)) ∧ VesAt T H ws ∧ Q (.bl (letB th (ws.map (·.2)))) H
theorem ok_law_all_let (T : Tx K mg) : FnOk P w K mg base CX0 2 T.a_law_all_let T.d_law_all_let ["_law_vessels_here", "_law_thick"] (sp_law_all_let T) := by
  refine T.F_law_all_let.ok sc_law_all_let (fun vs H Q E h => ?_) (fun cdv A outer s H vs Q E hr h => ?_)
  · obtain ⟨p, ws, th, rfl, _⟩ := h
    rfl
  · refine ⟨_, (pss_cons (ps_for PassesOwn.never rfl (pi_listK (K := K) rfl (pv 0)) (pg_name (i := 2) sc_law_all_let.nd rfl (Or.inl rfl))
        (pss_cons (ps_if (pt_cmpR op_gt (pv 1) (pe_fldK (K := K) rfl (pv 2)) (nomark _))
        (pss_one (ps_ret pe_bl))
        pss_nil)
        (pss_one (ps_set (i := 1) sc_law_all_let.nd rfl (Or.inl rfl) (pe_callB (max2 rfl) (by rfl) T.m_max (by decide +kernel) (pa_cons pe_int (pa_cons (pe_op op_sub (pv 1) (pe_alt (pe_meth0 (pv 2) T.cl_Vessel T.me_Vessel_thins (ok_Vessel_thins T) (hr.mono (by decide)) T.b_Vessel_thins .nil pass0) (pe_alt (pe_meth0 (pv 2) T.cl_Breaker T.me_Breaker_thins (ok_Breaker_thins T) (hr.mono (by decide)) T.b_Breaker_thins .nil pass0) (pe_meth0 (pv 2) T.cl_Ship T.me_Ship_thins (ok_Vessel_thins T) (hr.mono (by decide)) T.b_Vessel_thins .nil pass0)))) pa_nil)))))))
        (pss_one (ps_ret pe_bl))), ?_⟩
    obtain ⟨p, ws, th, rfl, hp, hV, q⟩ := h
    walk_at "rd"
    refine rd_ilB ?_ <;> walk_at "rd"
    refine forgo walk_list (fun i σ' H' => H' = H ∧ ∃ x, letB x ((ws.drop i).map (·.2)) = letB th (ws.map (·.2)) ∧ ∃ x2, σ' = [some (.ref p), some (.int x), x2]) ⟨rfl, th, rfl, _, rfl⟩ (fun i σ' H' _ z => by rw [z.1]; exact sqL_of hp) ?_ ?_
    · rintro i x σ' Ha Hb hi ⟨e1, y, hy, x2, rfl⟩ ⟨e0, hx⟩
      subst e0
      subst e1
      obtain ⟨⟨b, vv⟩, hw, rfl⟩ := refs_get hx
      have hvv : VeAt T Hb b vv := hV _ (List.mem_of_getElem? hw)
      obtain ⟨_, dx2, hv0⟩ := id hvv
      have hi2 : i < ws.length := by rw [refs_len] at hi; exact hi
      have ed : ws.drop i = (b, vv) :: ws.drop (i + 1) := by
        rw [List.drop_eq_getElem_cons hi2]
        congr 1
        rw [List.getElem?_eq_getElem hi2] at hw
        exact Option.some.inj hw
      rw [ed] at hy
      have hy : (if y > vv.strength then false else letB (max 0 (y - veThins vv)) ((ws.drop (i + 1)).map (·.2))) = letB th (ws.map (·.2)) := hy
      walk_at "rd"
      refine rd_iteD (fun c => ?_) (fun c => ?_) <;> walk_at "rd"
      · walk_at "rd"
        rw [if_pos c] at hy
        rw [← hy] at q
        exact q
      · walk_at "rd"
        rw [if_neg c] at hy
        refine rd_thinsC hvv rfl ?_
        walk_at "rd"
        refine rd_max2 fun m hm => ?_ <;> walk_at "rd"
        refine ⟨rfl, _, ?_, _, rfl⟩
        rw [show m = max 0 (y - veThins vv) by omega]
        exact hy
    · rintro σ' Ha ⟨e1, y, hy, x2, rfl⟩
      subst e1
      walk_at "rd"
      rw [refs_len, List.drop_length] at hy
      rw [← hy] at q
      exact q
def sp_law_right (T : Tx K mg) : Sp := fun vs H Q _ => ∃ a p ws, vs = [.ref a, .ref p] ∧ TrAt T H a ws ∧ H p = some (.lst (refsOf ws)) ∧ VesAt T H ws ∧ veOks ws ∧ 1 ≤ ws.length ∧ ws.length ≤ 6 ∧ ∀ H', Same H H' → Q (.bl true) H'
theorem rd_isiTO {H : Hp} {Q : VK} {v : V} {t : Value} {B S tp : Addr} {x y b : Bool} (ty : TyOf K H v t) (ht : H tp = some (.tup [.ref B, .ref S])) (k1 : PySem.W.kitOne K t (.ref B) = some x) (k2 : PySem.W.kitOne K t (.ref S) = some y) (q : Q (.bl b) H) (hb : (x || y) = b := by rfl) : rIsiT K [v, .ref tp] H Q :=
  ⟨v, tp, [.ref B, .ref S], t, [.ref B, .ref S], b, rfl, ht, .cons (.own B) (.cons (.own S) .nil), .base ty, hb ▸ kitAny2 k1 k2, q⟩
theorem thin_bound : ∀ {vs : List Ve}, (∀ v ∈ vs, 0 ≤ veThins v ∧ veThins v ≤ 1000000) → 0 ≤ thinL vs ∧ thinL vs ≤ (vs.length : Int) * 1000000
  | [], _ => by simp [thinL]
  | v :: r, h => by
    have h0 := h v List.mem_cons_self
    have ih := thin_bound (vs := r) fun u hu => h u (List.mem_cons_of_mem _ hu)
    unfold thinL at ih ⊢
    rw [List.map_cons, List.sum_cons, List.length_cons]
    omega
theorem veOks.thin {ws : List (Addr × Ve)} (h : veOks ws) : ∀ v ∈ ws.map (·.2), 0 ≤ veThins v ∧ veThins v ≤ 1000000 := fun v hv => by
  obtain ⟨w, hw, rfl⟩ := List.mem_map.mp hv
  obtain ⟨⟨_, _, _, h1, _, _, _, h2, h3⟩, _⟩ := h w hw
  unfold veThins
  split <;> omega
theorem lenV {z : Str} (h : nameS z = true) : z.length ≤ 199 := by
  unfold nameS at h
  have := of_decide_eq_true (Bool.and_eq_true_iff.mp h).1
  omega
theorem veV_flat {v : Ve} : ∀ x ∈ veV v, flatV x = true := fun x hx => by
  unfold veV at hx
  split at hx <;> (simp only [List.mem_cons, List.not_mem_nil, or_false] at hx; rcases hx with rfl | rfl | rfl | rfl | rfl | rfl <;> rfl) <;> (simp only [List.mem_cons, List.not_mem_nil, or_false] at hx; rcases hx with rfl | rfl | rfl | rfl | rfl <;> rfl)
theorem rows_alk {K : PySem.W.Frag} {H : Hp} {ps qs : List V} {vs : List Ve} (h1 : RowsOf H ps vs) (h2 : RowsOf H qs vs) : AlkAll K H 2 ps qs := by
  obtain ⟨ts, rfl, l1, g1⟩ := h1
  obtain ⟨us, rfl, l2, g2⟩ := h2
  refine ⟨by rw [List.length_map, List.length_map, l1, l2], fun j u v e1 e2 => ?_⟩
  rw [List.getElem?_map] at e1 e2
  obtain ⟨t, ht, rfl⟩ := Option.map_eq_some_iff.mp e1
  obtain ⟨w, hw, rfl⟩ := Option.map_eq_some_iff.mp e2
  have hj : j < vs.length := by
    have := (List.getElem?_eq_some_iff.mp ht).1
    omega
  have ev := List.getElem?_eq_getElem hj
  exact Alk.tup (sqT_of (g1 j t _ ht ev)) (sqT_of (g2 j w _ hw ev)) (AlkAll.flat veV_flat)
theorem ok_law_right (T : Tx K mg) : FnOkG P w K mg base 6 T.a_law_right T.d_law_right ["_law_train", "_law_vessels_here"] (sp_law_right T) := by
  refine okG T.F_law_right sc_law_right (fun vs H Q E h => ?_) (fun cdv A outer s H vs Q E hG hr h => ?_)
  · obtain ⟨a, p, ws, rfl, _⟩ := h
    rfl
  · refine ⟨_, (pss_cons (ps_if (PW.pt (pw_or (pt_not (pt_val (pe_callB (isiK (K := K) rfl) (by rfl) T.m_isinstance (by decide +kernel) (pa_cons (pv 0) (pa_cons (pe_glob (v := .ref T.a_Vessel) rfl T.g_Vessel rfl) pa_nil))))) (pw_or (pt_val (pe_callB (isiTK (K := K) rfl) (by rfl) T.m_isinstance (by decide +kernel) (pa_cons (pv 0) (pa_cons (pe_tup (pa_cons (pe_glob (v := .ref T.a_Breaker) rfl T.g_Breaker rfl) (pa_cons (pe_glob (v := .ref T.a_Ship) rfl T.g_Ship rfl) pa_nil))) pa_nil)))) (pw_or1 (pt_not (pt_val (pe_callB (isiK (K := K) rfl) (by rfl) T.m_isinstance (by decide +kernel) (pa_cons (pv 0) (pa_cons (pe_glob (v := .ref T.a_Train) rfl T.g_Train rfl) pa_nil)))))))))
        (pss_one (ps_ret pe_bl))
        pss_nil)
        (pss_cons (ps_if (pt_cmpR op_ne (pe_meth0 (pv 0) T.cl_Train T.me_Train_kind (ok_Train_kind T) (hr.mono (by decide)) T.b_Train_kind .nil pass0) pe_str (nomark _))
        (pss_one (ps_ret pe_bl))
        pss_nil)
        (pss_cons (ps_set (i := 2) sc_law_right.nd rfl (Or.inl rfl) (pe_fldK (K := K) rfl (pe_ix (ixLK (K := K) rfl) (pv 1) pe_int (fun _ _ => rfl))))
        (pss_cons (ps_set (i := 3) sc_law_right.nd rfl (Or.inl rfl) pe_int)
        (pss_cons (ps_set (i := 4) sc_law_right.nd rfl (Or.inl rfl) pe_int)
        (pss_cons (ps_for PassesOwn.never rfl (pi_listK (K := K) rfl (pv 1)) (pg_name (i := 5) sc_law_right.nd rfl (Or.inl rfl))
        (pss_cons (ps_if (pt_cmpR op_gt (pe_fldK (K := K) rfl (pv 5)) (pv 2) (nomark _))
        (pss_one (ps_set (i := 2) sc_law_right.nd rfl (Or.inl rfl) (pe_fldK (K := K) rfl (pv 5))))
        pss_nil)
        (pss_cons (ps_if (pt_cmpR op_gt (pe_fldK (K := K) rfl (pv 5)) (pv 3) (nomark _))
        (pss_one (ps_set (i := 3) sc_law_right.nd rfl (Or.inl rfl) (pe_fldK (K := K) rfl (pv 5))))
        pss_nil)
        (pss_one (ps_set (i := 4) sc_law_right.nd rfl (Or.inl rfl) (pe_op op_add (pv 4) (pe_alt (pe_meth0 (pv 5) T.cl_Vessel T.me_Vessel_thins (ok_Vessel_thins T) (hr.mono (by decide)) T.b_Vessel_thins .nil pass0) (pe_alt (pe_meth0 (pv 5) T.cl_Breaker T.me_Breaker_thins (ok_Breaker_thins T) (hr.mono (by decide)) T.b_Breaker_thins .nil pass0) (pe_meth0 (pv 5) T.cl_Ship T.me_Ship_thins (ok_Vessel_thins T) (hr.mono (by decide)) T.b_Vessel_thins .nil pass0)))))))))
        (pss_cons (ps_set (i := 6) sc_law_right.nd rfl (Or.inl rfl) (pe_tup (pa_cons (pe_fldK (K := K) rfl (pe_ix (ixLK (K := K) rfl) (pv 1) pe_int (fun _ _ => rfl))) (pa_cons (pe_fldK (K := K) rfl (pe_ix (ixLK (K := K) rfl) (pv 1) pe_int (fun _ _ => rfl))) (pa_cons (pv 2) (pa_cons (pv 3) (pa_cons (pv 4) pa_nil)))))))
        (pss_cons (ps_if (pt_cmpR op_ne (pe_callB (reprE (K := K) rfl hG hr.units) (by rfl) T.m_repr (by decide +kernel) (pa_cons (pe_tup (pa_cons (pe_fldK (K := K) rfl (pv 0)) (pa_cons (pe_fldK (K := K) rfl (pv 0)) (pa_cons (pe_fldK (K := K) rfl (pv 0)) (pa_cons (pe_fldK (K := K) rfl (pv 0)) (pa_cons (pe_meth0 (pv 0) T.cl_Train T.me_Train_thins (ok_Train_thins T) (hr.mono (by decide)) T.b_Train_thins .nil pass0) pa_nil)))))) pa_nil)) (pe_callB (reprE (K := K) rfl hG hr.units) (by rfl) T.m_repr (by decide +kernel) (pa_cons (pv 6) pa_nil)) (nomark _))
        (pss_one (ps_ret pe_bl))
        pss_nil)
        (pss_cons (ps_set (i := 7) sc_law_right.nd rfl (Or.inl rfl) (pe_meth0 (pv 0) T.cl_Train T.me_Train_names (ok_Train_names T) (hr.mono (by decide)) T.b_Train_names .nil pass0))
        (pss_cons (ps_if (PW.pt (pw_or (pt_cmpR (neW (K := K) rfl hr.units) (pv 7) (pe_lc (own := [("_law_vessel_here", 5)]) (g := gName 5) (tt := tYes) rfl sc_law_right.nd (pi_listK (K := K) rfl (pv 1)) (blkOk_by (own := [("_law_vessel_here", 5)]) (N := N_law_right) (sc := defScope s_law_right) (by decide +kernel)) (fun _ _ _ _ _ => (pg_name (i := 5) sc_law_right.nd rfl (Or.inl rfl))) (fun _ _ _ _ _ => pts_nil) (fun _ _ _ _ _ => (pe_frm (pe_fldK (K := K) rfl (pv 5))))) (nomark _)) (pw_or1 (pt_cmpR (neW (K := K) rfl hr.units) (pe_meth0 (pv 0) T.cl_Train T.me_Train_row (ok_Train_row T) (hr.mono (by decide)) T.b_Train_row .nil pass0) (pe_callTy (tupOfK (K := K) rfl) (by rfl) T.m_tuple (by decide +kernel) (pa_cons (pe_lc (own := [("_law_vessel_here", 5)]) (g := gName 5) (tt := tYes) rfl sc_law_right.nd (pi_listK (K := K) rfl (pv 1)) (blkOk_by (own := [("_law_vessel_here", 5)]) (N := N_law_right) (sc := defScope s_law_right) (by decide +kernel)) (fun _ _ _ _ _ => (pg_name (i := 5) sc_law_right.nd rfl (Or.inl rfl))) (fun _ _ _ _ _ => pts_nil) (fun _ _ _ _ _ => (pe_frm (pe_alt (pe_meth0 (pv 5) T.cl_Vessel T.me_Vessel_row (ok_Vessel_row T) (hr.mono (by decide)) T.b_Vessel_row .nil pass0) (pe_alt (pe_meth0 (pv 5) T.cl_Breaker T.me_Breaker_row (ok_Breaker_row T) (hr.mono (by decide)) T.b_Breaker_row .nil pass0) (pe_meth0 (pv 5) T.cl_Ship T.me_Ship_row (ok_Ship_row T) (hr.mono (by decide)) T.b_Ship_row .nil pass0)))))) pa_nil)) (nomark _)))))
        (pss_one (ps_ret pe_bl))
        pss_nil)
        (pss_cons (ps_expr (pe_bm PySem.F.plainAttrs_list PySem.F.slot_list_append PySem.F.type_list_append mt_append (pv 7) (pa_cons pe_str pa_nil)))
        (pss_cons (ps_if (pt_cmpR (neW (K := K) rfl hr.units) (pe_meth0 (pv 0) T.cl_Train T.me_Train_names (ok_Train_names T) (hr.mono (by decide)) T.b_Train_names .nil pass0) (pe_lc (own := [("_law_vessel_here", 5)]) (g := gName 5) (tt := tYes) rfl sc_law_right.nd (pi_listK (K := K) rfl (pv 1)) (blkOk_by (own := [("_law_vessel_here", 5)]) (N := N_law_right) (sc := defScope s_law_right) (by decide +kernel)) (fun _ _ _ _ _ => (pg_name (i := 5) sc_law_right.nd rfl (Or.inl rfl))) (fun _ _ _ _ _ => pts_nil) (fun _ _ _ _ _ => (pe_frm (pe_fldK (K := K) rfl (pv 5))))) (nomark _))
        (pss_one (ps_ret pe_bl))
        pss_nil)
        (pss_cons (ps_if (PW.pt (pw_or (pt_not (pt_val (pe_call (ok_law_all_let T) (hr.mono (by decide)) (by rfl) T.g_law_all_let T.F_law_all_let.kp T.b_law_all_let .nil pass0 (pa_cons (pv 1) (pa_cons (pe_fldK (K := K) rfl (pv 0)) pa_nil))))) (pw_or1 (pt_val (pe_call (ok_law_all_let T) (hr.mono (by decide)) (by rfl) T.g_law_all_let T.F_law_all_let.kp T.b_law_all_let .nil pass0 (pa_cons (pv 1) (pa_cons (pe_op op_add (pe_fldK (K := K) rfl (pv 0)) pe_int) pa_nil)))))))
        (pss_one (ps_ret pe_bl))
        pss_nil)
        (pss_cons (ps_set (i := 8) sc_law_right.nd rfl (Or.inl rfl) (pe_make T.mk_Channel (ok_Channel___init__ T) (hr.mono (by decide)) rfl T.g_Channel T.b_Channel___init__ .nil passX0 (pa_cons pe_str (pa_cons pe_str (pa_cons pe_str (pa_cons pe_int (pa_cons (pe_callB (max2 rfl) (by rfl) T.m_max (by decide +kernel) (pa_cons pe_int (pa_cons (pe_op op_sub (pv 3) pe_int) pa_nil))) (pa_cons pe_int (pa_cons pe_int (pa_cons pe_int pa_nil))))))))))
        (pss_one (ps_ret (pe_and (pe_cmpR op_eq (pe_meth (pv 0) T.cl_Train T.me_Train_lets (ok_Vessel_lets T) (hr.mono (by decide)) T.b_Vessel_lets .nil pass0 (pa_cons (pv 8) pa_nil)) (pe_cmpR op_eq (pv 3) pe_int (nomark _)) (nomark _)) (pe_one (pe_meth (pv 0) T.cl_Train T.me_Train_lets (ok_Vessel_lets T) (hr.mono (by decide)) T.b_Vessel_lets .nil pass0 (pa_cons (pe_make T.mk_Channel (ok_Channel___init__ T) (hr.mono (by decide)) rfl T.g_Channel T.b_Channel___init__ .nil passX0 (pa_cons pe_str (pa_cons pe_str (pa_cons pe_str (pa_cons pe_int (pa_cons (pv 3) (pa_cons pe_int (pa_cons pe_int (pa_cons pe_int pa_nil))))))))) pa_nil)))))))))))))))))))), ?_⟩
    obtain ⟨a, p, ws, rfl, hTr, hp, hV, hok, h1, h6, q⟩ := h
    obtain ⟨cl, dx, hA, hcl, hVc⟩ := id hTr
    obtain ⟨u0, wr, ew⟩ : ∃ u wr, ws = u :: wr := by
      cases ws with
      | nil => simp at h1
      | cons u r => exact ⟨u, r, rfl⟩
    have ati : atI (refsOf ws) (0 : Int) = some (.ref u0.1) := by
      rw [ew]
      show atI (V.ref u0.1 :: refsOf wr) (0 : Int) = _
      exact atI0
    have m0 : u0 ∈ ws := by rw [ew]; exact List.mem_cons_self
    have hv0 := hV _ m0
    obtain ⟨_, dx0, e0⟩ := id hv0
    walk_at "rd"
    refine rd_isiO (tr_ty T hA) T.ki_Train_Vessel ?_ <;> walk_at "rd"
    refine rd_tupB fun t1 H1 n_t1 s_H1 e_t1 => ?_ <;> walk_at "rd"
    have hA1 := s_H1 _ _ hA
    refine rd_isiTO (b := false) (tr_ty T hA1) e_t1 T.ki_Train_Breaker T.ki_Train_Ship ?_ <;> walk_at "rd"
    refine rd_isiO (tr_ty T hA1) T.ki_Train_Train ?_ <;> walk_at "rd"
    refine ⟨a, rfl, ?_⟩
    walk_at "rd"
    (first | refine My.iteTd (by decide +kernel) ?_ | refine My.iteFd (by decide +kernel) ?_) <;> walk_at "rd"
    have hp1 := s_H1 _ _ hp
    have e01 := s_H1 _ _ e0
    have hV1 := hV.keep s_H1
    refine rd_ixL1 (sqL_of hp1) ati ?_ <;> walk_at "rd"
    refine rd_ilB ?_ <;> walk_at "rd"
    refine forgo walk_list (fun i σ' H' => H' = H1 ∧ ∃ ho dr x5, ((∃ w ∈ ws, w.2.hour = ho) ∧ ∀ w ∈ ws.take i, w.2.hour ≤ ho) ∧ ((dr = 0 ∨ ∃ w ∈ ws, w.2.draught = dr) ∧ 0 ≤ dr ∧ ∀ w ∈ ws.take i, w.2.draught ≤ dr) ∧ σ' = [some (.ref a), some (.ref p), some (.int ho), some (.int dr), some (.int (thinL ((ws.take i).map (·.2)))), x5, none, none, none])
      ⟨rfl, u0.2.hour, 0, _, ⟨⟨_, m0, rfl⟩, fun _ h => by simp at h⟩, ⟨.inl rfl, Int.le_refl _, fun _ h => by simp at h⟩, rfl⟩ (fun i σ' H' _ z => by rw [z.1]; exact sqL_of hp1) ?_ ?_
    · rintro i x σ' Ha Hb hi ⟨e1, ho, dr, x5, ⟨o1, o2⟩, ⟨d1, d2, d3⟩, rfl⟩ ⟨e0', hx⟩
      subst e0'
      subst e1
      obtain ⟨u, hw, rfl⟩ := refs_get hx
      have hvv := hV1 _ (List.mem_of_getElem? hw)
      have mw := List.mem_of_getElem? hw
      obtain ⟨_, dx2, ev⟩ := id hvv
      have et : ∀ w ∈ ws.take (i + 1), w ∈ ws.take i ∨ w = u := fun w hw2 => by
        rw [List.take_add_one, hw] at hw2
        rcases List.mem_append.mp hw2 with z | z
        · exact .inl z
        · exact .inr (by simpa using z)
      walk_at "rd"
      refine rd_iteD (fun c1 => ?_) (fun c1 => ?_) <;> walk_at "rd"
      · walk_at "rd"
        refine rd_iteD (fun c2 => ?_) (fun c2 => ?_) <;> walk_at "rd"
        · walk_at "rd"
          refine rd_thinsC hvv rfl ?_
          walk_at "rd"
          refine ⟨rfl, u.2.hour, u.2.draught, _, ⟨⟨_, mw, rfl⟩, fun w h => ?_⟩, ⟨.inr ⟨_, mw, rfl⟩, by omega, fun w h => ?_⟩, by rw [take_map (·.2) hw, thin_snoc]; rfl⟩
          · rcases et w h with z | e
            · have := o2 w z; omega
            · rw [e]; first | exact Int.le_refl _ | omega
          · rcases et w h with z | e
            · have := d3 w z; omega
            · rw [e]; first | exact Int.le_refl _ | omega
        · walk_at "rd"
          refine rd_thinsC hvv rfl ?_
          walk_at "rd"
          refine ⟨rfl, u.2.hour, dr, _, ⟨⟨_, mw, rfl⟩, fun w h => ?_⟩, ⟨d1, d2, fun w h => ?_⟩, by rw [take_map (·.2) hw, thin_snoc]; rfl⟩
          · rcases et w h with z | e
            · have := o2 w z; omega
            · rw [e]; first | exact Int.le_refl _ | omega
          · rcases et w h with z | e
            · exact d3 w z
            · rw [e]; first | exact Int.le_refl _ | omega
      · walk_at "rd"
        refine rd_iteD (fun c2 => ?_) (fun c2 => ?_) <;> walk_at "rd"
        · walk_at "rd"
          refine rd_thinsC hvv rfl ?_
          walk_at "rd"
          refine ⟨rfl, ho, u.2.draught, _, ⟨o1, fun w h => ?_⟩, ⟨.inr ⟨_, mw, rfl⟩, by omega, fun w h => ?_⟩, by rw [take_map (·.2) hw, thin_snoc]; rfl⟩
          · rcases et w h with z | e
            · exact o2 w z
            · rw [e]; first | exact Int.le_refl _ | omega
          · rcases et w h with z | e
            · have := d3 w z; omega
            · rw [e]; first | exact Int.le_refl _ | omega
        · walk_at "rd"
          refine rd_thinsC hvv rfl ?_
          walk_at "rd"
          refine ⟨rfl, ho, dr, _, ⟨o1, fun w h => ?_⟩, ⟨d1, d2, fun w h => ?_⟩, by rw [take_map (·.2) hw, thin_snoc]; rfl⟩
          · rcases et w h with z | e
            · exact o2 w z
            · rw [e]; first | exact Int.le_refl _ | omega
          · rcases et w h with z | e
            · exact d3 w z
            · rw [e]; first | exact Int.le_refl _ | omega
    · rintro σ' Ha ⟨e1, ho, dr, x5, ⟨⟨wo, wo1, wo2⟩, o2⟩, ⟨d1, d2, d3⟩, rfl⟩
      subst e1
      rw [refs_len, List.take_length] at o2 d3
      rw [refs_len, List.take_length]
      have eho : maxL ((ws.map (·.2)).map (·.hour)) = ho := maxL_eq (by rw [List.map_map]; exact List.mem_map.mpr ⟨wo, wo1, wo2⟩) (fun n hn => by
        rw [List.map_map] at hn
        obtain ⟨w, hw, rfl⟩ := List.mem_map.mp hn
        exact o2 w hw)
      have edr : maxL ((ws.map (·.2)).map (·.draught)) = dr := maxL_eq (by
        rw [List.map_map]
        rcases d1 with rfl | ⟨w, hw, e⟩
        · have z := d3 _ m0
          obtain ⟨⟨_, _, _, _, _, z2, _⟩, _⟩ := hok _ m0
          exact List.mem_map.mpr ⟨_, m0, by show u0.2.draught = 0; omega⟩
        · exact List.mem_map.mpr ⟨w, hw, e⟩) (fun n hn => by
        rw [List.map_map] at hn
        obtain ⟨w, hw, rfl⟩ := List.mem_map.mp hn
        exact d3 w hw)
      walk_at "rd"
      refine rd_ixL1 (sqL_of hp1) ati ?_ <;> walk_at "rd"
      refine rd_ixL1 (sqL_of hp1) ati ?_ <;> walk_at "rd"
      refine rd_tupB fun t2 H2 n_t2 s_H2 e_t2 => ?_ <;> walk_at "rd"
      have hA2 := s_H2 _ _ hA1
      have hTr2 := hTr.keep (s_H1.trans s_H2)
      walk_at "rd"
      refine ⟨a, ws, rfl, hTr2, ?_⟩
      walk_at "rd"
      refine rd_tupB fun t3 H3 n_t3 s_H3 e_t3 => ?_ <;> walk_at "rd"
      have ehd : hdV (ws.map (·.2)) = u0.2 := by rw [ew]; rfl
      rw [eho, edr, ehd] at e_t3
      obtain ⟨⟨_, o1, o2', _, _, o5, o6, _, _⟩, n1, n2, _⟩ := hok _ m0
      obtain ⟨⟨_, p1, p2, _, _, _, _, _, _⟩, _⟩ := hok _ wo1
      have dr3 : dr ≤ 1000 := by
        rcases d1 with rfl | ⟨w, hw, e⟩
        · decide
        · obtain ⟨⟨_, _, _, _, _, _, z, _, _⟩, _⟩ := hok _ hw
          omega
      have tb := thin_bound (vs := ws.map (·.2)) hok.thin
      rw [List.length_map] at tb
      have e_t2' := s_H3 _ _ e_t2
      have dd : okD (.tuple [.str u0.2.name, .str u0.2.port, .int ho, .int dr, .int (thinL (ws.map (·.2)))]) := Sm.ok (Sm.tup (n := 0) (w := 2000) (m := 5) (sm_cons (Sm.str (name_ok n1) (lenV n1)) (sm_cons (Sm.str (name_ok n2) (lenV n2)) (sm_cons (Sm.int (by omega)) (sm_cons (Sm.int (by omega)) (sm_cons (Sm.int (by omega)) sm_nil))))) (Nat.le_refl _))
      walk_at "rd"
      refine rd_rZ (d := .tuple [.str u0.2.name, .str u0.2.port, .int ho, .int dr, .int (thinL (ws.map (·.2)))]) (fun z1 y_z1 => ?_) (.dp (dp_tup e_t3 (.cons (.str _) (.cons (.str _) (.cons (.int _) (.cons (.int _) (.cons (.int _) .nil))))))) dd
      walk_at "rd"
      refine rd_rZ (d := .tuple [.str u0.2.name, .str u0.2.port, .int ho, .int dr, .int (thinL (ws.map (·.2)))]) (fun z2 y_z2 => ?_) (.dp (dp_tup e_t2' (.cons (.str _) (.cons (.str _) (.cons (.int _) (.cons (.int _) (.cons (.int _) .nil))))))) dd
      walk_at "rd"
      first | refine rd_iteN (ite_sameP (y_z1.trans y_z2.symm) ?_) | refine ite_sameP (y_z1.trans y_z2.symm) ?_
      walk_at "rd"
      have hTr3 := hTr2.keep s_H3
      obtain ⟨_, _, hA3, _⟩ := id hTr3
      have hV3 := (hV1.keep s_H2).keep s_H3
      have hp3 := s_H3 _ _ (s_H2 _ _ hp1)
      walk_at "rd"
      refine ⟨a, ws, rfl, hTr3, by omega, fun D H4 n_D s_H4 e_D => ?_⟩
      have hp4 := s_H4 _ _ hp3
      have hV4 := hV3.keep s_H4
      have hTr4 := hTr3.keep s_H4
      walk_at "rd"
      refine rd_ilB ?_ <;> walk_at "rd"
      refine lcQ walk_list (by omega) (fun H' s => (s.seq (sqL_of hp4))) (fun u => .str u.2.name) (fun _ => rfl) (fun u hu Q' q' => ?_) fun D2 hD2 => ?_
      · obtain ⟨_, dy, e⟩ := hV4 u hu
        walk_at "rd"
        exact q'
      have s45 := same_new (o := .lst (ws.map fun u => .str u.2.name)) hD2
      have eD2 : (upd H4 D2 (.lst (ws.map fun u => .str u.2.name))) D2 = some (.lst (ws.map fun u => .str u.2.name)) := upd_same
      generalize upd H4 D2 (.lst (ws.map fun u => .str u.2.name)) = H5 at s45 eD2
      have e_D5 := s45 _ _ e_D
      have hTr5 := hTr4.keep s45
      obtain ⟨_, _, hA5, _⟩ := id hTr5
      have hV5 := hV4.keep s45
      have hp5 := s45 _ _ hp4
      have flatN : ∀ x ∈ ws.map (fun u => V.str u.2.name), flatV x = true := fun x hx => by
        obtain ⟨u, _, rfl⟩ := List.mem_map.mp hx
        rfl
      walk_at "rd"
      refine rd_neW (n := 1) (eqS_lst (sqL_of e_D5) (sqL_of eD2) (AlkAll.flat flatN)) ?_
      walk_at "rd"
      refine ⟨a, ws, rfl, hTr5, by omega, fun t5 ps H6 n_t5 s_H6 e_t5 hr6 => ?_⟩
      have hp6 := s_H6 _ _ hp5
      have hV6 := hV5.keep s_H6
      walk_at "rd"
      refine rd_ilB ?_ <;> walk_at "rd"
      refine lcQn walk_list (by omega) (fun H' s => (s.seq (sqL_of hp6))) (fun acc us H' => RowsOf H' acc (us.map (·.2))) RowsOf.nil (fun _ => rfl) (fun i u acc H' Q' hu s hr q' => ?_) fun acc D3 H7 s67 hD3 hla hr7 => ?_
      · have hvv : VeAt T H' u.1 u.2 := hV6.keep s _ (List.mem_of_getElem? hu)
        refine rd_rowC hvv rfl fun t Hx _ sx e => q' _ _ sx ?_
        show RowsOf Hx (acc ++ [V.ref t]) ((ws.take (i + 1)).map (·.2))
        rw [take_map (·.2) hu]
        exact (hr.keep sx).snoc e
      have s78 := same_new (o := .lst acc) hD3
      have eD3 : (upd H7 D3 (.lst acc)) D3 = some (.lst acc) := upd_same
      generalize upd H7 D3 (.lst acc) = H8 at s78 eD3
      walk_at "rd"
      refine rd_tupB2 (sqL_of eD3) fun t6 H9 n_t6 s_H9 e_t6 => ?_
      have s69 := (s67.trans s78).trans s_H9
      refine rd_neW (n := 2) (eqS_tup (sqT_of (s69 _ _ e_t5)) (sqT_of e_t6) (rows_alk (hr6.keep s69) (hr7.keep (s78.trans s_H9)))) ?_
      have s59 := s_H6.trans s69
      have e_D9 := s59 _ _ e_D5
      walk_at "rd"
      refine rd_tyL (sqL_of e_D9) ?_
      walk_at "rd"
      refine rd_append e_D9 (by rw [List.length_map]; omega) ?_
      have s310 : Same H3 (upd H9 D (.lst (ws.map (fun u => V.str u.2.name) ++ [.str (Str.ofString "more")]))) := fun b o e => by
        rw [upd_ne (ne_of_none e n_D.e)]
        exact s59 _ _ (s45 _ _ (s_H4 _ _ e))
      generalize upd H9 D (.lst (ws.map (fun u => V.str u.2.name) ++ [.str (Str.ofString "more")])) = H10 at s310
      have hTr10 := hTr3.keep s310
      obtain ⟨_, _, hA10, _⟩ := id hTr10
      have hV10 := hV3.keep s310
      have hp10 := s310 _ _ hp3
      walk_at "rd"
      refine ⟨a, ws, rfl, hTr10, by omega, fun D4 H11 n_D4 s_H11 e_D4 => ?_⟩
      have hp11 := s_H11 _ _ hp10
      have hV11 := hV10.keep s_H11
      have hTr11 := hTr10.keep s_H11
      walk_at "rd"
      refine rd_ilB ?_ <;> walk_at "rd"
      refine lcQ walk_list (by omega) (fun H' s => (s.seq (sqL_of hp11))) (fun u => .str u.2.name) (fun _ => rfl) (fun u hu Q' q' => ?_) fun D5 hD5 => ?_
      · obtain ⟨_, dy, e⟩ := hV11 u hu
        walk_at "rd"
        exact q'
      have s1112 := same_new (o := .lst (ws.map fun u => .str u.2.name)) hD5
      have eD5 : (upd H11 D5 (.lst (ws.map fun u => .str u.2.name))) D5 = some (.lst (ws.map fun u => .str u.2.name)) := upd_same
      generalize upd H11 D5 (.lst (ws.map fun u => .str u.2.name)) = H12 at s1112 eD5
      have e_D12 := s1112 _ _ e_D4
      have hTr12 := hTr11.keep s1112
      obtain ⟨l12, dx12, hA12, _⟩ := id hTr12
      have hV12 := hV11.keep s1112
      have hp12 := s1112 _ _ hp11
      walk_at "rd"
      refine rd_neW (n := 1) (eqS_lst (sqL_of e_D12) (sqL_of eD5) (AlkAll.flat flatN)) ?_
      obtain ⟨lm1, lm2⟩ := letB_min (vs := ws.map (·.2)) (by rw [List.length_map]; omega) hok.pos
      walk_at "rd"
      refine ⟨p, ws, _, rfl, hp12, hV12, ?_⟩
      rw [lm1]
      walk_at "rd"
      refine ⟨p, ws, _, rfl, hp12, hV12, ?_⟩
      rw [lm2]
      walk_at "rd"
      refine rd_max2 fun m hm => ?_ <;> walk_at "rd"
      have sa : Same H H12 := ((s_H1.trans s_H2).trans s_H3).trans ((s310.trans s_H11).trans s1112)
      refine rd_mkChan T ⟨Str.ofString "c", Str.ofString "a", Str.ofString "b", 1, m, 0, 0, 0⟩ (cab_ok (by omega) (by omega)) cab_n fun ch H13 n_ch s_H13 hc => ?_
      have hTr13 := hTr12.keep s_H13
      obtain ⟨l13, dx13, hA13, _⟩ := id hTr13
      walk_at "rd"
      refine ⟨a, dr, ch, _, rfl, edr ▸ hTr13.dr, hc, ?_⟩
      walk_at "rd"
      have cdm : dr ≤ m ↔ dr = 0 := by omega
      refine iteTd (decide_eq_true (congrArg V.bl (decide_eq_decide.mpr ⟨fun z => congrArg V.int (cdm.mp z), fun z => cdm.mpr (V.int.inj z)⟩))) ?_
      walk_at "rd"
      refine rd_mkChan T ⟨Str.ofString "c", Str.ofString "a", Str.ofString "b", 1, dr, 0, 0, 0⟩ (cab_ok d2 dr3) cab_n fun ch2 H14 n_ch2 s_H14 hc2 => ?_
      have hTr14 := hTr13.keep s_H14
      walk_at "rd"
      refine ⟨a, dr, ch2, _, rfl, edr ▸ hTr14.dr, hc2, ?_⟩
      have qq := q _ ((sa.trans s_H13).trans s_H14)
      rw [← show decide (dr ≤ dr) = true from decide_eq_true (Int.le_refl dr)] at qq
      exact qq
theorem SelfOk.keep {H H' : Hp} {x : V} (h : SelfOk K H x) (s : Same H H') : SelfOk K H' x := by
  cases h with
  | flat h => exact .flat h
  | lst h hx => exact .lst (s _ _ h) hx
  | tup h hx => exact .tup (s _ _ h) hx
  | dct h => exact .dct (s _ _ h)
  | own h =>
    obtain ⟨C, dx, fs, e, c⟩ := h
    exact .own ⟨C, dx, fs, s _ _ e, c⟩
def sp_law_no_kind (T : Tx K mg) : Sp := fun vs H Q _ => ∃ x, vs = [x] ∧ BadTr T H x ∧ SelfOk K H x ∧ ∀ H', Same H H' → Q (.bl true) H'
theorem ok_law_no_kind (T : Tx K mg) : FnOk P w K mg base CX0 5 T.a_law_no_kind T.d_law_no_kind ["_law_thing"] (sp_law_no_kind T) := by
  refine T.F_law_no_kind.ok sc_law_no_kind (fun vs H Q E h => ?_) (fun cdv A outer s H vs Q E hr h => ?_)
  · obtain ⟨x, rfl, _⟩ := h
    rfl
  · refine ⟨_, (pss_cons (ps_tryN rfl rfl sc_law_no_kind.nd takes0 (fun W pn xe tk po => by exact (pss_one (ps_expr (pe_makeS T.mk_Train (ok_Train___init__ T) (hr.mono (by decide)) rfl T.g_Train T.b_Train___init__ (fun σ => passAt tk σ) (pa_cons (pv 0) pa_nil)))))
        (Hands.named (i := 1) rfl rfl ⟨rfl, by decide, .inl T.g_NoKind⟩ (fun a oe cls d pn hz hf => by exact (pss_one (ps_ret (pe_cmpR (eqSelf (K := K) rfl hr.units) (pe_xf T.xf_NoKind T.n_NoKind_found hz hf (pv 1)) (pv 0) (nomark _))))) (Hands.plain ⟨rfl, by decide, .inl T.g_IceError⟩ (fun a oe cls d pn hz hf => by exact (pss_one (ps_ret pe_bl))) Hands.nil)))
        (pss_one (ps_ret pe_bl))), ?_⟩
    obtain ⟨x, rfl, hb, hs, q⟩ := h
    walk_at "rd"
    intro a dx ha hdx hne
    have s0 : Same H (upd (upd H dx (.own a)) a (.ins T.a_Train dx [])) := make_same ha hdx (KeepB.refl _ _)
    refine ⟨a, dx, x, rfl, upd_same, .inr ⟨hb.keep s0, fun d H' k hd => ?_⟩⟩
    have sH : Same H H' := make_same ha hdx k
    refine ⟨true, T.te_NoKind_NoKind, fun _ a0 ha0 => ?_, fun e => Bool.noConfusion e⟩
    refine suite_named ?_
    walk_at "rd"
    exact ⟨rfl, hs.keep sH, q H' sH⟩
def sp_law_vessels (T : Tx K mg) : Sp := fun vs H Q _ => ∃ (p : Addr) (n : Nat), vs = [.ref p] ∧ BoxAt H p n ∧ n ≤ 500 ∧
  ∀ (l : Addr) (ws : List (Addr × Ve)) H', BoxAt H' p (n + 200) → KeepB p H H' → Nn H l → l ≠ p → H' l = some (.lst (refsOf ws)) → VesAt T H' ws → veOks ws → 1 ≤ ws.length → ws.length ≤ 7 → Q (.ref l) H'
theorem kind_mem4 {x : V} (h : x ∈ [V.str (Str.ofString "vessel"), .str (Str.ofString "breaker"), .str (Str.ofString "ship"), .str (Str.ofString "breaker")]) : ∃ k, k < 3 ∧ x = .str (veKind k) := by
  simp only [List.mem_cons, List.not_mem_nil, or_false] at h
  rcases h with rfl | rfl | rfl | rfl
  · exact ⟨0, by decide, rfl⟩
  · exact ⟨1, by decide, rfl⟩
  · exact ⟨2, by decide, rfl⟩
  · exact ⟨1, by decide, rfl⟩
theorem ok_law_vessels (T : Tx K mg) : FnOk P w K mg base CX0 8 T.a_law_vessels T.d_law_vessels ["_law_box_here"] (sp_law_vessels T) := by
  refine T.F_law_vessels.ok sc_law_vessels (fun vs H Q E h => ?_) (fun cdv A outer s H vs Q E hr h => ?_)
  · obtain ⟨p, n, rfl, _⟩ := h
    rfl
  · refine ⟨_, (pss_cons (ps_set (i := 1) sc_law_vessels.nd rfl (Or.inl rfl) (pe_lst pa_nil))
        (pss_cons (ps_set (i := 2) sc_law_vessels.nd rfl (Or.inl rfl) (pe_call (ok_law_names T) (hr.mono (by decide)) (by rfl) T.g_law_names T.F_law_names.kp T.b_law_names .nil pass0 (pa_cons (pv 0) (pa_cons pe_int pa_nil))))
        (pss_cons (ps_set (i := 3) sc_law_vessels.nd rfl (Or.inl rfl) (pe_op op_add pe_int (pe_call (ok_law_take T) (hr.mono (by decide)) (by rfl) T.g_law_take T.F_law_take.kp T.b_law_take .nil pass0 (pa_cons (pv 0) (pa_cons pe_int pa_nil)))))
        (pss_cons (ps_for PassesOwn.never rfl (pi_range1 (by rfl) T.m_range (pa_cons (pv 3) pa_nil)) (pg_name (i := 4) sc_law_vessels.nd rfl (Or.inl rfl))
        (pss_cons (ps_set (i := 5) sc_law_vessels.nd rfl (Or.inl rfl) (pe_ix (ixLK (K := K) rfl) (pe_lst (pa_cons pe_str (pa_cons pe_str (pa_cons pe_str (pa_cons pe_str pa_nil))))) (pe_call (ok_law_take T) (hr.mono (by decide)) (by rfl) T.g_law_take T.F_law_take.kp T.b_law_take .nil pass0 (pa_cons (pv 0) (pa_cons pe_int pa_nil))) (fun _ _ => rfl)))
        (pss_one (ps_if (PW.pt (pw_and (pt_cmpR op_gt (pv 4) pe_int (nomark _)) (pw_and1 (pt_cmpR op_eq (pe_call (ok_law_take T) (hr.mono (by decide)) (by rfl) T.g_law_take T.F_law_take.kp T.b_law_take .nil pass0 (pa_cons (pv 0) (pa_cons pe_int pa_nil))) pe_int (nomark _)))))
        (pss_one (ps_expr (pe_bm PySem.F.plainAttrs_list PySem.F.slot_list_append PySem.F.type_list_append mt_append (pv 1) (pa_cons (pe_ix (ixLK (K := K) rfl) (pv 1) (pe_call (ok_law_take T) (hr.mono (by decide)) (by rfl) T.g_law_take T.F_law_take.kp T.b_law_take .nil pass0 (pa_cons (pv 0) (pa_cons (pv 4) pa_nil))) (fun _ _ => rfl)) pa_nil))))
        (pss_one (ps_expr (pe_bm PySem.F.plainAttrs_list PySem.F.slot_list_append PySem.F.type_list_append mt_append (pv 1) (pa_cons (pe_call (ok_law_vessel T) (hr.mono (by decide)) (by rfl) T.g_law_vessel T.F_law_vessel.kp T.b_law_vessel .nil pass0 (pa_cons (pv 5) (pa_cons (pe_call (ok_law_vessel_row T) (hr.mono (by decide)) (by rfl) T.g_law_vessel_row T.F_law_vessel_row.kp T.b_law_vessel_row .nil pass0 (pa_cons (pv 0) (pa_cons (pv 5) (pa_cons (pe_ix (ixLK (K := K) rfl) (pv 2) (pv 4) (fun _ _ => rfl)) (pa_cons (pv 2) pa_nil))))) pa_nil))) pa_nil))))))))
        (pss_one (ps_ret (pv 1))))))), ?_⟩
    obtain ⟨p, n, rfl, hB, hn, q⟩ := h
    walk_at "rd"
    refine rd_lstB fun l H1 n_l s_H1 e_l => ?_ <;> walk_at "rd"
    have npl : l ≠ p := hB.ne n_l.e
    have b_H1 := hB.keep s_H1
    refine rd_law_names fun l3 ys H2 b_H2 k_H2 e_l3 ne_l3 hys hyn hnd => ?_
    walk_at "rd"
    refine rd_takeB fun r1 H3 r1_0 r1_1 b_H3 k_H3 => ?_ <;> walk_at "rd"
    have k03 : KeepB p H H3 := (Same.keepB s_H1).trans (k_H2.trans k_H3)
    have e_l3' : H3 l3 = some (.lst (ys.map V.str)) := k_H3 _ _ e_l3 ne_l3
    have e_l' : H3 l = some (.lst []) := k_H3 _ _ (k_H2 _ _ e_l npl) npl
    have ne_l3l : l3 ≠ l := fun z => by
      rw [z, e_l'] at e_l3'
      injection e_l3' with e
      injection e with e
      cases ys with
      | nil => exact absurd hys (by decide)
      | cons y r => cases e
    refine rd_r1 (by omega) (by omega) ?_
    refine forgo walk_range (fun i σ' H' => ∃ ws : List (Addr × Ve), KeepB p H H' ∧ BoxAt H' p (n + 21 + 15 * i) ∧ H' l = some (.lst (refsOf ws)) ∧ H' l3 = some (.lst (ys.map V.str)) ∧ VesAt T H' ws ∧ veOks ws ∧ ws.length = i ∧ ∃ x4 x5, σ' = [some (.ref p), some (.ref l), some (.ref l3), some (.int (1 + r1)), x4, x5])
      ⟨[], k03, b_H3, e_l', e_l3', (fun _ h => nomatch h), (fun _ h => nomatch h), rfl, _, _, rfl⟩ (fun _ _ _ _ _ => trivial) ?_ ?_
    · rintro i x σ' Ha Hb hi ⟨ws, ka, ba, hla, h3a, hV, hok, hl, x4, x5, rfl⟩ ⟨e0, rfl⟩
      subst e0
      walk_at "rd"
      refine rd_lstB fun lk Hc n_lk s_Hc e_lk => ?_ <;> walk_at "rd"
      refine rd_takeB fun rk Hd rk_0 rk_1 b_Hd k_Hd => ?_ <;> walk_at "rd"
      refine rd_ixAny1 (xs := [_, _, _, _]) (by walk_at "sl") (by omega) (by simpa using rk_1) fun kv hkv => ?_
      obtain ⟨kk, hk3, rfl⟩ := kind_mem4 hkv
      have kd : KeepB p Hb Hd := (Same.keepB s_Hc).trans k_Hd
      have hpi : ∀ C dx fs, Hb p ≠ some (.ins C dx fs) := fun C dx fs z => by
        obtain ⟨_, _, _, e, _⟩ := ba
        rw [e] at z
        cases z
      have hVd := hV.kb kd hpi
      have hld := kd _ _ hla npl
      have h3d := kd _ _ h3a ne_l3
      have hpd : ∀ C dx fs, Hd p ≠ some (.ins C dx fs) := fun C dx fs z => by
        obtain ⟨_, _, _, e, _⟩ := b_Hd
        rw [e] at z
        cases z
      walk_at "rd"
      refine rd_iteD (fun c1 => ?_) (fun c1 => ?_) <;> walk_at "rd"
      · walk_at "rd"
        refine rd_takeB fun r5 He r5_0 r5_1 b_He k_He => ?_ <;> walk_at "rd"
        have hVe := hVd.kb k_He hpd
        have hle := k_He _ _ hld npl
        have h3e := k_He _ _ h3d ne_l3
        have kbe := (ka.trans kd).trans k_He
        have hpe : ∀ C dx fs, He p ≠ some (.ins C dx fs) := fun C dx fs z => by
          obtain ⟨_, _, _, e, _⟩ := b_He
          rw [e] at z
          cases z
        refine rd_iteD (fun c2 => ?_) (fun c2 => ?_) <;> walk_at "rd"
        · walk_at "rd"
          refine rd_tyL (sqL_of hle) ?_
          walk_at "rd"
          refine rd_takeB fun rj Hf rj_0 rj_1 b_Hf k_Hf => ?_ <;> walk_at "rd"
          have hlf := k_Hf _ _ hle npl
          have hVf := hVe.kb k_Hf hpe
          refine rd_ixAny1 (xs := refsOf ws) (sqL_of hlf) (by omega) (by rw [refs_len]; omega) fun v hv => ?_
          obtain ⟨u, hu, rfl⟩ := refs_mem hv
          walk_at "rd"
          refine rd_append hlf (by rw [refs_len]; omega) ?_
          walk_at "rd"
          refine ⟨ws ++ [u], (kbe.trans k_Hf).new n_l.e, ?_, by rw [upd_same, refs_app]; rfl, ?_, ?_, ?_, by rw [List.length_append, hl]; rfl, _, _, rfl⟩
          · exact ((b_Hf).new npl.symm).mono (by omega)
          · rw [upd_ne ne_l3l]
            exact k_Hf _ _ h3e ne_l3
          · refine (VesAt.put' hlf hVf).app ?_
            exact VesAt.put' hlf hVf u hu
          · intro w hw
            rcases List.mem_append.mp hw with h | h
            · exact hok w h
            · rw [List.mem_singleton.mp h]
              exact hok u hu
        · have bX := b_He
          have hVX := hVe
          have hlX := hle
          have h3X := h3e
          have kX := kbe
          have hpX := hpe
          walk_at "rd"
          refine rd_tyL (sqL_of hlX) ?_
          walk_at "rd"
          refine rd_ixAny1 (xs := ys.map V.str) (sqL_of h3X) (by omega) (by rw [List.length_map]; omega) fun v hv => ?_
          obtain ⟨nm, rfl, hnm⟩ := mem_map_str hv
          walk_at "rd"
          refine ⟨p, l3, _, kk, nm, ys, rfl, hk3, bX, by omega, ne_l3, h3X, by omega, by omega, fun v t Hf vk vn vp vg vok b_Hf k_Hf e_t => ?_⟩
          have hvn : veNames v := ⟨by rw [vn]; exact hyn _ hnm, hyn _ vp, hyn _ vg⟩
          have hVf := hVX.kb k_Hf hpX
          have hlf := k_Hf _ _ hlX npl
          have h3f := k_Hf _ _ h3X ne_l3
          walk_at "rd"
          refine ⟨kk, t, v, rfl, vk, hk3, e_t, vok, hvn, fun xa Hg n_xa s_Hg hxa => ?_⟩
          have hlg := s_Hg _ _ hlf
          have hVg := hVf.keep s_Hg
          have h3g := s_Hg _ _ h3f
          walk_at "rd"
          refine rd_append hlg (by rw [refs_len]; omega) ?_
          walk_at "rd"
          refine ⟨ws ++ [(xa, v)], ((kX.trans k_Hf).trans (Same.keepB s_Hg)).new n_l.e, ((b_Hf.keep s_Hg).new npl.symm).mono (by omega), by rw [upd_same, refs_app]; rfl, by rw [upd_ne ne_l3l]; exact h3g, (VesAt.put' hlg hVg).app (hxa.put hlg), fun w hw => ?_, by rw [List.length_append, hl]; rfl, _, _, rfl⟩
          rcases List.mem_append.mp hw with h | h
          · exact hok w h
          · rw [List.mem_singleton.mp h]
            exact ⟨vok, hvn⟩
      · have bX := b_Hd
        have hVX := hVd
        have hlX := hld
        have h3X := h3d
        have kX := ka.trans kd
        have hpX := hpd
        walk_at "rd"
        refine rd_tyL (sqL_of hlX) ?_
        walk_at "rd"
        refine rd_ixAny1 (xs := ys.map V.str) (sqL_of h3X) (by omega) (by rw [List.length_map]; omega) fun v hv => ?_
        obtain ⟨nm, rfl, hnm⟩ := mem_map_str hv
        walk_at "rd"
        refine ⟨p, l3, _, kk, nm, ys, rfl, hk3, bX, by omega, ne_l3, h3X, by omega, by omega, fun v t Hf vk vn vp vg vok b_Hf k_Hf e_t => ?_⟩
        have hvn : veNames v := ⟨by rw [vn]; exact hyn _ hnm, hyn _ vp, hyn _ vg⟩
        have hVf := hVX.kb k_Hf hpX
        have hlf := k_Hf _ _ hlX npl
        have h3f := k_Hf _ _ h3X ne_l3
        walk_at "rd"
        refine ⟨kk, t, v, rfl, vk, hk3, e_t, vok, hvn, fun xa Hg n_xa s_Hg hxa => ?_⟩
        have hlg := s_Hg _ _ hlf
        have hVg := hVf.keep s_Hg
        have h3g := s_Hg _ _ h3f
        walk_at "rd"
        refine rd_append hlg (by rw [refs_len]; omega) ?_
        walk_at "rd"
        refine ⟨ws ++ [(xa, v)], ((kX.trans k_Hf).trans (Same.keepB s_Hg)).new n_l.e, ((b_Hf.keep s_Hg).new npl.symm).mono (by omega), by rw [upd_same, refs_app]; rfl, by rw [upd_ne ne_l3l]; exact h3g, (VesAt.put' hlg hVg).app (hxa.put hlg), fun w hw => ?_, by rw [List.length_append, hl]; rfl, _, _, rfl⟩
        rcases List.mem_append.mp hw with h | h
        · exact hok w h
        · rw [List.mem_singleton.mp h]
          exact ⟨vok, hvn⟩
    · rintro σ' Ha ⟨ws, ka, ba, hla, h3a, hV, hok, hl, x4, x5, rfl⟩
      walk_at "rd"
      exact q l ws Ha (ba.mono (by omega)) ka n_l npl hla hV hok (by omega) (by omega)
def sp_law (K : PySem.W.Frag) : Sp := fun vs H Q _ => ∃ (a : Addr) (ns : List Int), vs = [.ref a] ∧ SqL K H a (ns.map V.int) ∧ ns.length ≤ 63 ∧ ∀ H', Q (.bl true) H'
/-- what is kept of a cell -/
def KeptAt (T : Tx K mg) (H : Hp) (x : V) : Prop := ∃ t tr p ws, x = .ref t ∧ H t = some (.tup [.ref tr, .ref p]) ∧ TrAt T H tr ws ∧ H p = some (.lst (refsOf ws)) ∧ VesAt T H ws ∧ veOks ws ∧ 1 ≤ ws.length ∧ ws.length ≤ 6
theorem KeptAt.keep {T : Tx K mg} {H H' : Hp} {x : V} (k : Same H H') (h : KeptAt T H x) : KeptAt T H' x := by
  obtain ⟨t, tr, p, ws, rfl, h1, h2, h3, h4, r⟩ := h
  exact ⟨t, tr, p, ws, rfl, k _ _ h1, h2.keep k, k _ _ h3, h4.keep k, r⟩
/-- a list of vessels is not the list of what is kept -/
theorem kept_ne {T : Tx K mg} {H : Hp} {l p : Addr} {acc : List V} {ws : List (Addr × Ve)} (hl : H l = some (.lst acc)) (ha : ∀ x ∈ acc, KeptAt T H x) (hp : H p = some (.lst (refsOf ws))) (hV : VesAt T H ws) (h1 : 1 ≤ ws.length) : p ≠ l := fun z => by
  rw [z, hl] at hp
  injection hp with hp
  injection hp with hp
  cases ws with
  | nil => exact absurd h1 (by decide)
  | cons w r =>
    have m : V.ref w.1 ∈ acc := by
      rw [hp]
      exact List.mem_cons_self
    obtain ⟨t, tr, q, us, e, h2, _⟩ := ha _ m
    cases e
    obtain ⟨_, dx, e2⟩ := hV w List.mem_cons_self
    rw [h2] at e2
    cases e2
theorem KeptAt.put {T : Tx K mg} {H : Hp} {x : V} {l : Addr} {acc : List V} {o : HO} (hl : H l = some (.lst acc)) (ha : ∀ x ∈ acc, KeptAt T H x) (h : KeptAt T H x) : KeptAt T (upd H l o) x := by
  obtain ⟨t, tr, p, ws, rfl, h1, ⟨lc, dx, h2, h3, h4⟩, h5, h6, h7, h8, h9⟩ := h
  have n1 := ne_of h1 hl nofun
  have n2 := ne_of h2 hl nofun
  have n3 := kept_ne hl ha h3 h4 h8
  have n4 := kept_ne hl ha h5 h6 h8
  exact ⟨t, tr, p, ws, rfl, by rw [upd_ne n1]; exact h1, ⟨lc, dx, by rw [upd_ne n2]; exact h2, by rw [upd_ne n3]; exact h3, VesAt.put' hl h4⟩, by rw [upd_ne n4]; exact h5, VesAt.put' hl h6, h7, h8, h9⟩
/-- an odd thing -/
def OddAt (T : Tx K mg) (H : Hp) (x : V) : Prop := BadTr T H x ∧ NoVe T H x ∧ SelfOk K H x ∧ (flatV x = true ∨ ∃ b, x = .ref b)
theorem OddAt.keep {T : Tx K mg} {H H' : Hp} {x : V} (k : Same H H') (h : OddAt T H x) : OddAt T H' x := ⟨h.1.keep k, h.2.1.keep k, h.2.2.1.keep k, h.2.2.2⟩
theorem TrAt.odd {T : Tx K mg} {H : Hp} {a : Addr} {ws : List (Addr × Ve)} (h : TrAt T H a ws) : OddAt T H (.ref a) := by
  obtain ⟨l, dx, e, _⟩ := h
  exact ⟨.inl ⟨_, tr_ty T e, kitAny2 (x := false) (y := false) (T.ob_Train _ (by decide)) (T.ob_Train _ (by decide))⟩, .inr ⟨a, dx, _, rfl, e⟩, .own ⟨_, dx, _, e, T.eq_Train⟩, .inr ⟨a, rfl⟩⟩
theorem refs_self {α : Type} {ws : List (Addr × α)} : ∀ x ∈ refsOf ws, flatV x = true ∨ ∃ b, x = .ref b := fun x hx => by
  obtain ⟨u, _, rfl⟩ := refs_mem hx
  exact .inr ⟨_, rfl⟩
theorem odd_mem {T : Tx K mg} {H : Hp} {l1 d1 : Addr} {odd : V} (hl1 : H l1 = some (.lst [])) (hd1 : H d1 = some (.dK [])) (h : odd ∈ [V.non, .int 7, .str (Str.ofString "a"), .ref l1, .bl true, .ref d1]) : OddAt T H odd := by
  have t1 : ThingAt K H (.str (Str.ofString "a")) := (show (Str.ofString "a").length ≤ 2000 by decide +kernel)
  have t2 : ThingAt K H (.ref d1) := .inl ⟨_, .dK hd1, .inr (.inr rfl)⟩
  simp only [List.mem_cons, List.not_mem_nil, or_false] at h
  rcases h with rfl | rfl | rfl | rfl | rfl | rfl
  · exact ⟨.inl (thing_seq (v := .non) True.intro nofun), .inl ⟨_, .non, T.kt_NoneType_Vessel⟩, .flat rfl, .inl rfl⟩
  · exact ⟨.inl (thing_seq (v := .int 7) True.intro nofun), .inl ⟨_, .int _, T.kt_int_Vessel⟩, .flat rfl, .inl rfl⟩
  · exact ⟨.inl (thing_seq t1 nofun), .inl ⟨_, .str _, T.kt_str_Vessel⟩, .flat rfl, .inl rfl⟩
  · exact ⟨.inr ⟨l1, [], rfl, lst_seq hl1, sqA_l hl1, .inl rfl⟩, .inl ⟨_, .lst hl1, T.kt_list_Vessel⟩, .lst hl1 nofun, .inr ⟨l1, rfl⟩⟩
  · exact ⟨.inl (thing_seq (v := .bl true) True.intro nofun), .inl ⟨_, .bl _, T.kt_bool_Vessel⟩, .flat rfl, .inl rfl⟩
  · exact ⟨.inl (dct_seq hd1), .inl ⟨_, .dK hd1, T.kt_dict_Vessel⟩, .dct hd1, .inr ⟨d1, rfl⟩⟩
theorem ok_law (T : Tx K mg) : FnOkG P w K mg base 9 T.a_law T.d_law ["_law_script"] (sp_law K) := by
  refine okG T.F_law sc_law (fun vs H Q E h => ?_) (fun cdv A outer s H vs Q E hG hr h => ?_)
  · obtain ⟨a, ns, rfl, _⟩ := h
    rfl
  · refine ⟨_, (pss_cons (ps_set (i := 1) sc_law.nd rfl (Or.inl rfl) (pe_lst pa_nil))
        (pss_cons (ps_for PassesOwn.never rfl (pi_range1 (by rfl) T.m_range (pa_cons (pe_callB (max2 rfl) (by rfl) T.m_max (by decide +kernel) (pa_cons pe_int (pa_cons (pe_callB (min2 rfl) (by rfl) T.m_min (by decide +kernel) (pa_cons pe_int (pa_cons (pe_callB (lenK (K := K) rfl) (by rfl) T.m_len (by decide +kernel) (pa_cons (pv 0) pa_nil)) pa_nil))) pa_nil))) pa_nil)) (pg_name (i := 2) sc_law.nd rfl (Or.inl rfl))
        (pss_cons (ps_set (i := 3) sc_law.nd rfl (Or.inl rfl) (pe_call (ok_law_box T) (hr.mono (by decide)) (by rfl) T.g_law_box T.F_law_box.kp T.b_law_box .nil pass0 (pa_cons (pe_call (ok_law_cell T) (hr.mono (by decide)) (by rfl) T.g_law_cell T.F_law_cell.kp T.b_law_cell .nil pass0 (pa_cons (pv 0) (pa_cons (pv 2) pa_nil))) pa_nil)))
        (pss_cons (ps_set (i := 4) sc_law.nd rfl (Or.inl rfl) (pe_cmpR op_eq (pe_call (ok_law_take T) (hr.mono (by decide)) (by rfl) T.g_law_take T.F_law_take.kp T.b_law_take .nil pass0 (pa_cons (pv 3) (pa_cons pe_int pa_nil))) pe_int (nomark _)))
        (pss_cons (ps_set (i := 5) sc_law.nd rfl (Or.inl rfl) (pe_call (ok_law_take T) (hr.mono (by decide)) (by rfl) T.g_law_take T.F_law_take.kp T.b_law_take .nil pass0 (pa_cons (pv 3) (pa_cons pe_int pa_nil))))
        (pss_cons (ps_set (i := 6) sc_law.nd rfl (Or.inl rfl) (pe_ix (ixLK (K := K) rfl) (pe_lst (pa_cons pe_non (pa_cons pe_int (pa_cons pe_str (pa_cons (pe_lst pa_nil) (pa_cons pe_bl (pa_cons pe_dnewK pa_nil))))))) (pe_call (ok_law_take T) (hr.mono (by decide)) (by rfl) T.g_law_take T.F_law_take.kp T.b_law_take .nil pass0 (pa_cons (pv 3) (pa_cons pe_int pa_nil))) (fun _ _ => rfl)))
        (pss_cons (ps_set (i := 7) sc_law.nd rfl (Or.inl rfl) (pe_call (ok_law_vessels T) (hr.mono (by decide)) (by rfl) T.g_law_vessels T.F_law_vessels.kp T.b_law_vessels .nil pass0 (pa_cons (pv 3) pa_nil)))
        (pss_cons (ps_set (i := 8) sc_law.nd rfl (Or.inl rfl) (pe_callTy (listOfK (K := K) rfl) (by rfl) T.m_list (by decide +kernel) (pa_cons (pv 7) pa_nil)))
        (C8.pss_cut (ps_if (pt_cmpR op_eq (pe_callB (lenK (K := K) rfl) (by rfl) T.m_len (by decide +kernel) (pa_cons (pv 7) pa_nil)) pe_int (nomark _))
        (pss_cons (ps_if (PW.pt (pw_or (pt_not (pt_val (pe_call (ok_law_no_kind T) (hr.mono (by decide)) (by rfl) T.g_law_no_kind T.F_law_no_kind.kp T.b_law_no_kind .nil pass0 (pa_cons (pv 7) pa_nil)))) (pw_or1 (pt_not (pt_val (pe_call (ok_law_no_kind T) (hr.mono (by decide)) (by rfl) T.g_law_no_kind T.F_law_no_kind.kp T.b_law_no_kind .nil pass0 (pa_cons (pe_callTy (tupOfK (K := K) rfl) (by rfl) T.m_tuple (by decide +kernel) (pa_cons (pv 7) pa_nil)) pa_nil)))))))
        (pss_one (ps_ret pe_bl))
        pss_nil)
        (pss_cons (ps_expr (pe_bm0 PySem.F.plainAttrs_list PySem.F.slot_list_pop PySem.F.type_list_pop mt_pop (pv 8)))
        (pss_one (ps_set (i := 7) sc_law.nd rfl (Or.inl rfl) (pe_slice (slLK (K := K) rfl) (pv 7) po_none (po_some pe_int))))))
        pss_nil)
        (C8.pss_cut (ps_set (i := 9) sc_law.nd rfl (Or.inl rfl) (pe_ifExp (pt_val (pv 4)) (pe_make T.mk_Train (ok_Train___init__ T) (hr.mono (by decide)) rfl T.g_Train T.b_Train___init__ .nil passX0 (pa_cons (pv 8) pa_nil)) (pe_make T.mk_Train (ok_Train___init__ T) (hr.mono (by decide)) rfl T.g_Train T.b_Train___init__ .nil passX0 (pa_cons (pe_callTy (tupOfK (K := K) rfl) (by rfl) T.m_tuple (by decide +kernel) (pa_cons (pv 8) pa_nil)) pa_nil))))
        (pss_cons (ps_if (pt_cmpR (neW (K := K) rfl hr.units) (pv 8) (pv 7) (nomark _))
        (pss_one (ps_ret pe_bl))
        pss_nil)
        (pss_cons (ps_expr (pe_bm0 PySem.F.plainAttrs_list PySem.F.slot_list_clear PySem.F.type_list_clear mt_clear (pv 8)))
        (pss_cons (ps_expr (pe_bm PySem.F.plainAttrs_list PySem.F.slot_list_append PySem.F.type_list_append mt_append (pv 1) (pa_cons (pe_tup (pa_cons (pv 9) (pa_cons (pv 7) pa_nil))) pa_nil)))
        (pss_cons (ps_for PassesOwn.never rfl (pi_listK (K := K) rfl (pe_lst (pa_cons (pv 6) (pa_cons (pv 9) pa_nil)))) (pg_name (i := 10) sc_law.nd rfl (Or.inl rfl))
        (pss_cons (ps_set (i := 11) sc_law.nd rfl (Or.inl rfl) (pe_slice (slLK (K := K) rfl) (pv 7) po_none (po_some pe_int)))
        (pss_one (ps_if (PW.pt (pw_or (pt_not (pt_val (pe_call (ok_law_no_kind T) (hr.mono (by decide)) (by rfl) T.g_law_no_kind T.F_law_no_kind.kp T.b_law_no_kind .nil pass0 (pa_cons (pe_op op_cat (pe_op op_cat (pe_slice (slLK (K := K) rfl) (pv 11) po_none (po_some (pv 5))) (pe_lst (pa_cons (pv 10) pa_nil))) (pe_slice (slLK (K := K) rfl) (pv 11) (po_some (pv 5)) po_none)) pa_nil)))) (pw_or1 (pt_not (pt_val (pe_call (ok_law_no_kind T) (hr.mono (by decide)) (by rfl) T.g_law_no_kind T.F_law_no_kind.kp T.b_law_no_kind .nil pass0 (pa_cons (pv 10) pa_nil)))))))
        (pss_one (ps_ret pe_bl))
        pss_nil))))
        (pss_one (ps_if (PW.pt (pw_or (pt_not (pt_val (pe_call (ok_law_no_kind T) (hr.mono (by decide)) (by rfl) T.g_law_no_kind T.F_law_no_kind.kp T.b_law_no_kind .nil pass0 (pa_cons (pe_lst pa_nil) pa_nil)))) (pw_or (pt_not (pt_val (pe_call (ok_law_no_kind T) (hr.mono (by decide)) (by rfl) T.g_law_no_kind T.F_law_no_kind.kp T.b_law_no_kind .nil pass0 (pa_cons (pe_tup pa_nil) pa_nil)))) (pw_or1 (pt_not (pt_val (pe_call (ok_law_no_kind T) (hr.mono (by decide)) (by rfl) T.g_law_no_kind T.F_law_no_kind.kp T.b_law_no_kind .nil pass0 (pa_cons (pe_ix (ixLK (K := K) rfl) (pv 7) pe_int (fun _ _ => rfl)) pa_nil))))))))
        (pss_one (ps_ret pe_bl))
        pss_nil)))))))))))))))
        (pss_cons (ps_for PassesOwn.never rfl (pi_listK (K := K) rfl (pe_op op_cat (pv 1) (pe_revLK (K := K) rfl (pv 1)))) (pg_tup rfl (pgs_cons (pg_name (i := 9) sc_law.nd rfl (Or.inl rfl)) (pgs_cons (pg_name (i := 7) sc_law.nd rfl (Or.inl rfl)) pgs_nil)))
        (pss_one (ps_if (pt_not (pt_val (pe_callG hG (ok_law_right T) (hr.mono (by decide)) (by rfl) T.g_law_right T.F_law_right.kp T.b_law_right (pa_cons (pv 9) (pa_cons (pv 7) pa_nil)))))
        (pss_one (ps_ret pe_bl))
        pss_nil)))
        (pss_one (ps_ret pe_bl))))), ?_⟩
    obtain ⟨a, ns, rfl, hS, hlen, q⟩ := h
    walk_at "rd"
    refine rd_lstB fun l H0 n_l s_H0 e_l => ?_ <;> walk_at "rd"
    refine rd_min2 fun m hm => ?_ <;> walk_at "rd"
    refine rd_max2 fun m2 hm2 => ?_ <;> walk_at "rd"
    rw [List.length_map] at hm
    refine rd_r1 (by omega) (by omega) ?_
    refine forgo walk_range (fun i σ' H' => KeepB l H0 H' ∧ (∃ acc, H' l = some (.lst acc) ∧ acc.length = i ∧ ∀ x ∈ acc, KeptAt T H' x) ∧ ∃ x2 x3 x4 x5 x6 x7 x8 x9 x10 x11, σ' = [some (.ref a), some (.ref l), x2, x3, x4, x5, x6, x7, x8, x9, x10, x11]) ?_ (fun _ _ _ _ _ => trivial) ?_ ?_
    · exact ⟨KeepB.refl _ _, ⟨[], e_l, rfl, fun _ h => nomatch h⟩, _, _, _, _, _, _, _, _, _, _, rfl⟩
    · rintro i x σ' Ha Hb hi ⟨sa, ⟨acc, hla, hal, hacc⟩, x2, x3, x4, x5, x6, x7, x8, x9, x10, x11, rfl⟩ ⟨e0, rfl⟩
      subst e0
      walk_at "rd"
      refine rd_law_cell fun z => ?_ <;> walk_at "rd"
      refine rd_law_box fun p Hc n_p s_Hc b_Hc => ?_ <;> walk_at "rd"
      refine rd_takeB fun w1 Hd w1_0 w1_1 b_Hd k_Hd => ?_ <;> walk_at "rd"
      refine rd_takeB fun w2 He w2_0 w2_1 b_He k_He => ?_ <;> walk_at "rd"
      refine rd_lstB fun l1 Hf n_l1 s_Hf e_l1 => ?_ <;> walk_at "rd"
      refine rd_dnewB fun d1 Hg n_d1 s_Hg e_d1 => ?_ <;> walk_at "rd"
      refine rd_lstB fun l2 Hh n_l2 s_Hh e_l2 => ?_ <;> walk_at "rd"
      refine rd_takeB fun w3 Hi w3_0 w3_1 b_Hi k_Hi => ?_ <;> walk_at "rd"
      refine rd_ixAny1 (xs := [_, _, _, _, _, _]) (sqL_of (k_Hi _ _ e_l2 (b_He.keep (s_Hf.trans s_Hg) |>.ne n_l2.e))) (by omega) (by simpa using w3_1) fun odd hodd => ?_
      walk_at "rd"
      have kbi : KeepB p Hc Hi := k_Hd.trans (k_He.trans ((Same.keepB (s_Hf.trans (s_Hg.trans s_Hh))).trans k_Hi))
      refine ⟨p, _, rfl, b_Hi, by omega, fun lv ws Hj b_Hj k_Hj n_lv ne_lv e_lv hV hok h1 h7 => ?_⟩
      have hl1 : Hj l1 = some (.lst []) := k_Hj _ _ (k_Hi _ _ (s_Hh _ _ (s_Hg _ _ e_l1)) (b_He.ne n_l1.e)) (b_He.ne n_l1.e)
      have hd1 : Hj d1 = some (.dK []) := k_Hj _ _ (k_Hi _ _ (s_Hh _ _ e_d1) ((b_He.keep s_Hf).ne n_d1.e)) ((b_He.keep s_Hf).ne n_d1.e)
      have nlp : l ≠ p := ne_of_none hla n_p.e
      have hle := k_He _ _ (k_Hd _ _ (s_Hc _ _ hla) nlp) nlp
      have nl1l : l1 ≠ l := (ne_of_none hle n_l1.e).symm
      have nd1l : d1 ≠ l := (ne_of_none (s_Hf _ _ hle) n_d1.e).symm
      clear hle e_l1 e_d1 e_l2
      have sbj : Same Hb Hj := (kbi.trans k_Hj).same s_Hc n_p.e
      clear s_Hc b_Hc k_Hd b_Hd k_He b_He s_Hf s_Hg s_Hh k_Hi b_Hi kbi b_Hj k_Hj n_l1 n_d1 n_l2 n_lv n_p
      have hlj : Hj l = some (.lst acc) := sbj _ _ hla
      have haj : ∀ x ∈ acc, KeptAt T Hj x := fun x hx => (hacc x hx).keep sbj
      walk_at "rd"
      refine rd_listB (sqA_l e_lv) fun lh Hk n_lh s_Hk e_lh => ?_
      walk_at "rd"
      have hVk := hV.keep s_Hk
      have nlv : lv ≠ lh := ne_of_none e_lv n_lh.e
      have e_lvk := s_Hk _ _ e_lv
      refine ⟨fun σ' H' => ∃ p2 us, Same Hj H' ∧ H' p2 = some (.lst (refsOf us)) ∧ H' lh = some (.lst (refsOf us)) ∧ p2 ≠ lh ∧ VesAt T H' us ∧ veOks us ∧ 1 ≤ us.length ∧ us.length ≤ 6 ∧ ∃ x2 x9 x10 x11, σ' = [some (.ref a), some (.ref l), x2, some (.ref p), some (.bl (decide (V.int w1 = V.int 0))), some (.int w2), some odd, some (.ref p2), some (.ref lh), x9, x10, x11], ?_, ?_⟩
      · walk_at "rd"
        rw [refs_len]
        refine rd_iteD (fun c7 => ?_) (fun c7 => ?_) <;> walk_at "rd"
        · have c7' : ws.length = 7 := by
            have := V.int.inj c7
            omega
          obtain ⟨us, u7, rfl⟩ : ∃ us u7, ws = us ++ [u7] := by
            have z : ws ≠ [] := fun z => by rw [z] at c7'; cases c7'
            exact ⟨ws.dropLast, ws.getLast z, (List.dropLast_concat_getLast z).symm⟩
          have l6 : us.length = 6 := by
            rw [List.length_append] at c7'
            simpa using c7'
          walk_at "rd"
          refine ⟨_, rfl, .inr ⟨lv, _, rfl, lst_seq e_lvk, sqA_l e_lvk, .inr (.inl (by rw [refs_len]; omega))⟩, .lst e_lvk refs_self, fun Hl s_Hl => ?_⟩
          have e_lvl := s_Hl _ _ e_lvk
          walk_at "rd"
          refine rd_tupB2 (sqL_of e_lvl) fun tt Hm n_tt s_Hm e_tt => ?_
          walk_at "rd"
          refine ⟨_, rfl, .inr ⟨tt, _, rfl, tup_seq e_tt, sqA_t e_tt, .inr (.inl (by rw [refs_len]; omega))⟩, .tup e_tt refs_self, fun Hn s_Hn => ?_⟩
          have skn := (s_Hl.trans s_Hm).trans s_Hn
          have e_lhn := skn _ _ e_lh
          walk_at "rd"
          refine rd_tyL (sqL_of e_lhn) ?_
          walk_at "rd"
          refine rd_pop (xs := refsOf us) (y := .ref u7.1) (by rw [e_lhn, refs_app]; rfl) ?_
          have e_lvo : (upd Hn lh (.lst (refsOf us))) lv = some (.lst (refsOf (us ++ [u7]))) := by rw [upd_ne nlv]; exact skn _ _ e_lvk
          have hVo : VesAt T (upd Hn lh (.lst (refsOf us))) (us ++ [u7]) := VesAt.put' e_lhn (hVk.keep skn)
          have sjo : Same Hj (upd Hn lh (.lst (refsOf us))) := fun b o e => by
            rw [upd_ne (ne_of_none e n_lh.e)]
            exact skn _ _ (s_Hk _ _ e)
          have e_lho : (upd Hn lh (.lst (refsOf us))) lh = some (.lst (refsOf us)) := upd_same
          generalize upd Hn lh (.lst (refsOf us)) = Ho at e_lvo hVo sjo e_lho
          walk_at "rd"
          refine rd_slL (sqL_of e_lvo) fun p2 Hp n_p2 s_Hp e_p2 => ?_
          rw [show (some (6 : Int)) = some ((6 : Nat) : Int) from rfl, cutV_to, refs_app, List.take_append_of_le_length (by rw [refs_len]; omega), List.take_of_length_le (by rw [refs_len]; omega)] at e_p2
          walk_at "rd"
          exact ⟨p2, us, sjo.trans s_Hp, e_p2, s_Hp _ _ e_lho, (ne_of_none e_lho n_p2.e).symm, fun w hw => hVo.keep s_Hp w (List.mem_append_left _ hw), fun w hw => hok w (List.mem_append_left _ hw), by omega, by omega, _, _, _, _, rfl⟩
        · walk_at "rd"
          exact ⟨lv, ws, s_Hk, e_lvk, e_lh, nlv, hVk, hok, h1, (by
            have : ws.length ≠ 7 := fun z => c7 (by rw [z]; rfl)
            omega), _, _, _, _, rfl⟩
      · rintro σ' Hl ⟨p2, us, sjl, e_p2, e_lhl, np2, hVu, hoku, u1, u6, y2, y9, y10, y11, rfl⟩
        refine ⟨fun σ' H' => ∃ tr lc, Same Hl H' ∧ lh ≠ lc ∧ TrAtL T H' tr lc us ∧ ∃ x2 x10 x11, σ' = [some (.ref a), some (.ref l), x2, some (.ref p), some (.bl (decide (V.int w1 = V.int 0))), some (.int w2), some odd, some (.ref p2), some (.ref lh), some (.ref tr), x10, x11], ?_, ?_⟩
        · walk_at "rd"
          refine rd_iteD (fun cl => ?_) (fun cl => ?_) <;> walk_at "rd"
          · refine rd_mkTrain T (.inl ⟨_, e_lhl⟩) (sqA_l e_lhl) u1 u6 hVu fun tr lc Hm n_tr n_lc s_Hm hTr => ?_
            walk_at "rd"
            exact ⟨tr, lc, s_Hm, ne_of_none e_lhl n_lc.e, hTr, _, _, _, rfl⟩
          · refine rd_tupB2 (sqL_of e_lhl) fun tt Hm n_tt s_Hm e_tt => ?_
            walk_at "rd"
            refine rd_mkTrain T (.inr ⟨_, e_tt⟩) (sqA_t e_tt) u1 u6 (hVu.keep s_Hm) fun tr lc Hn n_tr n_lc s_Hn hTr => ?_
            walk_at "rd"
            exact ⟨tr, lc, s_Hm.trans s_Hn, ne_of_none (s_Hm _ _ e_lhl) n_lc.e, hTr, _, _, _, rfl⟩
        rintro σ' Hm ⟨tr, lc, slm, nlc, hTr, z2, z10, z11, rfl⟩
        have e_lhm := slm _ _ e_lhl
        have e_p2m := slm _ _ e_p2
        have hVm := hVu.keep slm
        walk_at "rd"
        refine rd_neW (n := 1) (eqS_lst (sqL_of e_lhm) (sqL_of e_p2m) (alkSelf refs_self)) ?_
        walk_at "rd"
        refine rd_tyL (sqL_of e_lhm) ?_
        refine rd_clear e_lhm ?_
        have hTrn : TrAtL T (upd Hm lh (.lst [])) tr lc us := by
          obtain ⟨⟨dx, g1⟩, g2, g3⟩ := hTr
          exact ⟨⟨dx, by rw [upd_ne (ne_of g1 e_lhm nofun)]; exact g1⟩, by rw [upd_ne nlc.symm]; exact g2, VesAt.put' e_lhm g3⟩
        have hVn : VesAt T (upd Hm lh (.lst [])) us := VesAt.put' e_lhm hVm
        have e_p2n : (upd Hm lh (.lst [])) p2 = some (.lst (refsOf us)) := by rw [upd_ne np2]; exact e_p2m
        have sjn : Same Hj (upd Hm lh (.lst [])) := fun b o e => by
          rw [upd_ne (ne_of_none e n_lh.e)]
          exact slm _ _ (sjl _ _ e)
        generalize upd Hm lh (.lst []) = Hn at hTrn hVn e_p2n sjn
        have hln := sjn _ _ hlj
        have han : ∀ x ∈ acc, KeptAt T Hn x := fun x hx => (haj x hx).keep sjn
        walk_at "rd"
        refine rd_tyL (sqL_of hln) ?_
        walk_at "rd"
        refine rd_tupB fun t1 Ho n_t1 s_Ho e_t1 => ?_ <;> walk_at "rd"
        have hlo := s_Ho _ _ hln
        have hao : ∀ x ∈ acc, KeptAt T Ho x := fun x hx => (han x hx).keep s_Ho
        have kt : KeptAt T Ho (.ref t1) := ⟨t1, tr, p2, us, rfl, e_t1, hTrn.tr.keep s_Ho, s_Ho _ _ e_p2n, hVn.keep s_Ho, hoku, u1, u6⟩
        refine rd_append hlo (by omega) ?_
        have hlq : (upd Ho l (.lst (acc ++ [.ref t1]))) l = some (.lst (acc ++ [.ref t1])) := upd_same
        have haq : ∀ x ∈ acc ++ [.ref t1], KeptAt T (upd Ho l (.lst (acc ++ [.ref t1]))) x := fun x hx => by
          rcases List.mem_append.mp hx with h | h
          · exact (hao x h).put hlo hao
          · rw [List.mem_singleton.mp h]
            exact kt.put hlo hao
        have kbq : KeepB l H0 (upd Ho l (.lst (acc ++ [.ref t1]))) := (sa.trans (Same.keepB ((sbj.trans sjn).trans s_Ho))).put
        have hl1q : (upd Ho l (.lst (acc ++ [.ref t1]))) l1 = some (.lst []) := by rw [upd_ne nl1l]; exact s_Ho _ _ (sjn _ _ hl1)
        have hd1q : (upd Ho l (.lst (acc ++ [.ref t1]))) d1 = some (.dK []) := by rw [upd_ne nd1l]; exact s_Ho _ _ (sjn _ _ hd1)
        have hTo := hTrn.keep s_Ho
        have e_p2o := s_Ho _ _ e_p2n
        have hVo := hVn.keep s_Ho
        have hTq : TrAt T (upd Ho l (.lst (acc ++ [.ref t1]))) tr us := by
          obtain ⟨⟨dx, g1⟩, g2, g3⟩ := hTo
          exact ⟨lc, dx, by rw [upd_ne (ne_of g1 hlo nofun)]; exact g1, by rw [upd_ne (kept_ne hlo hao g2 g3 u1)]; exact g2, VesAt.put' hlo g3⟩
        have e_p2q : (upd Ho l (.lst (acc ++ [.ref t1]))) p2 = some (.lst (refsOf us)) := by rw [upd_ne (kept_ne hlo hao e_p2o hVo u1)]; exact e_p2o
        have hVq : VesAt T (upd Ho l (.lst (acc ++ [.ref t1]))) us := VesAt.put' hlo hVo
        generalize upd Ho l (.lst (acc ++ [.ref t1])) = Hq at hlq haq kbq hl1q hd1q hTq e_p2q hVq
        have hoq : OddAt T Hq odd := odd_mem hl1q hd1q hodd
        obtain ⟨wn, rfl⟩ : ∃ wn : Nat, w2 = (wn : Int) := ⟨w2.toNat, by omega⟩
        walk_at "rd"
        refine rd_lstB fun lo Hr n_lo s_Hr e_lo => ?_ <;> walk_at "rd"
        refine rd_ilB ?_ <;> walk_at "rd"
        refine forgo walk_list (fun j σ' H' => Same Hr H' ∧ ∃ x2 x10 x11, σ' = [some (.ref a), some (.ref l), x2, some (.ref p), some (.bl (decide (V.int w1 = V.int 0))), some (.int wn), some odd, some (.ref p2), some (.ref lh), some (.ref tr), x10, x11]) ⟨Same.refl _, _, _, _, rfl⟩ (fun i σ' H' _ p => sqL_of (p.1 _ _ e_lo)) ?_ ?_
        · rintro j x σ' Hs Ht hj ⟨sr, v2, v10, v11, rfl⟩ ⟨e0, hx⟩
          subst e0
          have sqt := s_Hr.trans sr
          have hOx : OddAt T Ht x := by
            have mx := List.mem_of_getElem? hx
            simp only [List.mem_cons, List.not_mem_nil, or_false] at mx
            rcases mx with rfl | rfl
            · exact hoq.keep sqt
            · exact (hTq.odd).keep sqt
          have e_p2t := sqt _ _ e_p2q
          have hVt := hVq.keep sqt
          walk_at "rd"
          refine rd_slL (sqL_of e_p2t) fun p3 Hu n_p3 s_Hu e_p3 => ?_
          rw [show (some (5 : Int)) = some ((5 : Nat) : Int) from rfl, cutV_to] at e_p3
          walk_at "rd"
          refine rd_slL (sqL_of e_p3) fun p4 Hv n_p4 s_Hv e_p4 => ?_
          rw [cutV_to] at e_p4
          walk_at "rd"
          refine rd_lstB fun p5 Hw n_p5 s_Hw e_p5 => ?_ <;> walk_at "rd"
          refine rd_catB (fun p6 Hx n_p6 s_Hx e_p6 => ?_) (s_Hw _ _ e_p4) e_p5 (by rw [List.length_take, List.length_take, refs_len]; simp; omega)
          walk_at "rd"
          have e_p3x := s_Hx _ _ (s_Hw _ _ (s_Hv _ _ e_p3))
          refine rd_slL (sqL_of e_p3x) fun p7 Hy n_p7 s_Hy e_p7 => ?_
          rw [cutV_from] at e_p7
          walk_at "rd"
          refine rd_catB (fun p8 Hz n_p8 s_Hz e_p8 => ?_) (s_Hy _ _ e_p6) e_p7 (by simp; omega)
          have stz := ((((s_Hu.trans s_Hv).trans s_Hw).trans s_Hx).trans s_Hy).trans s_Hz
          have hOz := hOx.keep stz
          have hVz := hVt.keep stz
          have mm : ∀ y ∈ ((List.take wn (List.take 5 (refsOf us)) ++ [x]) ++ List.drop wn (List.take 5 (refsOf us))), y = x ∨ y ∈ refsOf us := fun y hy => by
            rcases List.mem_append.mp hy with h | h
            · rcases List.mem_append.mp h with h | h
              · exact .inr (List.mem_of_mem_take (List.mem_of_mem_take h))
              · exact .inl (List.mem_singleton.mp h)
            · exact .inr (List.mem_of_mem_take (List.mem_of_mem_drop h))
          walk_at "rd"
          refine ⟨_, rfl, .inr ⟨p8, _, rfl, lst_seq e_p8, sqA_l e_p8, .inr (.inr ⟨fun y hy => ?_, x, List.mem_append_left _ (List.mem_append_right _ (List.mem_singleton.mpr rfl)), hOz.2.1⟩)⟩, .lst e_p8 fun y hy => ?_, fun H1' s_H1' => ?_⟩
          · rcases mm y hy with rfl | h
            · exact .inl hOz.2.1
            · obtain ⟨u, hu, rfl⟩ := refs_mem h
              exact .inr ⟨_, u.2, rfl, hVz u hu⟩
          · rcases mm y hy with rfl | h
            · exact hOz.2.2.2
            · exact refs_self y h
          have hO1 := hOz.keep s_H1'
          walk_at "rd"
          refine ⟨x, rfl, hO1.1, hO1.2.2.1, fun H2' s_H2' => ?_⟩
          walk_at "rd"
          exact ⟨sr.trans ((stz.trans s_H1').trans s_H2'), _, _, _, rfl⟩
        · rintro σ' Hs ⟨sr, v2, v10, v11, rfl⟩
          have sqt := s_Hr.trans sr
          walk_at "rd"
          refine rd_lstB fun ln Ht n_ln s_Ht e_ln => ?_ <;> walk_at "rd"
          walk_at "rd"
          refine ⟨_, rfl, .inr ⟨ln, [], rfl, lst_seq e_ln, sqA_l e_ln, .inl rfl⟩, .lst e_ln nofun, fun Hu s_Hu => ?_⟩
          walk_at "rd"
          refine rd_tupB fun tn Hv n_tn s_Hv e_tn => ?_ <;> walk_at "rd"
          walk_at "rd"
          refine ⟨_, rfl, .inr ⟨tn, [], rfl, tup_seq e_tn, sqA_t e_tn, .inl rfl⟩, .tup e_tn nofun, fun Hw s_Hw => ?_⟩
          have sqw := sqt.trans (((s_Ht.trans s_Hu).trans s_Hv).trans s_Hw)
          have e_p2w := sqw _ _ e_p2q
          obtain ⟨u0, wr, rfl⟩ : ∃ u wr, us = u :: wr := by
            cases us with
            | nil => simp at u1
            | cons u r => exact ⟨u, r, rfl⟩
          have ati : atI (refsOf (u0 :: wr)) (0 : Int) = some (.ref u0.1) := by
            show atI (V.ref u0.1 :: refsOf wr) (0 : Int) = _
            exact atI0
          have hv0 := hVq.keep sqw _ List.mem_cons_self
          walk_at "rd"
          refine rd_ixL1 (sqL_of e_p2w) ati ?_
          walk_at "rd"
          refine ⟨_, rfl, .inl ⟨_, ve_ty T hv0, kitAny2 (x := false) (y := false) (ve_own T _ _ (by decide)) (ve_own T _ _ (by decide))⟩, .own hv0.own, fun Hx s_Hx => ?_⟩
          have sqx := sqw.trans s_Hx
          walk_at "rd"
          exact ⟨kbq.trans (Same.keepB sqx), ⟨_, sqx _ _ hlq, by rw [List.length_append, hal]; rfl, fun x hx => (haq x hx).keep sqx⟩, _, _, _, _, _, _, _, _, _, _, rfl⟩
    · rintro σ' Ha ⟨sa, ⟨acc, hla, hal, hacc⟩, x2, x3, x4, x5, x6, x7, x8, x9, x10, x11, rfl⟩
      walk_at "rd"
      refine rd_revB fun r Hb n_r s_Hb e_r => ?_ <;> walk_at "rd"
      refine rd_catB fun r2 Hc n_r2 s_Hc e_r2 => ?_ <;> walk_at "rd"
      refine rd_ilB ?_ <;> walk_at "rd"
      have s_ac := s_Hb.trans s_Hc
      refine forgo walk_list (fun i σ' H' => Same Hc H' ∧ ∃ x2 x3 x4 x5 x6 x7 x8 x9 x10 x11, σ' = [some (.ref a), some (.ref l), x2, x3, x4, x5, x6, x7, x8, x9, x10, x11]) ⟨Same.refl _, _, _, _, _, _, _, _, _, _, _, rfl⟩ (fun i σ' H' _ p => sqL_of (p.1 _ _ e_r2)) ?_ ?_
      · rintro i x σ' Hd He hi ⟨sd, y2, y3, y4, y5, y6, y7, y8, y9, y10, y11, rfl⟩ ⟨e0, hx⟩
        subst e0
        have mx : x ∈ acc := by
          rcases List.mem_append.mp (List.mem_of_getElem? hx) with z | z
          · exact z
          · exact List.mem_reverse.mp z
        obtain ⟨t, tr, p, ws, rfl, g1, g2, g3, g4, g5, g6, g7⟩ := ((hacc x mx).keep s_ac).keep sd
        refine rd_gtup (sqT_of g1) rfl ?_
        walk_at "rd"
        refine ⟨tr, p, ws, rfl, g2, g3, g4, g5, g6, g7, fun Hf sf => ?_⟩
        walk_at "rd"
        exact ⟨sd.trans sf, _, _, _, _, _, _, _, _, _, _, rfl⟩
      · rintro σ' Hd ⟨sd, y2, y3, y4, y5, y6, y7, y8, y9, y10, y11, rfl⟩
        walk_at "rd"
        exact q _

end
theorem all_mk {l : PySem.W.OpenLaw} {w : World} {K : PySem.W.Frag} {h : Heap} {mg : Str → Option Value} {fa : Addr} (X : K.In h) (G : h.Ns mainGlobals mg) (hfa : mg "law" = some (.ref fa))
    {C_IceError : Addr} (aC_IceError : PySem.W.nsIn K mainGlobals "IceError" = some (some (.ref C_IceError)))
    {C_NoName : Addr} (aC_NoName : PySem.W.nsIn K mainGlobals "NoName" = some (some (.ref C_NoName)))
    {C_NoNumber : Addr} (aC_NoNumber : PySem.W.nsIn K mainGlobals "NoNumber" = some (some (.ref C_NoNumber)))
    {C_NoKind : Addr} (aC_NoKind : PySem.W.nsIn K mainGlobals "NoKind" = some (some (.ref C_NoKind)))
    {C_Doubled : Addr} (aC_Doubled : PySem.W.nsIn K mainGlobals "Doubled" = some (some (.ref C_Doubled)))
    {C_Channel : Addr} (aC_Channel : PySem.W.nsIn K mainGlobals "Channel" = some (some (.ref C_Channel)))
    {C_Vessel : Addr} (aC_Vessel : PySem.W.nsIn K mainGlobals "Vessel" = some (some (.ref C_Vessel)))
    {C_Breaker : Addr} (aC_Breaker : PySem.W.nsIn K mainGlobals "Breaker" = some (some (.ref C_Breaker)))
    {C_Ship : Addr} (aC_Ship : PySem.W.nsIn K mainGlobals "Ship" = some (some (.ref C_Ship)))
    {C_Train : Addr} (aC_Train : PySem.W.nsIn K mainGlobals "Train" = some (some (.ref C_Train)))
    {f0 : Addr} {oc0 kV0 dc0 pm0 cd0 ct0 : Value} {od0 an0 : Option Addr} {sl0 : Array (Option Value)}
    (a0 : PySem.W.nsIn K mainGlobals "_wall" = some (some (.ref f0))) (l0 : K.lookup f0 = some ⟨oc0, od0, .func (PySem.W.fnOf "_wall" "_wall" (defArgs s_wall) (defBody s_wall) (defScope s_wall) .none kV0 dc0 pm0 an0 cd0 ct0), sl0⟩) (c0 : PySem.W.codeIn K cd0 "_wall" = true) (k0 : PySem.W.keepIn K (.ref f0) = true)
    {f1 : Addr} {oc1 kV1 dc1 pm1 cd1 ct1 : Value} {od1 an1 : Option Addr} {sl1 : Array (Option Value)}
    (a1 : PySem.W.findIn K (.ref C_NoName) "__init__" = some (some (.ref f1))) (l1 : K.lookup f1 = some ⟨oc1, od1, .func (PySem.W.fnOf "__init__" "NoName.__init__" (defArgs s_NoName___init__) (defBody s_NoName___init__) (defScope s_NoName___init__) .none kV1 dc1 pm1 an1 cd1 ct1), sl1⟩) (c1 : PySem.W.codeIn K cd1 "NoName.__init__" = true) (k1 : PySem.W.keepIn K (.ref f1) = true)
    {f2 : Addr} {oc2 kV2 dc2 pm2 cd2 ct2 : Value} {od2 an2 : Option Addr} {sl2 : Array (Option Value)}
    (a2 : PySem.W.findIn K (.ref C_NoNumber) "__init__" = some (some (.ref f2))) (l2 : K.lookup f2 = some ⟨oc2, od2, .func (PySem.W.fnOf "__init__" "NoNumber.__init__" (defArgs s_NoNumber___init__) (defBody s_NoNumber___init__) (defScope s_NoNumber___init__) .none kV2 dc2 pm2 an2 cd2 ct2), sl2⟩) (c2 : PySem.W.codeIn K cd2 "NoNumber.__init__" = true) (k2 : PySem.W.keepIn K (.ref f2) = true)
    {f3 : Addr} {oc3 kV3 dc3 pm3 cd3 ct3 : Value} {od3 an3 : Option Addr} {sl3 : Array (Option Value)}
    (a3 : PySem.W.findIn K (.ref C_NoKind) "__init__" = some (some (.ref f3))) (l3 : K.lookup f3 = some ⟨oc3, od3, .func (PySem.W.fnOf "__init__" "NoKind.__init__" (defArgs s_NoKind___init__) (defBody s_NoKind___init__) (defScope s_NoKind___init__) .none kV3 dc3 pm3 an3 cd3 ct3), sl3⟩) (c3 : PySem.W.codeIn K cd3 "NoKind.__init__" = true) (k3 : PySem.W.keepIn K (.ref f3) = true)
    {f4 : Addr} {oc4 kV4 dc4 pm4 cd4 ct4 : Value} {od4 an4 : Option Addr} {sl4 : Array (Option Value)}
    (a4 : PySem.W.findIn K (.ref C_Doubled) "__init__" = some (some (.ref f4))) (l4 : K.lookup f4 = some ⟨oc4, od4, .func (PySem.W.fnOf "__init__" "Doubled.__init__" (defArgs s_Doubled___init__) (defBody s_Doubled___init__) (defScope s_Doubled___init__) .none kV4 dc4 pm4 an4 cd4 ct4), sl4⟩) (c4 : PySem.W.codeIn K cd4 "Doubled.__init__" = true) (k4 : PySem.W.keepIn K (.ref f4) = true)
    {f5 : Addr} {oc5 kV5 dc5 pm5 cd5 ct5 : Value} {od5 an5 : Option Addr} {sl5 : Array (Option Value)}
    (a5 : PySem.W.nsIn K mainGlobals "is_whole" = some (some (.ref f5))) (l5 : K.lookup f5 = some ⟨oc5, od5, .func (PySem.W.fnOf "is_whole" "is_whole" (defArgs s_is_whole) (defBody s_is_whole) (defScope s_is_whole) .none kV5 dc5 pm5 an5 cd5 ct5), sl5⟩) (c5 : PySem.W.codeIn K cd5 "is_whole" = true) (k5 : PySem.W.keepIn K (.ref f5) = true)
    {f6 : Addr} {oc6 kV6 dc6 pm6 cd6 ct6 : Value} {od6 an6 : Option Addr} {sl6 : Array (Option Value)}
    (a6 : PySem.W.nsIn K mainGlobals "is_within" = some (some (.ref f6))) (l6 : K.lookup f6 = some ⟨oc6, od6, .func (PySem.W.fnOf "is_within" "is_within" (defArgs s_is_within) (defBody s_is_within) (defScope s_is_within) .none kV6 dc6 pm6 an6 cd6 ct6), sl6⟩) (c6 : PySem.W.codeIn K cd6 "is_within" = true) (k6 : PySem.W.keepIn K (.ref f6) = true)
    {f7 : Addr} {oc7 kV7 dc7 pm7 cd7 ct7 : Value} {od7 an7 : Option Addr} {sl7 : Array (Option Value)}
    (a7 : PySem.W.nsIn K mainGlobals "is_name" = some (some (.ref f7))) (l7 : K.lookup f7 = some ⟨oc7, od7, .func (PySem.W.fnOf "is_name" "is_name" (defArgs s_is_name) (defBody s_is_name) (defScope s_is_name) .none kV7 dc7 pm7 an7 cd7 ct7), sl7⟩) (c7 : PySem.W.codeIn K cd7 "is_name" = true) (k7 : PySem.W.keepIn K (.ref f7) = true)
    {f8 : Addr} {oc8 kV8 dc8 pm8 cd8 ct8 : Value} {od8 an8 : Option Addr} {sl8 : Array (Option Value)}
    (a8 : PySem.W.nsIn K mainGlobals "need_names" = some (some (.ref f8))) (l8 : K.lookup f8 = some ⟨oc8, od8, .func (PySem.W.fnOf "need_names" "need_names" (defArgs s_need_names) (defBody s_need_names) (defScope s_need_names) .none kV8 dc8 pm8 an8 cd8 ct8), sl8⟩) (c8 : PySem.W.codeIn K cd8 "need_names" = true) (k8 : PySem.W.keepIn K (.ref f8) = true)
    {f9 : Addr} {oc9 kV9 dc9 pm9 cd9 ct9 : Value} {od9 an9 : Option Addr} {sl9 : Array (Option Value)}
    (a9 : PySem.W.nsIn K mainGlobals "need_numbers" = some (some (.ref f9))) (l9 : K.lookup f9 = some ⟨oc9, od9, .func (PySem.W.fnOf "need_numbers" "need_numbers" (defArgs s_need_numbers) (defBody s_need_numbers) (defScope s_need_numbers) .none kV9 dc9 pm9 an9 cd9 ct9), sl9⟩) (c9 : PySem.W.codeIn K cd9 "need_numbers" = true) (k9 : PySem.W.keepIn K (.ref f9) = true)
    {f10 : Addr} {oc10 kV10 dc10 pm10 cd10 ct10 : Value} {od10 an10 : Option Addr} {sl10 : Array (Option Value)}
    (a10 : PySem.W.findIn K (.ref C_Channel) "__init__" = some (some (.ref f10))) (l10 : K.lookup f10 = some ⟨oc10, od10, .func (PySem.W.fnOf "__init__" "Channel.__init__" (defArgs s_Channel___init__) (defBody s_Channel___init__) (defScope s_Channel___init__) .none kV10 dc10 pm10 an10 cd10 ct10), sl10⟩) (c10 : PySem.W.codeIn K cd10 "Channel.__init__" = true) (k10 : PySem.W.keepIn K (.ref f10) = true)
    {f11 : Addr} {oc11 kV11 dc11 pm11 cd11 ct11 : Value} {od11 an11 : Option Addr} {sl11 : Array (Option Value)}
    (a11 : PySem.W.findIn K (.ref C_Channel) "row" = some (some (.ref f11))) (l11 : K.lookup f11 = some ⟨oc11, od11, .func (PySem.W.fnOf "row" "Channel.row" (defArgs s_Channel_row) (defBody s_Channel_row) (defScope s_Channel_row) .none kV11 dc11 pm11 an11 cd11 ct11), sl11⟩) (c11 : PySem.W.codeIn K cd11 "Channel.row" = true) (k11 : PySem.W.keepIn K (.ref f11) = true)
    {f12 : Addr} {oc12 kV12 dc12 pm12 cd12 ct12 : Value} {od12 an12 : Option Addr} {sl12 : Array (Option Value)}
    (a12 : PySem.W.findIn K (.ref C_Vessel) "__init__" = some (some (.ref f12))) (l12 : K.lookup f12 = some ⟨oc12, od12, .func (PySem.W.fnOf "__init__" "Vessel.__init__" (defArgs s_Vessel___init__) (defBody s_Vessel___init__) (defScope s_Vessel___init__) .none kV12 dc12 pm12 an12 cd12 ct12), sl12⟩) (c12 : PySem.W.codeIn K cd12 "Vessel.__init__" = true) (k12 : PySem.W.keepIn K (.ref f12) = true)
    {f13 : Addr} {oc13 kV13 dc13 pm13 cd13 ct13 : Value} {od13 an13 : Option Addr} {sl13 : Array (Option Value)}
    (a13 : PySem.W.findIn K (.ref C_Vessel) "settle" = some (some (.ref f13))) (l13 : K.lookup f13 = some ⟨oc13, od13, .func (PySem.W.fnOf "settle" "Vessel.settle" (defArgs s_Vessel_settle) (defBody s_Vessel_settle) (defScope s_Vessel_settle) .none kV13 dc13 pm13 an13 cd13 ct13), sl13⟩) (c13 : PySem.W.codeIn K cd13 "Vessel.settle" = true) (k13 : PySem.W.keepIn K (.ref f13) = true)
    {f14 : Addr} {oc14 kV14 dc14 pm14 cd14 ct14 : Value} {od14 an14 : Option Addr} {sl14 : Array (Option Value)}
    (a14 : PySem.W.findIn K (.ref C_Vessel) "kind" = some (some (.ref f14))) (l14 : K.lookup f14 = some ⟨oc14, od14, .func (PySem.W.fnOf "kind" "Vessel.kind" (defArgs s_Vessel_kind) (defBody s_Vessel_kind) (defScope s_Vessel_kind) .none kV14 dc14 pm14 an14 cd14 ct14), sl14⟩) (c14 : PySem.W.codeIn K cd14 "Vessel.kind" = true) (k14 : PySem.W.keepIn K (.ref f14) = true)
    {f15 : Addr} {oc15 kV15 dc15 pm15 cd15 ct15 : Value} {od15 an15 : Option Addr} {sl15 : Array (Option Value)}
    (a15 : PySem.W.findIn K (.ref C_Vessel) "thins" = some (some (.ref f15))) (l15 : K.lookup f15 = some ⟨oc15, od15, .func (PySem.W.fnOf "thins" "Vessel.thins" (defArgs s_Vessel_thins) (defBody s_Vessel_thins) (defScope s_Vessel_thins) .none kV15 dc15 pm15 an15 cd15 ct15), sl15⟩) (c15 : PySem.W.codeIn K cd15 "Vessel.thins" = true) (k15 : PySem.W.keepIn K (.ref f15) = true)
    {f16 : Addr} {oc16 kV16 dc16 pm16 cd16 ct16 : Value} {od16 an16 : Option Addr} {sl16 : Array (Option Value)}
    (a16 : PySem.W.findIn K (.ref C_Vessel) "lets" = some (some (.ref f16))) (l16 : K.lookup f16 = some ⟨oc16, od16, .func (PySem.W.fnOf "lets" "Vessel.lets" (defArgs s_Vessel_lets) (defBody s_Vessel_lets) (defScope s_Vessel_lets) .none kV16 dc16 pm16 an16 cd16 ct16), sl16⟩) (c16 : PySem.W.codeIn K cd16 "Vessel.lets" = true) (k16 : PySem.W.keepIn K (.ref f16) = true)
    {f17 : Addr} {oc17 kV17 dc17 pm17 cd17 ct17 : Value} {od17 an17 : Option Addr} {sl17 : Array (Option Value)}
    (a17 : PySem.W.findIn K (.ref C_Vessel) "row" = some (some (.ref f17))) (l17 : K.lookup f17 = some ⟨oc17, od17, .func (PySem.W.fnOf "row" "Vessel.row" (defArgs s_Vessel_row) (defBody s_Vessel_row) (defScope s_Vessel_row) .none kV17 dc17 pm17 an17 cd17 ct17), sl17⟩) (c17 : PySem.W.codeIn K cd17 "Vessel.row" = true) (k17 : PySem.W.keepIn K (.ref f17) = true)
    {f18 : Addr} {oc18 kV18 dc18 pm18 cd18 ct18 : Value} {od18 an18 : Option Addr} {sl18 : Array (Option Value)}
    (a18 : PySem.W.findIn K (.ref C_Breaker) "__init__" = some (some (.ref f18))) (l18 : K.lookup f18 = some ⟨oc18, od18, .func (PySem.W.fnOf "__init__" "Breaker.__init__" (defArgs s_Breaker___init__) (defBody s_Breaker___init__) (defScope s_Breaker___init__) .none kV18 dc18 pm18 an18 cd18 ct18), sl18⟩) (c18 : PySem.W.codeIn K cd18 "Breaker.__init__" = true) (k18 : PySem.W.keepIn K (.ref f18) = true)
    {f19 : Addr} {oc19 kV19 dc19 pm19 cd19 ct19 : Value} {od19 an19 : Option Addr} {sl19 : Array (Option Value)}
    (a19 : PySem.W.findIn K (.ref C_Breaker) "kind" = some (some (.ref f19))) (l19 : K.lookup f19 = some ⟨oc19, od19, .func (PySem.W.fnOf "kind" "Breaker.kind" (defArgs s_Breaker_kind) (defBody s_Breaker_kind) (defScope s_Breaker_kind) .none kV19 dc19 pm19 an19 cd19 ct19), sl19⟩) (c19 : PySem.W.codeIn K cd19 "Breaker.kind" = true) (k19 : PySem.W.keepIn K (.ref f19) = true)
    {f20 : Addr} {oc20 kV20 dc20 pm20 cd20 ct20 : Value} {od20 an20 : Option Addr} {sl20 : Array (Option Value)}
    (a20 : PySem.W.findIn K (.ref C_Breaker) "thins" = some (some (.ref f20))) (l20 : K.lookup f20 = some ⟨oc20, od20, .func (PySem.W.fnOf "thins" "Breaker.thins" (defArgs s_Breaker_thins) (defBody s_Breaker_thins) (defScope s_Breaker_thins) .none kV20 dc20 pm20 an20 cd20 ct20), sl20⟩) (c20 : PySem.W.codeIn K cd20 "Breaker.thins" = true) (k20 : PySem.W.keepIn K (.ref f20) = true)
    {f21 : Addr} {oc21 kV21 dc21 pm21 cd21 ct21 : Value} {od21 an21 : Option Addr} {sl21 : Array (Option Value)}
    (a21 : PySem.W.findIn K (.ref C_Breaker) "row" = some (some (.ref f21))) (l21 : K.lookup f21 = some ⟨oc21, od21, .func (PySem.W.fnOf "row" "Breaker.row" (defArgs s_Breaker_row) (defBody s_Breaker_row) (defScope s_Breaker_row) .none kV21 dc21 pm21 an21 cd21 ct21), sl21⟩) (c21 : PySem.W.codeIn K cd21 "Breaker.row" = true) (k21 : PySem.W.keepIn K (.ref f21) = true)
    {f22 : Addr} {oc22 kV22 dc22 pm22 cd22 ct22 : Value} {od22 an22 : Option Addr} {sl22 : Array (Option Value)}
    (a22 : PySem.W.findIn K (.ref C_Ship) "__init__" = some (some (.ref f22))) (l22 : K.lookup f22 = some ⟨oc22, od22, .func (PySem.W.fnOf "__init__" "Ship.__init__" (defArgs s_Ship___init__) (defBody s_Ship___init__) (defScope s_Ship___init__) .none kV22 dc22 pm22 an22 cd22 ct22), sl22⟩) (c22 : PySem.W.codeIn K cd22 "Ship.__init__" = true) (k22 : PySem.W.keepIn K (.ref f22) = true)
    {f23 : Addr} {oc23 kV23 dc23 pm23 cd23 ct23 : Value} {od23 an23 : Option Addr} {sl23 : Array (Option Value)}
    (a23 : PySem.W.findIn K (.ref C_Ship) "kind" = some (some (.ref f23))) (l23 : K.lookup f23 = some ⟨oc23, od23, .func (PySem.W.fnOf "kind" "Ship.kind" (defArgs s_Ship_kind) (defBody s_Ship_kind) (defScope s_Ship_kind) .none kV23 dc23 pm23 an23 cd23 ct23), sl23⟩) (c23 : PySem.W.codeIn K cd23 "Ship.kind" = true) (k23 : PySem.W.keepIn K (.ref f23) = true)
    {f24 : Addr} {oc24 kV24 dc24 pm24 cd24 ct24 : Value} {od24 an24 : Option Addr} {sl24 : Array (Option Value)}
    (a24 : PySem.W.findIn K (.ref C_Ship) "row" = some (some (.ref f24))) (l24 : K.lookup f24 = some ⟨oc24, od24, .func (PySem.W.fnOf "row" "Ship.row" (defArgs s_Ship_row) (defBody s_Ship_row) (defScope s_Ship_row) .none kV24 dc24 pm24 an24 cd24 ct24), sl24⟩) (c24 : PySem.W.codeIn K cd24 "Ship.row" = true) (k24 : PySem.W.keepIn K (.ref f24) = true)
    {f25 : Addr} {oc25 kV25 dc25 pm25 cd25 ct25 : Value} {od25 an25 : Option Addr} {sl25 : Array (Option Value)}
    (a25 : PySem.W.findIn K (.ref C_Train) "__init__" = some (some (.ref f25))) (l25 : K.lookup f25 = some ⟨oc25, od25, .func (PySem.W.fnOf "__init__" "Train.__init__" (defArgs s_Train___init__) (defBody s_Train___init__) (defScope s_Train___init__) .none kV25 dc25 pm25 an25 cd25 ct25), sl25⟩) (c25 : PySem.W.codeIn K cd25 "Train.__init__" = true) (k25 : PySem.W.keepIn K (.ref f25) = true)
    {f26 : Addr} {oc26 kV26 dc26 pm26 cd26 ct26 : Value} {od26 an26 : Option Addr} {sl26 : Array (Option Value)}
    (a26 : PySem.W.findIn K (.ref C_Train) "kind" = some (some (.ref f26))) (l26 : K.lookup f26 = some ⟨oc26, od26, .func (PySem.W.fnOf "kind" "Train.kind" (defArgs s_Train_kind) (defBody s_Train_kind) (defScope s_Train_kind) .none kV26 dc26 pm26 an26 cd26 ct26), sl26⟩) (c26 : PySem.W.codeIn K cd26 "Train.kind" = true) (k26 : PySem.W.keepIn K (.ref f26) = true)
    {f27 : Addr} {oc27 kV27 dc27 pm27 cd27 ct27 : Value} {od27 an27 : Option Addr} {sl27 : Array (Option Value)}
    (a27 : PySem.W.findIn K (.ref C_Train) "thins" = some (some (.ref f27))) (l27 : K.lookup f27 = some ⟨oc27, od27, .func (PySem.W.fnOf "thins" "Train.thins" (defArgs s_Train_thins) (defBody s_Train_thins) (defScope s_Train_thins) .none kV27 dc27 pm27 an27 cd27 ct27), sl27⟩) (c27 : PySem.W.codeIn K cd27 "Train.thins" = true) (k27 : PySem.W.keepIn K (.ref f27) = true)
    {f28 : Addr} {oc28 kV28 dc28 pm28 cd28 ct28 : Value} {od28 an28 : Option Addr} {sl28 : Array (Option Value)}
    (a28 : PySem.W.findIn K (.ref C_Train) "names" = some (some (.ref f28))) (l28 : K.lookup f28 = some ⟨oc28, od28, .func (PySem.W.fnOf "names" "Train.names" (defArgs s_Train_names) (defBody s_Train_names) (defScope s_Train_names) .none kV28 dc28 pm28 an28 cd28 ct28), sl28⟩) (c28 : PySem.W.codeIn K cd28 "Train.names" = true) (k28 : PySem.W.keepIn K (.ref f28) = true)
    {f29 : Addr} {oc29 kV29 dc29 pm29 cd29 ct29 : Value} {od29 an29 : Option Addr} {sl29 : Array (Option Value)}
    (a29 : PySem.W.findIn K (.ref C_Train) "row" = some (some (.ref f29))) (l29 : K.lookup f29 = some ⟨oc29, od29, .func (PySem.W.fnOf "row" "Train.row" (defArgs s_Train_row) (defBody s_Train_row) (defScope s_Train_row) .none kV29 dc29 pm29 an29 cd29 ct29), sl29⟩) (c29 : PySem.W.codeIn K cd29 "Train.row" = true) (k29 : PySem.W.keepIn K (.ref f29) = true)
    {f30 : Addr} {oc30 kV30 dc30 pm30 cd30 ct30 : Value} {od30 an30 : Option Addr} {sl30 : Array (Option Value)}
    (a30 : PySem.W.nsIn K mainGlobals "_law_cell" = some (some (.ref f30))) (l30 : K.lookup f30 = some ⟨oc30, od30, .func (PySem.W.fnOf "_law_cell" "_law_cell" (defArgs s_law_cell) (defBody s_law_cell) (defScope s_law_cell) .none kV30 dc30 pm30 an30 cd30 ct30), sl30⟩) (c30 : PySem.W.codeIn K cd30 "_law_cell" = true) (k30 : PySem.W.keepIn K (.ref f30) = true)
    {f31 : Addr} {oc31 kV31 dc31 pm31 cd31 ct31 : Value} {od31 an31 : Option Addr} {sl31 : Array (Option Value)}
    (a31 : PySem.W.nsIn K mainGlobals "_law_box" = some (some (.ref f31))) (l31 : K.lookup f31 = some ⟨oc31, od31, .func (PySem.W.fnOf "_law_box" "_law_box" (defArgs s_law_box) (defBody s_law_box) (defScope s_law_box) .none kV31 dc31 pm31 an31 cd31 ct31), sl31⟩) (c31 : PySem.W.codeIn K cd31 "_law_box" = true) (k31 : PySem.W.keepIn K (.ref f31) = true)
    {f32 : Addr} {oc32 kV32 dc32 pm32 cd32 ct32 : Value} {od32 an32 : Option Addr} {sl32 : Array (Option Value)}
    (a32 : PySem.W.nsIn K mainGlobals "_law_take" = some (some (.ref f32))) (l32 : K.lookup f32 = some ⟨oc32, od32, .func (PySem.W.fnOf "_law_take" "_law_take" (defArgs s_law_take) (defBody s_law_take) (defScope s_law_take) .none kV32 dc32 pm32 an32 cd32 ct32), sl32⟩) (c32 : PySem.W.codeIn K cd32 "_law_take" = true) (k32 : PySem.W.keepIn K (.ref f32) = true)
    {f33 : Addr} {oc33 kV33 dc33 pm33 cd33 ct33 : Value} {od33 an33 : Option Addr} {sl33 : Array (Option Value)}
    (a33 : PySem.W.nsIn K mainGlobals "_law_names" = some (some (.ref f33))) (l33 : K.lookup f33 = some ⟨oc33, od33, .func (PySem.W.fnOf "_law_names" "_law_names" (defArgs s_law_names) (defBody s_law_names) (defScope s_law_names) .none kV33 dc33 pm33 an33 cd33 ct33), sl33⟩) (c33 : PySem.W.codeIn K cd33 "_law_names" = true) (k33 : PySem.W.keepIn K (.ref f33) = true)
    {f34 : Addr} {oc34 kV34 dc34 pm34 cd34 ct34 : Value} {od34 an34 : Option Addr} {sl34 : Array (Option Value)}
    (a34 : PySem.W.nsIn K mainGlobals "_law_number" = some (some (.ref f34))) (l34 : K.lookup f34 = some ⟨oc34, od34, .func (PySem.W.fnOf "_law_number" "_law_number" (defArgs s_law_number) (defBody s_law_number) (defScope s_law_number) .none kV34 dc34 pm34 an34 cd34 ct34), sl34⟩) (c34 : PySem.W.codeIn K cd34 "_law_number" = true) (k34 : PySem.W.keepIn K (.ref f34) = true)
    {f35 : Addr} {oc35 kV35 dc35 pm35 cd35 ct35 : Value} {od35 an35 : Option Addr} {sl35 : Array (Option Value)}
    (a35 : PySem.W.nsIn K mainGlobals "_law_vessel_row" = some (some (.ref f35))) (l35 : K.lookup f35 = some ⟨oc35, od35, .func (PySem.W.fnOf "_law_vessel_row" "_law_vessel_row" (defArgs s_law_vessel_row) (defBody s_law_vessel_row) (defScope s_law_vessel_row) .none kV35 dc35 pm35 an35 cd35 ct35), sl35⟩) (c35 : PySem.W.codeIn K cd35 "_law_vessel_row" = true) (k35 : PySem.W.keepIn K (.ref f35) = true)
    {f36 : Addr} {oc36 kV36 dc36 pm36 cd36 ct36 : Value} {od36 an36 : Option Addr} {sl36 : Array (Option Value)}
    (a36 : PySem.W.nsIn K mainGlobals "_law_vessel" = some (some (.ref f36))) (l36 : K.lookup f36 = some ⟨oc36, od36, .func (PySem.W.fnOf "_law_vessel" "_law_vessel" (defArgs s_law_vessel) (defBody s_law_vessel) (defScope s_law_vessel) .none kV36 dc36 pm36 an36 cd36 ct36), sl36⟩) (c36 : PySem.W.codeIn K cd36 "_law_vessel" = true) (k36 : PySem.W.keepIn K (.ref f36) = true)
    {f37 : Addr} {oc37 kV37 dc37 pm37 cd37 ct37 : Value} {od37 an37 : Option Addr} {sl37 : Array (Option Value)}
    (a37 : PySem.W.nsIn K mainGlobals "_law_all_let" = some (some (.ref f37))) (l37 : K.lookup f37 = some ⟨oc37, od37, .func (PySem.W.fnOf "_law_all_let" "_law_all_let" (defArgs s_law_all_let) (defBody s_law_all_let) (defScope s_law_all_let) .none kV37 dc37 pm37 an37 cd37 ct37), sl37⟩) (c37 : PySem.W.codeIn K cd37 "_law_all_let" = true) (k37 : PySem.W.keepIn K (.ref f37) = true)
    {f38 : Addr} {oc38 kV38 dc38 pm38 cd38 ct38 : Value} {od38 an38 : Option Addr} {sl38 : Array (Option Value)}
    (a38 : PySem.W.nsIn K mainGlobals "_law_right" = some (some (.ref f38))) (l38 : K.lookup f38 = some ⟨oc38, od38, .func (PySem.W.fnOf "_law_right" "_law_right" (defArgs s_law_right) (defBody s_law_right) (defScope s_law_right) .none kV38 dc38 pm38 an38 cd38 ct38), sl38⟩) (c38 : PySem.W.codeIn K cd38 "_law_right" = true) (k38 : PySem.W.keepIn K (.ref f38) = true)
    {f39 : Addr} {oc39 kV39 dc39 pm39 cd39 ct39 : Value} {od39 an39 : Option Addr} {sl39 : Array (Option Value)}
    (a39 : PySem.W.nsIn K mainGlobals "_law_no_kind" = some (some (.ref f39))) (l39 : K.lookup f39 = some ⟨oc39, od39, .func (PySem.W.fnOf "_law_no_kind" "_law_no_kind" (defArgs s_law_no_kind) (defBody s_law_no_kind) (defScope s_law_no_kind) .none kV39 dc39 pm39 an39 cd39 ct39), sl39⟩) (c39 : PySem.W.codeIn K cd39 "_law_no_kind" = true) (k39 : PySem.W.keepIn K (.ref f39) = true)
    {f40 : Addr} {oc40 kV40 dc40 pm40 cd40 ct40 : Value} {od40 an40 : Option Addr} {sl40 : Array (Option Value)}
    (a40 : PySem.W.nsIn K mainGlobals "_law_vessels" = some (some (.ref f40))) (l40 : K.lookup f40 = some ⟨oc40, od40, .func (PySem.W.fnOf "_law_vessels" "_law_vessels" (defArgs s_law_vessels) (defBody s_law_vessels) (defScope s_law_vessels) .none kV40 dc40 pm40 an40 cd40 ct40), sl40⟩) (c40 : PySem.W.codeIn K cd40 "_law_vessels" = true) (k40 : PySem.W.keepIn K (.ref f40) = true)
    {f41 : Addr} {oc41 kV41 dc41 pm41 cd41 ct41 : Value} {od41 an41 : Option Addr} {sl41 : Array (Option Value)}
    (a41 : PySem.W.nsIn K mainGlobals "law" = some (some (.ref f41))) (l41 : K.lookup f41 = some ⟨oc41, od41, .func (PySem.W.fnOf "law" "law" (defArgs s_law) (defBody s_law) (defScope s_law) .none kV41 dc41 pm41 an41 cd41 ct41), sl41⟩) (c41 : PySem.W.codeIn K cd41 "law" = true) (k41 : PySem.W.keepIn K (.ref f41) = true)
    (z_all : PySem.W.nsIn K mainGlobals "all" = some none)
    (z_bool : PySem.W.nsIn K mainGlobals "bool" = some none)
    (z_int : PySem.W.nsIn K mainGlobals "int" = some none)
    (z_isinstance : PySem.W.nsIn K mainGlobals "isinstance" = some none)
    (z_len : PySem.W.nsIn K mainGlobals "len" = some none)
    (z_list : PySem.W.nsIn K mainGlobals "list" = some none)
    (z_max : PySem.W.nsIn K mainGlobals "max" = some none)
    (z_min : PySem.W.nsIn K mainGlobals "min" = some none)
    (z_range : PySem.W.nsIn K mainGlobals "range" = some none)
    (z_repr : PySem.W.nsIn K mainGlobals "repr" = some none)
    (z_str : PySem.W.nsIn K mainGlobals "str" = some none)
    (z_tuple : PySem.W.nsIn K mainGlobals "tuple" = some none)
    {t_LETTERS : Tok} (y_LETTERS : PySem.W.nsIn K mainGlobals "LETTERS" = some (some (.str "abcdefghijklmnopqrstuvwxyz" t_LETTERS)))
    {t_LONGEST_NAME : Tok} (y_LONGEST_NAME : PySem.W.nsIn K mainGlobals "LONGEST_NAME" = some (some (.int 8 t_LONGEST_NAME)))
    {t_MOST_HOUR : Tok} (y_MOST_HOUR : PySem.W.nsIn K mainGlobals "MOST_HOUR" = some (some (.int 1000000 t_MOST_HOUR)))
    {t_MOST_ICE : Tok} (y_MOST_ICE : PySem.W.nsIn K mainGlobals "MOST_ICE" = some (some (.int 1000000 t_MOST_ICE)))
    {t_MOST_DEPTH : Tok} (y_MOST_DEPTH : PySem.W.nsIn K mainGlobals "MOST_DEPTH" = some (some (.int 1000 t_MOST_DEPTH)))
    {t_MOST_LENGTH : Tok} (y_MOST_LENGTH : PySem.W.nsIn K mainGlobals "MOST_LENGTH" = some (some (.int 1000 t_MOST_LENGTH)))
    {t_MOST_GROWTH : Tok} (y_MOST_GROWTH : PySem.W.nsIn K mainGlobals "MOST_GROWTH" = some (some (.int 1000 t_MOST_GROWTH)))
    {t_MOST_IN_TRAIN : Tok} (y_MOST_IN_TRAIN : PySem.W.nsIn K mainGlobals "MOST_IN_TRAIN" = some (some (.int 6 t_MOST_IN_TRAIN)))
    (p1_Channel : PySem.W.plainGet K C_Channel Str.empty = true)
    (p2_Channel : PySem.W.hasDictIn K C_Channel = true)
    (p3_Channel : PySem.W.plainOver K C_Channel = true)
    (p4_Channel : PySem.W.findIn K (.ref C_Channel) "__setattr__" = some (some (.builtin "object.__setattr__")))
    (nn_Channel_name : PySem.W.findIn K (.ref C_Channel) "name" = some none)
    (nn_Channel_one : PySem.W.findIn K (.ref C_Channel) "one" = some none)
    (nn_Channel_other : PySem.W.findIn K (.ref C_Channel) "other" = some none)
    (nn_Channel_hours : PySem.W.findIn K (.ref C_Channel) "hours" = some none)
    (nn_Channel_depth : PySem.W.findIn K (.ref C_Channel) "depth" = some none)
    (nn_Channel_first : PySem.W.findIn K (.ref C_Channel) "first" = some none)
    (nn_Channel_growth : PySem.W.findIn K (.ref C_Channel) "growth" = some none)
    (nn_Channel_most : PySem.W.findIn K (.ref C_Channel) "most" = some none)
    (p1_Vessel : PySem.W.plainGet K C_Vessel Str.empty = true)
    (p2_Vessel : PySem.W.hasDictIn K C_Vessel = true)
    (p3_Vessel : PySem.W.plainOver K C_Vessel = true)
    (p4_Vessel : PySem.W.findIn K (.ref C_Vessel) "__setattr__" = some (some (.builtin "object.__setattr__")))
    (nn_Vessel_name : PySem.W.findIn K (.ref C_Vessel) "name" = some none)
    (nn_Vessel_port : PySem.W.findIn K (.ref C_Vessel) "port" = some none)
    (nn_Vessel_hour : PySem.W.findIn K (.ref C_Vessel) "hour" = some none)
    (nn_Vessel_strength : PySem.W.findIn K (.ref C_Vessel) "strength" = some none)
    (nn_Vessel_draught : PySem.W.findIn K (.ref C_Vessel) "draught" = some none)
    (p1_Breaker : PySem.W.plainGet K C_Breaker Str.empty = true)
    (p2_Breaker : PySem.W.hasDictIn K C_Breaker = true)
    (p3_Breaker : PySem.W.plainOver K C_Breaker = true)
    (p4_Breaker : PySem.W.findIn K (.ref C_Breaker) "__setattr__" = some (some (.builtin "object.__setattr__")))
    (nn_Breaker_name : PySem.W.findIn K (.ref C_Breaker) "name" = some none)
    (nn_Breaker_port : PySem.W.findIn K (.ref C_Breaker) "port" = some none)
    (nn_Breaker_hour : PySem.W.findIn K (.ref C_Breaker) "hour" = some none)
    (nn_Breaker_strength : PySem.W.findIn K (.ref C_Breaker) "strength" = some none)
    (nn_Breaker_draught : PySem.W.findIn K (.ref C_Breaker) "draught" = some none)
    (nn_Breaker_cut : PySem.W.findIn K (.ref C_Breaker) "cut" = some none)
    (p1_Ship : PySem.W.plainGet K C_Ship Str.empty = true)
    (p2_Ship : PySem.W.hasDictIn K C_Ship = true)
    (p3_Ship : PySem.W.plainOver K C_Ship = true)
    (p4_Ship : PySem.W.findIn K (.ref C_Ship) "__setattr__" = some (some (.builtin "object.__setattr__")))
    (nn_Ship_name : PySem.W.findIn K (.ref C_Ship) "name" = some none)
    (nn_Ship_port : PySem.W.findIn K (.ref C_Ship) "port" = some none)
    (nn_Ship_hour : PySem.W.findIn K (.ref C_Ship) "hour" = some none)
    (nn_Ship_strength : PySem.W.findIn K (.ref C_Ship) "strength" = some none)
    (nn_Ship_draught : PySem.W.findIn K (.ref C_Ship) "draught" = some none)
    (nn_Ship_goal : PySem.W.findIn K (.ref C_Ship) "goal" = some none)
    (p1_Train : PySem.W.plainGet K C_Train Str.empty = true)
    (p2_Train : PySem.W.hasDictIn K C_Train = true)
    (p3_Train : PySem.W.plainOver K C_Train = true)
    (p4_Train : PySem.W.findIn K (.ref C_Train) "__setattr__" = some (some (.builtin "object.__setattr__")))
    (nn_Train_name : PySem.W.findIn K (.ref C_Train) "name" = some none)
    (nn_Train_port : PySem.W.findIn K (.ref C_Train) "port" = some none)
    (nn_Train_hour : PySem.W.findIn K (.ref C_Train) "hour" = some none)
    (nn_Train_strength : PySem.W.findIn K (.ref C_Train) "strength" = some none)
    (nn_Train_draught : PySem.W.findIn K (.ref C_Train) "draught" = some none)
    (nn_Train_crew : PySem.W.findIn K (.ref C_Train) "crew" = some none)
    (nn_Train_thinned : PySem.W.findIn K (.ref C_Train) "thinned" = some none)
    (hn_class : PySem.W.specialIn K (.builtin "object.__class__") "__get__" = some (some (.builtin "getset_descriptor.__get__")))
    (ht_class : PySem.W.takesIn K (.builtin "object.__class__") = some true)
    (yc_Breaker : PySem.W.isClsIn K C_Breaker = true)
    (yt_Breaker : PySem.W.typeIn K (.ref C_Breaker) = some (.type "type"))
    (tf_y_Breaker : PySem.W.subIn K (.ref C_Breaker) (.ref C_Breaker) = some true)
    (yc_Ship : PySem.W.isClsIn K C_Ship = true)
    (yt_Ship : PySem.W.typeIn K (.ref C_Ship) = some (.type "type"))
    (tf_y_Ship : PySem.W.subIn K (.ref C_Ship) (.ref C_Ship) = some true)
    (yc_Train : PySem.W.isClsIn K C_Train = true)
    (yt_Train : PySem.W.typeIn K (.ref C_Train) = some (.type "type"))
    (tf_y_Train : PySem.W.subIn K (.ref C_Train) (.ref C_Train) = some true)
    (yc_Vessel : PySem.W.isClsIn K C_Vessel = true)
    (yt_Vessel : PySem.W.typeIn K (.ref C_Vessel) = some (.type "type"))
    (tf_y_Vessel : PySem.W.subIn K (.ref C_Vessel) (.ref C_Vessel) = some true)
    (id_Channel : PySem.W.findIn K (.ref C_Channel) "__class__" = some (some (.builtin "object.__class__")))
    (in_Channel : PySem.W.mroIn K C_Channel (.type "object") = some true)
    (ea_Channel : PySem.W.findIn K (.ref C_Channel) "__eq__" = some (some (.builtin "object.__eq__")))
    (eb_Channel : PySem.W.findIn K (.ref C_Channel) "__ne__" = some (some (.builtin "object.__ne__")))
    (tf_eo_Channel : PySem.W.subIn K (.ref C_Channel) (.type "object") = some true)
    (tf_o_Channel_int : PySem.W.subIn K (.ref C_Channel) (.type "int") = some false)
    (tf_o_Channel_bool : PySem.W.subIn K (.ref C_Channel) (.type "bool") = some false)
    (tf_o_Channel_str : PySem.W.subIn K (.ref C_Channel) (.type "str") = some false)
    (tf_o_Channel_list : PySem.W.subIn K (.ref C_Channel) (.type "list") = some false)
    (tf_o_Channel_tuple : PySem.W.subIn K (.ref C_Channel) (.type "tuple") = some false)
    (tf_o_Channel_dict : PySem.W.subIn K (.ref C_Channel) (.type "dict") = some false)
    (tf_k_Channel_Breaker : PySem.W.subIn K (.ref C_Channel) (.ref C_Breaker) = some false)
    (tf_k_Channel_Ship : PySem.W.subIn K (.ref C_Channel) (.ref C_Ship) = some false)
    (tf_k_Channel_Train : PySem.W.subIn K (.ref C_Channel) (.ref C_Train) = some false)
    (tf_k_Channel_Vessel : PySem.W.subIn K (.ref C_Channel) (.ref C_Vessel) = some false)
    (id_Vessel : PySem.W.findIn K (.ref C_Vessel) "__class__" = some (some (.builtin "object.__class__")))
    (in_Vessel : PySem.W.mroIn K C_Vessel (.type "object") = some true)
    (ea_Vessel : PySem.W.findIn K (.ref C_Vessel) "__eq__" = some (some (.builtin "object.__eq__")))
    (eb_Vessel : PySem.W.findIn K (.ref C_Vessel) "__ne__" = some (some (.builtin "object.__ne__")))
    (tf_eo_Vessel : PySem.W.subIn K (.ref C_Vessel) (.type "object") = some true)
    (tf_o_Vessel_int : PySem.W.subIn K (.ref C_Vessel) (.type "int") = some false)
    (tf_o_Vessel_bool : PySem.W.subIn K (.ref C_Vessel) (.type "bool") = some false)
    (tf_o_Vessel_str : PySem.W.subIn K (.ref C_Vessel) (.type "str") = some false)
    (tf_o_Vessel_list : PySem.W.subIn K (.ref C_Vessel) (.type "list") = some false)
    (tf_o_Vessel_tuple : PySem.W.subIn K (.ref C_Vessel) (.type "tuple") = some false)
    (tf_o_Vessel_dict : PySem.W.subIn K (.ref C_Vessel) (.type "dict") = some false)
    (tf_k_Vessel_Breaker : PySem.W.subIn K (.ref C_Vessel) (.ref C_Breaker) = some false)
    (tf_k_Vessel_Ship : PySem.W.subIn K (.ref C_Vessel) (.ref C_Ship) = some false)
    (tf_k_Vessel_Train : PySem.W.subIn K (.ref C_Vessel) (.ref C_Train) = some false)
    (tf_k_Vessel_Vessel : PySem.W.subIn K (.ref C_Vessel) (.ref C_Vessel) = some true)
    (id_Breaker : PySem.W.findIn K (.ref C_Breaker) "__class__" = some (some (.builtin "object.__class__")))
    (in_Breaker : PySem.W.mroIn K C_Breaker (.type "object") = some true)
    (ea_Breaker : PySem.W.findIn K (.ref C_Breaker) "__eq__" = some (some (.builtin "object.__eq__")))
    (eb_Breaker : PySem.W.findIn K (.ref C_Breaker) "__ne__" = some (some (.builtin "object.__ne__")))
    (tf_eo_Breaker : PySem.W.subIn K (.ref C_Breaker) (.type "object") = some true)
    (tf_o_Breaker_int : PySem.W.subIn K (.ref C_Breaker) (.type "int") = some false)
    (tf_o_Breaker_bool : PySem.W.subIn K (.ref C_Breaker) (.type "bool") = some false)
    (tf_o_Breaker_str : PySem.W.subIn K (.ref C_Breaker) (.type "str") = some false)
    (tf_o_Breaker_list : PySem.W.subIn K (.ref C_Breaker) (.type "list") = some false)
    (tf_o_Breaker_tuple : PySem.W.subIn K (.ref C_Breaker) (.type "tuple") = some false)
    (tf_o_Breaker_dict : PySem.W.subIn K (.ref C_Breaker) (.type "dict") = some false)
    (tf_k_Breaker_Breaker : PySem.W.subIn K (.ref C_Breaker) (.ref C_Breaker) = some true)
    (tf_k_Breaker_Ship : PySem.W.subIn K (.ref C_Breaker) (.ref C_Ship) = some false)
    (tf_k_Breaker_Train : PySem.W.subIn K (.ref C_Breaker) (.ref C_Train) = some false)
    (tf_k_Breaker_Vessel : PySem.W.subIn K (.ref C_Breaker) (.ref C_Vessel) = some true)
    (id_Ship : PySem.W.findIn K (.ref C_Ship) "__class__" = some (some (.builtin "object.__class__")))
    (in_Ship : PySem.W.mroIn K C_Ship (.type "object") = some true)
    (ea_Ship : PySem.W.findIn K (.ref C_Ship) "__eq__" = some (some (.builtin "object.__eq__")))
    (eb_Ship : PySem.W.findIn K (.ref C_Ship) "__ne__" = some (some (.builtin "object.__ne__")))
    (tf_eo_Ship : PySem.W.subIn K (.ref C_Ship) (.type "object") = some true)
    (tf_o_Ship_int : PySem.W.subIn K (.ref C_Ship) (.type "int") = some false)
    (tf_o_Ship_bool : PySem.W.subIn K (.ref C_Ship) (.type "bool") = some false)
    (tf_o_Ship_str : PySem.W.subIn K (.ref C_Ship) (.type "str") = some false)
    (tf_o_Ship_list : PySem.W.subIn K (.ref C_Ship) (.type "list") = some false)
    (tf_o_Ship_tuple : PySem.W.subIn K (.ref C_Ship) (.type "tuple") = some false)
    (tf_o_Ship_dict : PySem.W.subIn K (.ref C_Ship) (.type "dict") = some false)
    (tf_k_Ship_Breaker : PySem.W.subIn K (.ref C_Ship) (.ref C_Breaker) = some false)
    (tf_k_Ship_Ship : PySem.W.subIn K (.ref C_Ship) (.ref C_Ship) = some true)
    (tf_k_Ship_Train : PySem.W.subIn K (.ref C_Ship) (.ref C_Train) = some false)
    (tf_k_Ship_Vessel : PySem.W.subIn K (.ref C_Ship) (.ref C_Vessel) = some true)
    (id_Train : PySem.W.findIn K (.ref C_Train) "__class__" = some (some (.builtin "object.__class__")))
    (in_Train : PySem.W.mroIn K C_Train (.type "object") = some true)
    (ea_Train : PySem.W.findIn K (.ref C_Train) "__eq__" = some (some (.builtin "object.__eq__")))
    (eb_Train : PySem.W.findIn K (.ref C_Train) "__ne__" = some (some (.builtin "object.__ne__")))
    (tf_eo_Train : PySem.W.subIn K (.ref C_Train) (.type "object") = some true)
    (tf_o_Train_int : PySem.W.subIn K (.ref C_Train) (.type "int") = some false)
    (tf_o_Train_bool : PySem.W.subIn K (.ref C_Train) (.type "bool") = some false)
    (tf_o_Train_str : PySem.W.subIn K (.ref C_Train) (.type "str") = some false)
    (tf_o_Train_list : PySem.W.subIn K (.ref C_Train) (.type "list") = some false)
    (tf_o_Train_tuple : PySem.W.subIn K (.ref C_Train) (.type "tuple") = some false)
    (tf_o_Train_dict : PySem.W.subIn K (.ref C_Train) (.type "dict") = some false)
    (tf_k_Train_Breaker : PySem.W.subIn K (.ref C_Train) (.ref C_Breaker) = some false)
    (tf_k_Train_Ship : PySem.W.subIn K (.ref C_Train) (.ref C_Ship) = some false)
    (tf_k_Train_Train : PySem.W.subIn K (.ref C_Train) (.ref C_Train) = some true)
    (tf_k_Train_Vessel : PySem.W.subIn K (.ref C_Train) (.ref C_Vessel) = some true)
    (ku_NoneType_Breaker : PySem.W.subIn K (.type "NoneType") (.ref C_Breaker) = some false)
    (ku_NoneType_Ship : PySem.W.subIn K (.type "NoneType") (.ref C_Ship) = some false)
    (ku_NoneType_Train : PySem.W.subIn K (.type "NoneType") (.ref C_Train) = some false)
    (ku_NoneType_Vessel : PySem.W.subIn K (.type "NoneType") (.ref C_Vessel) = some false)
    (ku_int_Breaker : PySem.W.subIn K (.type "int") (.ref C_Breaker) = some false)
    (ku_int_Ship : PySem.W.subIn K (.type "int") (.ref C_Ship) = some false)
    (ku_int_Train : PySem.W.subIn K (.type "int") (.ref C_Train) = some false)
    (ku_int_Vessel : PySem.W.subIn K (.type "int") (.ref C_Vessel) = some false)
    (ku_str_Breaker : PySem.W.subIn K (.type "str") (.ref C_Breaker) = some false)
    (ku_str_Ship : PySem.W.subIn K (.type "str") (.ref C_Ship) = some false)
    (ku_str_Train : PySem.W.subIn K (.type "str") (.ref C_Train) = some false)
    (ku_str_Vessel : PySem.W.subIn K (.type "str") (.ref C_Vessel) = some false)
    (ku_bool_Breaker : PySem.W.subIn K (.type "bool") (.ref C_Breaker) = some false)
    (ku_bool_Ship : PySem.W.subIn K (.type "bool") (.ref C_Ship) = some false)
    (ku_bool_Train : PySem.W.subIn K (.type "bool") (.ref C_Train) = some false)
    (ku_bool_Vessel : PySem.W.subIn K (.type "bool") (.ref C_Vessel) = some false)
    (ku_list_Breaker : PySem.W.subIn K (.type "list") (.ref C_Breaker) = some false)
    (ku_list_Ship : PySem.W.subIn K (.type "list") (.ref C_Ship) = some false)
    (ku_list_Train : PySem.W.subIn K (.type "list") (.ref C_Train) = some false)
    (ku_list_Vessel : PySem.W.subIn K (.type "list") (.ref C_Vessel) = some false)
    (ku_dict_Breaker : PySem.W.subIn K (.type "dict") (.ref C_Breaker) = some false)
    (ku_dict_Ship : PySem.W.subIn K (.type "dict") (.ref C_Ship) = some false)
    (ku_dict_Train : PySem.W.subIn K (.type "dict") (.ref C_Train) = some false)
    (ku_dict_Vessel : PySem.W.subIn K (.type "dict") (.ref C_Vessel) = some false)
    (ku_tuple_Breaker : PySem.W.subIn K (.type "tuple") (.ref C_Breaker) = some false)
    (ku_tuple_Ship : PySem.W.subIn K (.type "tuple") (.ref C_Ship) = some false)
    (ku_tuple_Train : PySem.W.subIn K (.type "tuple") (.ref C_Train) = some false)
    (ku_tuple_Vessel : PySem.W.subIn K (.type "tuple") (.ref C_Vessel) = some false)
    (mm_Breaker : PySem.W.makesIn K C_Breaker = true)
    (mi_Breaker : PySem.W.findIn K (.ref C_Breaker) "__init__" = some (some (.ref f18)))
    (mf_Breaker : PySem.W.isFn K (.ref f18) = true)
    (mq_Breaker : PySem.W.keepIn K (.ref C_Breaker) = true)
    (mm_Channel : PySem.W.makesIn K C_Channel = true)
    (mi_Channel : PySem.W.findIn K (.ref C_Channel) "__init__" = some (some (.ref f10)))
    (mf_Channel : PySem.W.isFn K (.ref f10) = true)
    (mq_Channel : PySem.W.keepIn K (.ref C_Channel) = true)
    (mm_Ship : PySem.W.makesIn K C_Ship = true)
    (mi_Ship : PySem.W.findIn K (.ref C_Ship) "__init__" = some (some (.ref f22)))
    (mf_Ship : PySem.W.isFn K (.ref f22) = true)
    (mq_Ship : PySem.W.keepIn K (.ref C_Ship) = true)
    (mm_Train : PySem.W.makesIn K C_Train = true)
    (mi_Train : PySem.W.findIn K (.ref C_Train) "__init__" = some (some (.ref f25)))
    (mf_Train : PySem.W.isFn K (.ref f25) = true)
    (mq_Train : PySem.W.keepIn K (.ref C_Train) = true)
    (mm_Vessel : PySem.W.makesIn K C_Vessel = true)
    (mi_Vessel : PySem.W.findIn K (.ref C_Vessel) "__init__" = some (some (.ref f12)))
    (mf_Vessel : PySem.W.isFn K (.ref f12) = true)
    (mq_Vessel : PySem.W.keepIn K (.ref C_Vessel) = true)
    (ma_Breaker_row : PySem.W.findIn K (.ref C_Breaker) "row" = some (some (.ref f21)))
    (mb_Breaker_row : PySem.W.isFn K (.ref f21) = true)
    (ma_Breaker_settle : PySem.W.findIn K (.ref C_Breaker) "settle" = some (some (.ref f13)))
    (mb_Breaker_settle : PySem.W.isFn K (.ref f13) = true)
    (ma_Breaker_thins : PySem.W.findIn K (.ref C_Breaker) "thins" = some (some (.ref f20)))
    (mb_Breaker_thins : PySem.W.isFn K (.ref f20) = true)
    (ma_Ship_row : PySem.W.findIn K (.ref C_Ship) "row" = some (some (.ref f24)))
    (mb_Ship_row : PySem.W.isFn K (.ref f24) = true)
    (ma_Ship_settle : PySem.W.findIn K (.ref C_Ship) "settle" = some (some (.ref f13)))
    (mb_Ship_settle : PySem.W.isFn K (.ref f13) = true)
    (ma_Ship_thins : PySem.W.findIn K (.ref C_Ship) "thins" = some (some (.ref f15)))
    (mb_Ship_thins : PySem.W.isFn K (.ref f15) = true)
    (ma_Train_kind : PySem.W.findIn K (.ref C_Train) "kind" = some (some (.ref f26)))
    (mb_Train_kind : PySem.W.isFn K (.ref f26) = true)
    (ma_Train_lets : PySem.W.findIn K (.ref C_Train) "lets" = some (some (.ref f16)))
    (mb_Train_lets : PySem.W.isFn K (.ref f16) = true)
    (ma_Train_names : PySem.W.findIn K (.ref C_Train) "names" = some (some (.ref f28)))
    (mb_Train_names : PySem.W.isFn K (.ref f28) = true)
    (ma_Train_row : PySem.W.findIn K (.ref C_Train) "row" = some (some (.ref f29)))
    (mb_Train_row : PySem.W.isFn K (.ref f29) = true)
    (ma_Train_settle : PySem.W.findIn K (.ref C_Train) "settle" = some (some (.ref f13)))
    (mb_Train_settle : PySem.W.isFn K (.ref f13) = true)
    (ma_Train_thins : PySem.W.findIn K (.ref C_Train) "thins" = some (some (.ref f27)))
    (mb_Train_thins : PySem.W.isFn K (.ref f27) = true)
    (ma_Vessel_row : PySem.W.findIn K (.ref C_Vessel) "row" = some (some (.ref f17)))
    (mb_Vessel_row : PySem.W.isFn K (.ref f17) = true)
    (ma_Vessel_settle : PySem.W.findIn K (.ref C_Vessel) "settle" = some (some (.ref f13)))
    (mb_Vessel_settle : PySem.W.isFn K (.ref f13) = true)
    (ma_Vessel_thins : PySem.W.findIn K (.ref C_Vessel) "thins" = some (some (.ref f15)))
    (mb_Vessel_thins : PySem.W.isFn K (.ref f15) = true)
    (ra_Vessel : PySem.W.readsIn K C_Vessel (.type "type") = true)
    (gb_Vessel : PySem.W.specialIn K (.ref C_Vessel) "__getattribute__" = some (some (.builtin "type.__getattribute__")))
    (ra_IceError : PySem.W.readsIn K C_IceError (.type "type") = true)
    (gb_IceError : PySem.W.specialIn K (.ref C_IceError) "__getattribute__" = some (some (.builtin "type.__getattribute__")))
    (vj_IceError : PySem.W.findCls K (.ref C_IceError) (.type "type") "__init__" = some (.val (.builtin "ValueError.__init__")))
    (cn_Vessel___init__ : PySem.W.findCls K (.ref C_Vessel) (.type "type") "__init__" = some (.val (.ref f12)))
    (cn_Vessel_row : PySem.W.findCls K (.ref C_Vessel) (.type "type") "row" = some (.val (.ref f17)))
    {nm_NoName q_NoName : Str} {N_NoName : Addr} {bs_NoName : List Value} {sn_NoName : List Str} {sub_NoName : List Value} {ab_NoName : Bool} {col_NoName : Option Bool} {dd_NoName : Option Addr} {m0_NoName m1_NoName m2_NoName m3_NoName m5_NoName : Option Value}
    (xl_NoName : K.lookup C_NoName = some (excClassObj nm_NoName q_NoName C_NoName N_NoName bs_NoName [.ref C_IceError, .type "ValueError", .type "Exception", .type "BaseException", .type "object"] true sn_NoName sub_NoName ab_NoName col_NoName dd_NoName m0_NoName m1_NoName m2_NoName m3_NoName m5_NoName "ValueError.__new__"))
    (xs_NoName : PySem.W.findIn K (.ref C_NoName) "__setattr__" = some (some (.builtin "object.__setattr__")))
    (xe_NoName : PySem.W.subIn K (.ref C_NoName) (.type "BaseException") = some true)
    (xt_NoName : PySem.W.typeIn K (.ref C_NoName) = some (.type "type"))
    (xk_NoName : PySem.W.keepIn K (.ref C_NoName) = true)
    (xy_NoName : PySem.W.typeIn K (.ref f1) = some (.type "function"))
    (xg_NoName : PySem.W.findIn K (.ref C_NoName) "__getattribute__" = some (some (.builtin "BaseException.__getattribute__")))
    (xh_NoName : PySem.W.findIn K (.ref C_NoName) "__getattr__" = some none)
    (xd_NoName : PySem.W.hasDictIn K C_NoName = true)
    (nn_NoName_found : PySem.W.findIn K (.ref C_NoName) "found" = some none)
    {nm_NoNumber q_NoNumber : Str} {N_NoNumber : Addr} {bs_NoNumber : List Value} {sn_NoNumber : List Str} {sub_NoNumber : List Value} {ab_NoNumber : Bool} {col_NoNumber : Option Bool} {dd_NoNumber : Option Addr} {m0_NoNumber m1_NoNumber m2_NoNumber m3_NoNumber m5_NoNumber : Option Value}
    (xl_NoNumber : K.lookup C_NoNumber = some (excClassObj nm_NoNumber q_NoNumber C_NoNumber N_NoNumber bs_NoNumber [.ref C_IceError, .type "ValueError", .type "Exception", .type "BaseException", .type "object"] true sn_NoNumber sub_NoNumber ab_NoNumber col_NoNumber dd_NoNumber m0_NoNumber m1_NoNumber m2_NoNumber m3_NoNumber m5_NoNumber "ValueError.__new__"))
    (xs_NoNumber : PySem.W.findIn K (.ref C_NoNumber) "__setattr__" = some (some (.builtin "object.__setattr__")))
    (xe_NoNumber : PySem.W.subIn K (.ref C_NoNumber) (.type "BaseException") = some true)
    (xt_NoNumber : PySem.W.typeIn K (.ref C_NoNumber) = some (.type "type"))
    (xk_NoNumber : PySem.W.keepIn K (.ref C_NoNumber) = true)
    (xy_NoNumber : PySem.W.typeIn K (.ref f2) = some (.type "function"))
    (xg_NoNumber : PySem.W.findIn K (.ref C_NoNumber) "__getattribute__" = some (some (.builtin "BaseException.__getattribute__")))
    (xh_NoNumber : PySem.W.findIn K (.ref C_NoNumber) "__getattr__" = some none)
    (xd_NoNumber : PySem.W.hasDictIn K C_NoNumber = true)
    (nn_NoNumber_found : PySem.W.findIn K (.ref C_NoNumber) "found" = some none)
    {nm_NoKind q_NoKind : Str} {N_NoKind : Addr} {bs_NoKind : List Value} {sn_NoKind : List Str} {sub_NoKind : List Value} {ab_NoKind : Bool} {col_NoKind : Option Bool} {dd_NoKind : Option Addr} {m0_NoKind m1_NoKind m2_NoKind m3_NoKind m5_NoKind : Option Value}
    (xl_NoKind : K.lookup C_NoKind = some (excClassObj nm_NoKind q_NoKind C_NoKind N_NoKind bs_NoKind [.ref C_IceError, .type "ValueError", .type "Exception", .type "BaseException", .type "object"] true sn_NoKind sub_NoKind ab_NoKind col_NoKind dd_NoKind m0_NoKind m1_NoKind m2_NoKind m3_NoKind m5_NoKind "ValueError.__new__"))
    (xs_NoKind : PySem.W.findIn K (.ref C_NoKind) "__setattr__" = some (some (.builtin "object.__setattr__")))
    (xe_NoKind : PySem.W.subIn K (.ref C_NoKind) (.type "BaseException") = some true)
    (xt_NoKind : PySem.W.typeIn K (.ref C_NoKind) = some (.type "type"))
    (xk_NoKind : PySem.W.keepIn K (.ref C_NoKind) = true)
    (xy_NoKind : PySem.W.typeIn K (.ref f3) = some (.type "function"))
    (xg_NoKind : PySem.W.findIn K (.ref C_NoKind) "__getattribute__" = some (some (.builtin "BaseException.__getattribute__")))
    (xh_NoKind : PySem.W.findIn K (.ref C_NoKind) "__getattr__" = some none)
    (xd_NoKind : PySem.W.hasDictIn K C_NoKind = true)
    (nn_NoKind_found : PySem.W.findIn K (.ref C_NoKind) "found" = some none)
    {nm_Doubled q_Doubled : Str} {N_Doubled : Addr} {bs_Doubled : List Value} {sn_Doubled : List Str} {sub_Doubled : List Value} {ab_Doubled : Bool} {col_Doubled : Option Bool} {dd_Doubled : Option Addr} {m0_Doubled m1_Doubled m2_Doubled m3_Doubled m5_Doubled : Option Value}
    (xl_Doubled : K.lookup C_Doubled = some (excClassObj nm_Doubled q_Doubled C_Doubled N_Doubled bs_Doubled [.ref C_IceError, .type "ValueError", .type "Exception", .type "BaseException", .type "object"] true sn_Doubled sub_Doubled ab_Doubled col_Doubled dd_Doubled m0_Doubled m1_Doubled m2_Doubled m3_Doubled m5_Doubled "ValueError.__new__"))
    (xs_Doubled : PySem.W.findIn K (.ref C_Doubled) "__setattr__" = some (some (.builtin "object.__setattr__")))
    (xe_Doubled : PySem.W.subIn K (.ref C_Doubled) (.type "BaseException") = some true)
    (xt_Doubled : PySem.W.typeIn K (.ref C_Doubled) = some (.type "type"))
    (xk_Doubled : PySem.W.keepIn K (.ref C_Doubled) = true)
    (xy_Doubled : PySem.W.typeIn K (.ref f4) = some (.type "function"))
    (xg_Doubled : PySem.W.findIn K (.ref C_Doubled) "__getattribute__" = some (some (.builtin "BaseException.__getattribute__")))
    (xh_Doubled : PySem.W.findIn K (.ref C_Doubled) "__getattr__" = some none)
    (xd_Doubled : PySem.W.hasDictIn K C_Doubled = true)
    (nn_Doubled_name : PySem.W.findIn K (.ref C_Doubled) "name" = some none)
    (xe_IceError : PySem.W.subIn K (.ref C_IceError) (.type "BaseException") = some true)
    (xt_IceError : PySem.W.typeIn K (.ref C_IceError) = some (.type "type"))
    (xc_IceError : PySem.W.isClsIn K C_IceError = true)
    (tf_NoName_IceError : PySem.W.subIn K (.ref C_NoName) (.ref C_IceError) = some true)
    (tf_NoNumber_IceError : PySem.W.subIn K (.ref C_NoNumber) (.ref C_IceError) = some true)
    (tf_NoKind_IceError : PySem.W.subIn K (.ref C_NoKind) (.ref C_IceError) = some true)
    (tf_Doubled_IceError : PySem.W.subIn K (.ref C_Doubled) (.ref C_IceError) = some true)
    (xc_NoKind : PySem.W.isClsIn K C_NoKind = true)
    (tf_NoName_NoKind : PySem.W.subIn K (.ref C_NoName) (.ref C_NoKind) = some false)
    (tf_NoNumber_NoKind : PySem.W.subIn K (.ref C_NoNumber) (.ref C_NoKind) = some false)
    (tf_NoKind_NoKind : PySem.W.subIn K (.ref C_NoKind) (.ref C_NoKind) = some true)
    (tf_Doubled_NoKind : PySem.W.subIn K (.ref C_Doubled) (.ref C_NoKind) = some false)
    : ∃ fd : FuncData, (∀ (s : Shared) (v : Value), BindsTo s fd ⟨[v], []⟩ [("_law_script", v)]) ∧ ∀ base : Heap, K.In base → base.Ns mainGlobals mg → FnOkG l.prog w K mg base 9 fa fd ["_law_script"] (sp_law K) := by
  have e := hfa.symm.trans (PySem.W.mg_of X G a41)
  cases e
  have F0 := fun_mk (st := s_wall) l0 c0 k0
  have b0 := F0.binds (ps := ["k"]) fun _ _ _ _ _ _ us hl => match us, hl with | [_], _ => rfl
  have F1 := fun_mk (st := s_NoName___init__) l1 c1 k1
  have b1 := F1.binds (ps := ["self", "found"]) fun _ _ _ _ _ _ us hl => match us, hl with | [_, _], _ => rfl
  have F2 := fun_mk (st := s_NoNumber___init__) l2 c2 k2
  have b2 := F2.binds (ps := ["self", "found"]) fun _ _ _ _ _ _ us hl => match us, hl with | [_, _], _ => rfl
  have F3 := fun_mk (st := s_NoKind___init__) l3 c3 k3
  have b3 := F3.binds (ps := ["self", "found"]) fun _ _ _ _ _ _ us hl => match us, hl with | [_, _], _ => rfl
  have F4 := fun_mk (st := s_Doubled___init__) l4 c4 k4
  have b4 := F4.binds (ps := ["self", "name"]) fun _ _ _ _ _ _ us hl => match us, hl with | [_, _], _ => rfl
  have F5 := fun_mk (st := s_is_whole) l5 c5 k5
  have b5 := F5.binds (ps := ["thing"]) fun _ _ _ _ _ _ us hl => match us, hl with | [_], _ => rfl
  have F6 := fun_mk (st := s_is_within) l6 c6 k6
  have b6 := F6.binds (ps := ["thing", "low", "high"]) fun _ _ _ _ _ _ us hl => match us, hl with | [_, _, _], _ => rfl
  have F7 := fun_mk (st := s_is_name) l7 c7 k7
  have b7 := F7.binds (ps := ["thing"]) fun _ _ _ _ _ _ us hl => match us, hl with | [_], _ => rfl
  have F8 := fun_mk (st := s_need_names) l8 c8 k8
  have b8 := F8.binds (ps := ["things"]) fun _ _ _ _ _ _ us hl => match us, hl with | [_], _ => rfl
  have F9 := fun_mk (st := s_need_numbers) l9 c9 k9
  have b9 := F9.binds (ps := ["rows"]) fun _ _ _ _ _ _ us hl => match us, hl with | [_], _ => rfl
  have F10 := fun_mk (st := s_Channel___init__) l10 c10 k10
  have b10 := F10.binds (ps := ["self", "name", "one", "other", "hours", "depth", "first", "growth", "most"]) fun _ _ _ _ _ _ us hl => match us, hl with | [_, _, _, _, _, _, _, _, _], _ => rfl
  have F11 := fun_mk (st := s_Channel_row) l11 c11 k11
  have b11 := F11.binds (ps := ["self"]) fun _ _ _ _ _ _ us hl => match us, hl with | [_], _ => rfl
  have F12 := fun_mk (st := s_Vessel___init__) l12 c12 k12
  have b12 := F12.binds (ps := ["self", "name", "port", "hour", "strength", "draught"]) fun _ _ _ _ _ _ us hl => match us, hl with | [_, _, _, _, _, _], _ => rfl
  have F13 := fun_mk (st := s_Vessel_settle) l13 c13 k13
  have b13 := F13.binds (ps := ["self", "name", "port", "hour", "strength", "draught"]) fun _ _ _ _ _ _ us hl => match us, hl with | [_, _, _, _, _, _], _ => rfl
  have F14 := fun_mk (st := s_Vessel_kind) l14 c14 k14
  have b14 := F14.binds (ps := ["self"]) fun _ _ _ _ _ _ us hl => match us, hl with | [_], _ => rfl
  have F15 := fun_mk (st := s_Vessel_thins) l15 c15 k15
  have b15 := F15.binds (ps := ["self"]) fun _ _ _ _ _ _ us hl => match us, hl with | [_], _ => rfl
  have F16 := fun_mk (st := s_Vessel_lets) l16 c16 k16
  have b16 := F16.binds (ps := ["self", "channel"]) fun _ _ _ _ _ _ us hl => match us, hl with | [_, _], _ => rfl
  have F17 := fun_mk (st := s_Vessel_row) l17 c17 k17
  have b17 := F17.binds (ps := ["self"]) fun _ _ _ _ _ _ us hl => match us, hl with | [_], _ => rfl
  have F18 := fun_mk (st := s_Breaker___init__) l18 c18 k18
  have b18 := F18.binds (ps := ["self", "name", "port", "hour", "strength", "draught", "cut"]) fun _ _ _ _ _ _ us hl => match us, hl with | [_, _, _, _, _, _, _], _ => rfl
  have F19 := fun_mk (st := s_Breaker_kind) l19 c19 k19
  have b19 := F19.binds (ps := ["self"]) fun _ _ _ _ _ _ us hl => match us, hl with | [_], _ => rfl
  have F20 := fun_mk (st := s_Breaker_thins) l20 c20 k20
  have b20 := F20.binds (ps := ["self"]) fun _ _ _ _ _ _ us hl => match us, hl with | [_], _ => rfl
  have F21 := fun_mk (st := s_Breaker_row) l21 c21 k21
  have b21 := F21.binds (ps := ["self"]) fun _ _ _ _ _ _ us hl => match us, hl with | [_], _ => rfl
  have F22 := fun_mk (st := s_Ship___init__) l22 c22 k22
  have b22 := F22.binds (ps := ["self", "name", "port", "goal", "hour", "strength", "draught"]) fun _ _ _ _ _ _ us hl => match us, hl with | [_, _, _, _, _, _, _], _ => rfl
  have F23 := fun_mk (st := s_Ship_kind) l23 c23 k23
  have b23 := F23.binds (ps := ["self"]) fun _ _ _ _ _ _ us hl => match us, hl with | [_], _ => rfl
  have F24 := fun_mk (st := s_Ship_row) l24 c24 k24
  have b24 := F24.binds (ps := ["self"]) fun _ _ _ _ _ _ us hl => match us, hl with | [_], _ => rfl
  have F25 := fun_mk (st := s_Train___init__) l25 c25 k25
  have b25 := F25.binds (ps := ["self", "vessels"]) fun _ _ _ _ _ _ us hl => match us, hl with | [_, _], _ => rfl
  have F26 := fun_mk (st := s_Train_kind) l26 c26 k26
  have b26 := F26.binds (ps := ["self"]) fun _ _ _ _ _ _ us hl => match us, hl with | [_], _ => rfl
  have F27 := fun_mk (st := s_Train_thins) l27 c27 k27
  have b27 := F27.binds (ps := ["self"]) fun _ _ _ _ _ _ us hl => match us, hl with | [_], _ => rfl
  have F28 := fun_mk (st := s_Train_names) l28 c28 k28
  have b28 := F28.binds (ps := ["self"]) fun _ _ _ _ _ _ us hl => match us, hl with | [_], _ => rfl
  have F29 := fun_mk (st := s_Train_row) l29 c29 k29
  have b29 := F29.binds (ps := ["self"]) fun _ _ _ _ _ _ us hl => match us, hl with | [_], _ => rfl
  have F30 := fun_mk (st := s_law_cell) l30 c30 k30
  have b30 := F30.binds (ps := ["_law_script", "_law_k"]) fun _ _ _ _ _ _ us hl => match us, hl with | [_, _], _ => rfl
  have F31 := fun_mk (st := s_law_box) l31 c31 k31
  have b31 := F31.binds (ps := ["_law_cell_here"]) fun _ _ _ _ _ _ us hl => match us, hl with | [_], _ => rfl
  have F32 := fun_mk (st := s_law_take) l32 c32 k32
  have b32 := F32.binds (ps := ["_law_box_here", "_law_many"]) fun _ _ _ _ _ _ us hl => match us, hl with | [_, _], _ => rfl
  have F33 := fun_mk (st := s_law_names) l33 c33 k33
  have b33 := F33.binds (ps := ["_law_box_here", "_law_many"]) fun _ _ _ _ _ _ us hl => match us, hl with | [_, _], _ => rfl
  have F34 := fun_mk (st := s_law_number) l34 c34 k34
  have b34 := F34.binds (ps := ["_law_box_here", "_law_low", "_law_high"]) fun _ _ _ _ _ _ us hl => match us, hl with | [_, _, _], _ => rfl
  have F35 := fun_mk (st := s_law_vessel_row) l35 c35 k35
  have b35 := F35.binds (ps := ["_law_box_here", "_law_kind", "_law_name", "_law_ports"]) fun _ _ _ _ _ _ us hl => match us, hl with | [_, _, _, _], _ => rfl
  have F36 := fun_mk (st := s_law_vessel) l36 c36 k36
  have b36 := F36.binds (ps := ["_law_kind", "_law_row"]) fun _ _ _ _ _ _ us hl => match us, hl with | [_, _], _ => rfl
  have F37 := fun_mk (st := s_law_all_let) l37 c37 k37
  have b37 := F37.binds (ps := ["_law_vessels_here", "_law_thick"]) fun _ _ _ _ _ _ us hl => match us, hl with | [_, _], _ => rfl
  have F38 := fun_mk (st := s_law_right) l38 c38 k38
  have b38 := F38.binds (ps := ["_law_train", "_law_vessels_here"]) fun _ _ _ _ _ _ us hl => match us, hl with | [_, _], _ => rfl
  have F39 := fun_mk (st := s_law_no_kind) l39 c39 k39
  have b39 := F39.binds (ps := ["_law_thing"]) fun _ _ _ _ _ _ us hl => match us, hl with | [_], _ => rfl
  have F40 := fun_mk (st := s_law_vessels) l40 c40 k40
  have b40 := F40.binds (ps := ["_law_box_here"]) fun _ _ _ _ _ _ us hl => match us, hl with | [_], _ => rfl
  have F41 := fun_mk (st := s_law) l41 c41 k41
  have b41 := F41.binds (ps := ["_law_script"]) fun _ _ _ _ _ _ us hl => match us, hl with | [_], _ => rfl
  exact ⟨_, fun s v => .of_eq rfl, fun base _ _ => ok_law (T := { a_IceError := C_IceError, g_IceError := PySem.W.mg_of X G aC_IceError, a_NoName := C_NoName, g_NoName := PySem.W.mg_of X G aC_NoName, a_NoNumber := C_NoNumber, g_NoNumber := PySem.W.mg_of X G aC_NoNumber, a_NoKind := C_NoKind, g_NoKind := PySem.W.mg_of X G aC_NoKind, a_Doubled := C_Doubled, g_Doubled := PySem.W.mg_of X G aC_Doubled, a_Channel := C_Channel, g_Channel := PySem.W.mg_of X G aC_Channel, a_Vessel := C_Vessel, g_Vessel := PySem.W.mg_of X G aC_Vessel, a_Breaker := C_Breaker, g_Breaker := PySem.W.mg_of X G aC_Breaker, a_Ship := C_Ship, g_Ship := PySem.W.mg_of X G aC_Ship, a_Train := C_Train, g_Train := PySem.W.mg_of X G aC_Train, a_wall := f0, d_wall := _, F_wall := F0, g_wall := PySem.W.mg_of X G a0, b_wall := b0, a_NoName___init__ := f1, d_NoName___init__ := _, F_NoName___init__ := F1, b_NoName___init__ := b1, a_NoNumber___init__ := f2, d_NoNumber___init__ := _, F_NoNumber___init__ := F2, b_NoNumber___init__ := b2, a_NoKind___init__ := f3, d_NoKind___init__ := _, F_NoKind___init__ := F3, b_NoKind___init__ := b3, a_Doubled___init__ := f4, d_Doubled___init__ := _, F_Doubled___init__ := F4, b_Doubled___init__ := b4, a_is_whole := f5, d_is_whole := _, F_is_whole := F5, g_is_whole := PySem.W.mg_of X G a5, b_is_whole := b5, a_is_within := f6, d_is_within := _, F_is_within := F6, g_is_within := PySem.W.mg_of X G a6, b_is_within := b6, a_is_name := f7, d_is_name := _, F_is_name := F7, g_is_name := PySem.W.mg_of X G a7, b_is_name := b7, a_need_names := f8, d_need_names := _, F_need_names := F8, g_need_names := PySem.W.mg_of X G a8, b_need_names := b8, a_need_numbers := f9, d_need_numbers := _, F_need_numbers := F9, g_need_numbers := PySem.W.mg_of X G a9, b_need_numbers := b9, a_Channel___init__ := f10, d_Channel___init__ := _, F_Channel___init__ := F10, b_Channel___init__ := b10, a_Channel_row := f11, d_Channel_row := _, F_Channel_row := F11, b_Channel_row := b11, a_Vessel___init__ := f12, d_Vessel___init__ := _, F_Vessel___init__ := F12, b_Vessel___init__ := b12, a_Vessel_settle := f13, d_Vessel_settle := _, F_Vessel_settle := F13, b_Vessel_settle := b13, a_Vessel_kind := f14, d_Vessel_kind := _, F_Vessel_kind := F14, b_Vessel_kind := b14, a_Vessel_thins := f15, d_Vessel_thins := _, F_Vessel_thins := F15, b_Vessel_thins := b15, a_Vessel_lets := f16, d_Vessel_lets := _, F_Vessel_lets := F16, b_Vessel_lets := b16, a_Vessel_row := f17, d_Vessel_row := _, F_Vessel_row := F17, b_Vessel_row := b17, a_Breaker___init__ := f18, d_Breaker___init__ := _, F_Breaker___init__ := F18, b_Breaker___init__ := b18, a_Breaker_kind := f19, d_Breaker_kind := _, F_Breaker_kind := F19, b_Breaker_kind := b19, a_Breaker_thins := f20, d_Breaker_thins := _, F_Breaker_thins := F20, b_Breaker_thins := b20, a_Breaker_row := f21, d_Breaker_row := _, F_Breaker_row := F21, b_Breaker_row := b21, a_Ship___init__ := f22, d_Ship___init__ := _, F_Ship___init__ := F22, b_Ship___init__ := b22, a_Ship_kind := f23, d_Ship_kind := _, F_Ship_kind := F23, b_Ship_kind := b23, a_Ship_row := f24, d_Ship_row := _, F_Ship_row := F24, b_Ship_row := b24, a_Train___init__ := f25, d_Train___init__ := _, F_Train___init__ := F25, b_Train___init__ := b25, a_Train_kind := f26, d_Train_kind := _, F_Train_kind := F26, b_Train_kind := b26, a_Train_thins := f27, d_Train_thins := _, F_Train_thins := F27, b_Train_thins := b27, a_Train_names := f28, d_Train_names := _, F_Train_names := F28, b_Train_names := b28, a_Train_row := f29, d_Train_row := _, F_Train_row := F29, b_Train_row := b29, a_law_cell := f30, d_law_cell := _, F_law_cell := F30, g_law_cell := PySem.W.mg_of X G a30, b_law_cell := b30, a_law_box := f31, d_law_box := _, F_law_box := F31, g_law_box := PySem.W.mg_of X G a31, b_law_box := b31, a_law_take := f32, d_law_take := _, F_law_take := F32, g_law_take := PySem.W.mg_of X G a32, b_law_take := b32, a_law_names := f33, d_law_names := _, F_law_names := F33, g_law_names := PySem.W.mg_of X G a33, b_law_names := b33, a_law_number := f34, d_law_number := _, F_law_number := F34, g_law_number := PySem.W.mg_of X G a34, b_law_number := b34, a_law_vessel_row := f35, d_law_vessel_row := _, F_law_vessel_row := F35, g_law_vessel_row := PySem.W.mg_of X G a35, b_law_vessel_row := b35, a_law_vessel := f36, d_law_vessel := _, F_law_vessel := F36, g_law_vessel := PySem.W.mg_of X G a36, b_law_vessel := b36, a_law_all_let := f37, d_law_all_let := _, F_law_all_let := F37, g_law_all_let := PySem.W.mg_of X G a37, b_law_all_let := b37, a_law_right := f38, d_law_right := _, F_law_right := F38, g_law_right := PySem.W.mg_of X G a38, b_law_right := b38, a_law_no_kind := f39, d_law_no_kind := _, F_law_no_kind := F39, g_law_no_kind := PySem.W.mg_of X G a39, b_law_no_kind := b39, a_law_vessels := f40, d_law_vessels := _, F_law_vessels := F40, g_law_vessels := PySem.W.mg_of X G a40, b_law_vessels := b40, a_law := fa, d_law := _, F_law := F41, g_law := PySem.W.mg_of X G a41, b_law := b41, cl_Channel := ⟨p1_Channel, p2_Channel, p3_Channel, p4_Channel⟩, n_Channel_name := nn_Channel_name, n_Channel_one := nn_Channel_one, n_Channel_other := nn_Channel_other, n_Channel_hours := nn_Channel_hours, n_Channel_depth := nn_Channel_depth, n_Channel_first := nn_Channel_first, n_Channel_growth := nn_Channel_growth, n_Channel_most := nn_Channel_most, cl_Vessel := ⟨p1_Vessel, p2_Vessel, p3_Vessel, p4_Vessel⟩, n_Vessel_name := nn_Vessel_name, n_Vessel_port := nn_Vessel_port, n_Vessel_hour := nn_Vessel_hour, n_Vessel_strength := nn_Vessel_strength, n_Vessel_draught := nn_Vessel_draught, cl_Breaker := ⟨p1_Breaker, p2_Breaker, p3_Breaker, p4_Breaker⟩, n_Breaker_name := nn_Breaker_name, n_Breaker_port := nn_Breaker_port, n_Breaker_hour := nn_Breaker_hour, n_Breaker_strength := nn_Breaker_strength, n_Breaker_draught := nn_Breaker_draught, n_Breaker_cut := nn_Breaker_cut, cl_Ship := ⟨p1_Ship, p2_Ship, p3_Ship, p4_Ship⟩, n_Ship_name := nn_Ship_name, n_Ship_port := nn_Ship_port, n_Ship_hour := nn_Ship_hour, n_Ship_strength := nn_Ship_strength, n_Ship_draught := nn_Ship_draught, n_Ship_goal := nn_Ship_goal, cl_Train := ⟨p1_Train, p2_Train, p3_Train, p4_Train⟩, n_Train_name := nn_Train_name, n_Train_port := nn_Train_port, n_Train_hour := nn_Train_hour, n_Train_strength := nn_Train_strength, n_Train_draught := nn_Train_draught, n_Train_crew := nn_Train_crew, n_Train_thinned := nn_Train_thinned, hn_class := hn_class, ht_class := ht_class, ic_Channel := id_Channel, im_Channel := in_Channel, eq_Channel := ⟨ea_Channel, eb_Channel, tf_eo_Channel⟩, ob_Channel := own_of tf_o_Channel_int tf_o_Channel_bool tf_o_Channel_str tf_o_Channel_list tf_o_Channel_tuple tf_o_Channel_dict, ki_Channel_Breaker := kit_sub yc_Breaker yt_Breaker tf_y_Breaker tf_k_Channel_Breaker, ki_Channel_Ship := kit_sub yc_Ship yt_Ship tf_y_Ship tf_k_Channel_Ship, ki_Channel_Train := kit_sub yc_Train yt_Train tf_y_Train tf_k_Channel_Train, ki_Channel_Vessel := kit_sub yc_Vessel yt_Vessel tf_y_Vessel tf_k_Channel_Vessel, ic_Vessel := id_Vessel, im_Vessel := in_Vessel, eq_Vessel := ⟨ea_Vessel, eb_Vessel, tf_eo_Vessel⟩, ob_Vessel := own_of tf_o_Vessel_int tf_o_Vessel_bool tf_o_Vessel_str tf_o_Vessel_list tf_o_Vessel_tuple tf_o_Vessel_dict, ki_Vessel_Breaker := kit_sub yc_Breaker yt_Breaker tf_y_Breaker tf_k_Vessel_Breaker, ki_Vessel_Ship := kit_sub yc_Ship yt_Ship tf_y_Ship tf_k_Vessel_Ship, ki_Vessel_Train := kit_sub yc_Train yt_Train tf_y_Train tf_k_Vessel_Train, ki_Vessel_Vessel := kit_sub yc_Vessel yt_Vessel tf_y_Vessel tf_k_Vessel_Vessel, ic_Breaker := id_Breaker, im_Breaker := in_Breaker, eq_Breaker := ⟨ea_Breaker, eb_Breaker, tf_eo_Breaker⟩, ob_Breaker := own_of tf_o_Breaker_int tf_o_Breaker_bool tf_o_Breaker_str tf_o_Breaker_list tf_o_Breaker_tuple tf_o_Breaker_dict, ki_Breaker_Breaker := kit_sub yc_Breaker yt_Breaker tf_y_Breaker tf_k_Breaker_Breaker, ki_Breaker_Ship := kit_sub yc_Ship yt_Ship tf_y_Ship tf_k_Breaker_Ship, ki_Breaker_Train := kit_sub yc_Train yt_Train tf_y_Train tf_k_Breaker_Train, ki_Breaker_Vessel := kit_sub yc_Vessel yt_Vessel tf_y_Vessel tf_k_Breaker_Vessel, ic_Ship := id_Ship, im_Ship := in_Ship, eq_Ship := ⟨ea_Ship, eb_Ship, tf_eo_Ship⟩, ob_Ship := own_of tf_o_Ship_int tf_o_Ship_bool tf_o_Ship_str tf_o_Ship_list tf_o_Ship_tuple tf_o_Ship_dict, ki_Ship_Breaker := kit_sub yc_Breaker yt_Breaker tf_y_Breaker tf_k_Ship_Breaker, ki_Ship_Ship := kit_sub yc_Ship yt_Ship tf_y_Ship tf_k_Ship_Ship, ki_Ship_Train := kit_sub yc_Train yt_Train tf_y_Train tf_k_Ship_Train, ki_Ship_Vessel := kit_sub yc_Vessel yt_Vessel tf_y_Vessel tf_k_Ship_Vessel, ic_Train := id_Train, im_Train := in_Train, eq_Train := ⟨ea_Train, eb_Train, tf_eo_Train⟩, ob_Train := own_of tf_o_Train_int tf_o_Train_bool tf_o_Train_str tf_o_Train_list tf_o_Train_tuple tf_o_Train_dict, ki_Train_Breaker := kit_sub yc_Breaker yt_Breaker tf_y_Breaker tf_k_Train_Breaker, ki_Train_Ship := kit_sub yc_Ship yt_Ship tf_y_Ship tf_k_Train_Ship, ki_Train_Train := kit_sub yc_Train yt_Train tf_y_Train tf_k_Train_Train, ki_Train_Vessel := kit_sub yc_Vessel yt_Vessel tf_y_Vessel tf_k_Train_Vessel, kt_NoneType_Breaker := kit_sub yc_Breaker yt_Breaker tf_y_Breaker ku_NoneType_Breaker, kt_NoneType_Ship := kit_sub yc_Ship yt_Ship tf_y_Ship ku_NoneType_Ship, kt_NoneType_Train := kit_sub yc_Train yt_Train tf_y_Train ku_NoneType_Train, kt_NoneType_Vessel := kit_sub yc_Vessel yt_Vessel tf_y_Vessel ku_NoneType_Vessel, kt_int_Breaker := kit_sub yc_Breaker yt_Breaker tf_y_Breaker ku_int_Breaker, kt_int_Ship := kit_sub yc_Ship yt_Ship tf_y_Ship ku_int_Ship, kt_int_Train := kit_sub yc_Train yt_Train tf_y_Train ku_int_Train, kt_int_Vessel := kit_sub yc_Vessel yt_Vessel tf_y_Vessel ku_int_Vessel, kt_str_Breaker := kit_sub yc_Breaker yt_Breaker tf_y_Breaker ku_str_Breaker, kt_str_Ship := kit_sub yc_Ship yt_Ship tf_y_Ship ku_str_Ship, kt_str_Train := kit_sub yc_Train yt_Train tf_y_Train ku_str_Train, kt_str_Vessel := kit_sub yc_Vessel yt_Vessel tf_y_Vessel ku_str_Vessel, kt_bool_Breaker := kit_sub yc_Breaker yt_Breaker tf_y_Breaker ku_bool_Breaker, kt_bool_Ship := kit_sub yc_Ship yt_Ship tf_y_Ship ku_bool_Ship, kt_bool_Train := kit_sub yc_Train yt_Train tf_y_Train ku_bool_Train, kt_bool_Vessel := kit_sub yc_Vessel yt_Vessel tf_y_Vessel ku_bool_Vessel, kt_list_Breaker := kit_sub yc_Breaker yt_Breaker tf_y_Breaker ku_list_Breaker, kt_list_Ship := kit_sub yc_Ship yt_Ship tf_y_Ship ku_list_Ship, kt_list_Train := kit_sub yc_Train yt_Train tf_y_Train ku_list_Train, kt_list_Vessel := kit_sub yc_Vessel yt_Vessel tf_y_Vessel ku_list_Vessel, kt_dict_Breaker := kit_sub yc_Breaker yt_Breaker tf_y_Breaker ku_dict_Breaker, kt_dict_Ship := kit_sub yc_Ship yt_Ship tf_y_Ship ku_dict_Ship, kt_dict_Train := kit_sub yc_Train yt_Train tf_y_Train ku_dict_Train, kt_dict_Vessel := kit_sub yc_Vessel yt_Vessel tf_y_Vessel ku_dict_Vessel, kt_tuple_Breaker := kit_sub yc_Breaker yt_Breaker tf_y_Breaker ku_tuple_Breaker, kt_tuple_Ship := kit_sub yc_Ship yt_Ship tf_y_Ship ku_tuple_Ship, kt_tuple_Train := kit_sub yc_Train yt_Train tf_y_Train ku_tuple_Train, kt_tuple_Vessel := kit_sub yc_Vessel yt_Vessel tf_y_Vessel ku_tuple_Vessel, mk_Breaker := ⟨mm_Breaker, mi_Breaker, mf_Breaker, mq_Breaker⟩, mk_Channel := ⟨mm_Channel, mi_Channel, mf_Channel, mq_Channel⟩, mk_Ship := ⟨mm_Ship, mi_Ship, mf_Ship, mq_Ship⟩, mk_Train := ⟨mm_Train, mi_Train, mf_Train, mq_Train⟩, mk_Vessel := ⟨mm_Vessel, mi_Vessel, mf_Vessel, mq_Vessel⟩, me_Breaker_row := ⟨ma_Breaker_row, mb_Breaker_row, k21⟩, me_Breaker_settle := ⟨ma_Breaker_settle, mb_Breaker_settle, k13⟩, me_Breaker_thins := ⟨ma_Breaker_thins, mb_Breaker_thins, k20⟩, me_Ship_row := ⟨ma_Ship_row, mb_Ship_row, k24⟩, me_Ship_settle := ⟨ma_Ship_settle, mb_Ship_settle, k13⟩, me_Ship_thins := ⟨ma_Ship_thins, mb_Ship_thins, k15⟩, me_Train_kind := ⟨ma_Train_kind, mb_Train_kind, k26⟩, me_Train_lets := ⟨ma_Train_lets, mb_Train_lets, k16⟩, me_Train_names := ⟨ma_Train_names, mb_Train_names, k28⟩, me_Train_row := ⟨ma_Train_row, mb_Train_row, k29⟩, me_Train_settle := ⟨ma_Train_settle, mb_Train_settle, k13⟩, me_Train_thins := ⟨ma_Train_thins, mb_Train_thins, k27⟩, me_Vessel_row := ⟨ma_Vessel_row, mb_Vessel_row, k17⟩, me_Vessel_settle := ⟨ma_Vessel_settle, mb_Vessel_settle, k13⟩, me_Vessel_thins := ⟨ma_Vessel_thins, mb_Vessel_thins, k15⟩, rd_Vessel := ra_Vessel, ga_Vessel := gb_Vessel, rd_IceError := ra_IceError, ga_IceError := gb_IceError, vi_IceError := vj_IceError, cm_Vessel___init__ := cn_Vessel___init__, cm_Vessel_row := cn_Vessel_row, ox_NoName := ⟨⟨nm_NoName, q_NoName, N_NoName, bs_NoName, _, sn_NoName, sub_NoName, ab_NoName, col_NoName, dd_NoName, m0_NoName, m1_NoName, m2_NoName, m3_NoName, m5_NoName, xl_NoName, refs_ve1⟩, xs_NoName, xe_NoName, xt_NoName, xk_NoName⟩, ix_NoName := a1, tx_NoName := xy_NoName, xf_NoName := ⟨xg_NoName, xh_NoName, xe_NoName, xd_NoName⟩, n_NoName_found := nn_NoName_found, ox_NoNumber := ⟨⟨nm_NoNumber, q_NoNumber, N_NoNumber, bs_NoNumber, _, sn_NoNumber, sub_NoNumber, ab_NoNumber, col_NoNumber, dd_NoNumber, m0_NoNumber, m1_NoNumber, m2_NoNumber, m3_NoNumber, m5_NoNumber, xl_NoNumber, refs_ve1⟩, xs_NoNumber, xe_NoNumber, xt_NoNumber, xk_NoNumber⟩, ix_NoNumber := a2, tx_NoNumber := xy_NoNumber, xf_NoNumber := ⟨xg_NoNumber, xh_NoNumber, xe_NoNumber, xd_NoNumber⟩, n_NoNumber_found := nn_NoNumber_found, ox_NoKind := ⟨⟨nm_NoKind, q_NoKind, N_NoKind, bs_NoKind, _, sn_NoKind, sub_NoKind, ab_NoKind, col_NoKind, dd_NoKind, m0_NoKind, m1_NoKind, m2_NoKind, m3_NoKind, m5_NoKind, xl_NoKind, refs_ve1⟩, xs_NoKind, xe_NoKind, xt_NoKind, xk_NoKind⟩, ix_NoKind := a3, tx_NoKind := xy_NoKind, xf_NoKind := ⟨xg_NoKind, xh_NoKind, xe_NoKind, xd_NoKind⟩, n_NoKind_found := nn_NoKind_found, ox_Doubled := ⟨⟨nm_Doubled, q_Doubled, N_Doubled, bs_Doubled, _, sn_Doubled, sub_Doubled, ab_Doubled, col_Doubled, dd_Doubled, m0_Doubled, m1_Doubled, m2_Doubled, m3_Doubled, m5_Doubled, xl_Doubled, refs_ve1⟩, xs_Doubled, xe_Doubled, xt_Doubled, xk_Doubled⟩, ix_Doubled := a4, tx_Doubled := xy_Doubled, xf_Doubled := ⟨xg_Doubled, xh_Doubled, xe_Doubled, xd_Doubled⟩, n_Doubled_name := nn_Doubled_name, te_NoName_IceError := exm_of xe_IceError xc_IceError xt_IceError tf_NoName_IceError, te_NoNumber_IceError := exm_of xe_IceError xc_IceError xt_IceError tf_NoNumber_IceError, te_NoKind_IceError := exm_of xe_IceError xc_IceError xt_IceError tf_NoKind_IceError, te_Doubled_IceError := exm_of xe_IceError xc_IceError xt_IceError tf_Doubled_IceError, te_NoName_NoKind := exm_of xe_NoKind xc_NoKind xt_NoKind tf_NoName_NoKind, te_NoNumber_NoKind := exm_of xe_NoKind xc_NoKind xt_NoKind tf_NoNumber_NoKind, te_NoKind_NoKind := exm_of xe_NoKind xc_NoKind xt_NoKind tf_NoKind_NoKind, te_Doubled_NoKind := exm_of xe_NoKind xc_NoKind xt_NoKind tf_Doubled_NoKind, m_all := PySem.W.mg_none_of X G z_all, m_bool := PySem.W.mg_none_of X G z_bool, m_int := PySem.W.mg_none_of X G z_int, m_isinstance := PySem.W.mg_none_of X G z_isinstance, m_len := PySem.W.mg_none_of X G z_len, m_list := PySem.W.mg_none_of X G z_list, m_max := PySem.W.mg_none_of X G z_max, m_min := PySem.W.mg_none_of X G z_min, m_range := PySem.W.mg_none_of X G z_range, m_repr := PySem.W.mg_none_of X G z_repr, m_str := PySem.W.mg_none_of X G z_str, m_tuple := PySem.W.mg_none_of X G z_tuple, c_LETTERS := ⟨_, PySem.W.mg_of X G y_LETTERS, ⟨_, rfl⟩⟩, c_LONGEST_NAME := ⟨_, PySem.W.mg_of X G y_LONGEST_NAME, ⟨_, rfl⟩⟩, c_MOST_HOUR := ⟨_, PySem.W.mg_of X G y_MOST_HOUR, ⟨_, rfl⟩⟩, c_MOST_ICE := ⟨_, PySem.W.mg_of X G y_MOST_ICE, ⟨_, rfl⟩⟩, c_MOST_DEPTH := ⟨_, PySem.W.mg_of X G y_MOST_DEPTH, ⟨_, rfl⟩⟩, c_MOST_LENGTH := ⟨_, PySem.W.mg_of X G y_MOST_LENGTH, ⟨_, rfl⟩⟩, c_MOST_GROWTH := ⟨_, PySem.W.mg_of X G y_MOST_GROWTH, ⟨_, rfl⟩⟩, c_MOST_IN_TRAIN := ⟨_, PySem.W.mg_of X G y_MOST_IN_TRAIN, ⟨_, rfl⟩⟩ })⟩
end My
open PySem PySem.W PyProof.Rows
set_option maxHeartbeats 0 in
theorem PySem.Challenge.cw_iceopened_k10_trains_holds : PySem.Challenge.rw_iceopened_k10_trains.Holds := by
  w_on; o_law; k_head; (case hw => w_witness2)
  k_fill
  refine My.walk_ofG (l := PySem.Challenge.rw_iceopened_k10_trains) (n := 63) (k := 9) (x := "_law_script") (sp := fun w => My.sp_law _) rfl (by decide) rfl ⟨rfl, by decide, by decide⟩ (fun w h Y => PySem.W.kIn_of Y) ?F (fun _ _ a ns hl _ _ hS => ⟨a, ns, rfl, hS, hl, fun _ => rfl⟩)
  case F =>
    intro w mg fa h KX G hmg
    refine' My.all_mk KX G hmg ?aC_IceError ?aC_NoName ?aC_NoNumber ?aC_NoKind ?aC_Doubled ?aC_Channel ?aC_Vessel ?aC_Breaker ?aC_Ship ?aC_Train ?a0 ?l0 ?c0 ?k0 ?a1 ?l1 ?c1 ?k1 ?a2 ?l2 ?c2 ?k2 ?a3 ?l3 ?c3 ?k3 ?a4 ?l4 ?c4 ?k4 ?a5 ?l5 ?c5 ?k5 ?a6 ?l6 ?c6 ?k6 ?a7 ?l7 ?c7 ?k7 ?a8 ?l8 ?c8 ?k8 ?a9 ?l9 ?c9 ?k9 ?a10 ?l10 ?c10 ?k10 ?a11 ?l11 ?c11 ?k11 ?a12 ?l12 ?c12 ?k12 ?a13 ?l13 ?c13 ?k13 ?a14 ?l14 ?c14 ?k14 ?a15 ?l15 ?c15 ?k15 ?a16 ?l16 ?c16 ?k16 ?a17 ?l17 ?c17 ?k17 ?a18 ?l18 ?c18 ?k18 ?a19 ?l19 ?c19 ?k19 ?a20 ?l20 ?c20 ?k20 ?a21 ?l21 ?c21 ?k21 ?a22 ?l22 ?c22 ?k22 ?a23 ?l23 ?c23 ?k23 ?a24 ?l24 ?c24 ?k24 ?a25 ?l25 ?c25 ?k25 ?a26 ?l26 ?c26 ?k26 ?a27 ?l27 ?c27 ?k27 ?a28 ?l28 ?c28 ?k28 ?a29 ?l29 ?c29 ?k29 ?a30 ?l30 ?c30 ?k30 ?a31 ?l31 ?c31 ?k31 ?a32 ?l32 ?c32 ?k32 ?a33 ?l33 ?c33 ?k33 ?a34 ?l34 ?c34 ?k34 ?a35 ?l35 ?c35 ?k35 ?a36 ?l36 ?c36 ?k36 ?a37 ?l37 ?c37 ?k37 ?a38 ?l38 ?c38 ?k38 ?a39 ?l39 ?c39 ?k39 ?a40 ?l40 ?c40 ?k40 ?a41 ?l41 ?c41 ?k41 ?z_all ?z_bool ?z_int ?z_isinstance ?z_len ?z_list ?z_max ?z_min ?z_range ?z_repr ?z_str ?z_tuple ?y_LETTERS ?y_LONGEST_NAME ?y_MOST_HOUR ?y_MOST_ICE ?y_MOST_DEPTH ?y_MOST_LENGTH ?y_MOST_GROWTH ?y_MOST_IN_TRAIN ?p1_Channel ?p2_Channel ?p3_Channel ?p4_Channel ?nn_Channel_name ?nn_Channel_one ?nn_Channel_other ?nn_Channel_hours ?nn_Channel_depth ?nn_Channel_first ?nn_Channel_growth ?nn_Channel_most ?p1_Vessel ?p2_Vessel ?p3_Vessel ?p4_Vessel ?nn_Vessel_name ?nn_Vessel_port ?nn_Vessel_hour ?nn_Vessel_strength ?nn_Vessel_draught ?p1_Breaker ?p2_Breaker ?p3_Breaker ?p4_Breaker ?nn_Breaker_name ?nn_Breaker_port ?nn_Breaker_hour ?nn_Breaker_strength ?nn_Breaker_draught ?nn_Breaker_cut ?p1_Ship ?p2_Ship ?p3_Ship ?p4_Ship ?nn_Ship_name ?nn_Ship_port ?nn_Ship_hour ?nn_Ship_strength ?nn_Ship_draught ?nn_Ship_goal ?p1_Train ?p2_Train ?p3_Train ?p4_Train ?nn_Train_name ?nn_Train_port ?nn_Train_hour ?nn_Train_strength ?nn_Train_draught ?nn_Train_crew ?nn_Train_thinned ?hn_class ?ht_class ?yc_Breaker ?yt_Breaker ?tf_y_Breaker ?yc_Ship ?yt_Ship ?tf_y_Ship ?yc_Train ?yt_Train ?tf_y_Train ?yc_Vessel ?yt_Vessel ?tf_y_Vessel ?id_Channel ?in_Channel ?ea_Channel ?eb_Channel ?tf_eo_Channel ?tf_o_Channel_int ?tf_o_Channel_bool ?tf_o_Channel_str ?tf_o_Channel_list ?tf_o_Channel_tuple ?tf_o_Channel_dict ?tf_k_Channel_Breaker ?tf_k_Channel_Ship ?tf_k_Channel_Train ?tf_k_Channel_Vessel ?id_Vessel ?in_Vessel ?ea_Vessel ?eb_Vessel ?tf_eo_Vessel ?tf_o_Vessel_int ?tf_o_Vessel_bool ?tf_o_Vessel_str ?tf_o_Vessel_list ?tf_o_Vessel_tuple ?tf_o_Vessel_dict ?tf_k_Vessel_Breaker ?tf_k_Vessel_Ship ?tf_k_Vessel_Train ?tf_k_Vessel_Vessel ?id_Breaker ?in_Breaker ?ea_Breaker ?eb_Breaker ?tf_eo_Breaker ?tf_o_Breaker_int ?tf_o_Breaker_bool ?tf_o_Breaker_str ?tf_o_Breaker_list ?tf_o_Breaker_tuple ?tf_o_Breaker_dict ?tf_k_Breaker_Breaker ?tf_k_Breaker_Ship ?tf_k_Breaker_Train ?tf_k_Breaker_Vessel ?id_Ship ?in_Ship ?ea_Ship ?eb_Ship ?tf_eo_Ship ?tf_o_Ship_int ?tf_o_Ship_bool ?tf_o_Ship_str ?tf_o_Ship_list ?tf_o_Ship_tuple ?tf_o_Ship_dict ?tf_k_Ship_Breaker ?tf_k_Ship_Ship ?tf_k_Ship_Train ?tf_k_Ship_Vessel ?id_Train ?in_Train ?ea_Train ?eb_Train ?tf_eo_Train ?tf_o_Train_int ?tf_o_Train_bool ?tf_o_Train_str ?tf_o_Train_list ?tf_o_Train_tuple ?tf_o_Train_dict ?tf_k_Train_Breaker ?tf_k_Train_Ship ?tf_k_Train_Train ?tf_k_Train_Vessel ?ku_NoneType_Breaker ?ku_NoneType_Ship ?ku_NoneType_Train ?ku_NoneType_Vessel ?ku_int_Breaker ?ku_int_Ship ?ku_int_Train ?ku_int_Vessel ?ku_str_Breaker ?ku_str_Ship ?ku_str_Train ?ku_str_Vessel ?ku_bool_Breaker ?ku_bool_Ship ?ku_bool_Train ?ku_bool_Vessel ?ku_list_Breaker ?ku_list_Ship ?ku_list_Train ?ku_list_Vessel ?ku_dict_Breaker ?ku_dict_Ship ?ku_dict_Train ?ku_dict_Vessel ?ku_tuple_Breaker ?ku_tuple_Ship ?ku_tuple_Train ?ku_tuple_Vessel ?mm_Breaker ?mi_Breaker ?mf_Breaker ?mq_Breaker ?mm_Channel ?mi_Channel ?mf_Channel ?mq_Channel ?mm_Ship ?mi_Ship ?mf_Ship ?mq_Ship ?mm_Train ?mi_Train ?mf_Train ?mq_Train ?mm_Vessel ?mi_Vessel ?mf_Vessel ?mq_Vessel ?ma_Breaker_row ?mb_Breaker_row ?ma_Breaker_settle ?mb_Breaker_settle ?ma_Breaker_thins ?mb_Breaker_thins ?ma_Ship_row ?mb_Ship_row ?ma_Ship_settle ?mb_Ship_settle ?ma_Ship_thins ?mb_Ship_thins ?ma_Train_kind ?mb_Train_kind ?ma_Train_lets ?mb_Train_lets ?ma_Train_names ?mb_Train_names ?ma_Train_row ?mb_Train_row ?ma_Train_settle ?mb_Train_settle ?ma_Train_thins ?mb_Train_thins ?ma_Vessel_row ?mb_Vessel_row ?ma_Vessel_settle ?mb_Vessel_settle ?ma_Vessel_thins ?mb_Vessel_thins ?ra_Vessel ?gb_Vessel ?ra_IceError ?gb_IceError ?vj_IceError ?cn_Vessel___init__ ?cn_Vessel_row ?xl_NoName ?xs_NoName ?xe_NoName ?xt_NoName ?xk_NoName ?xy_NoName ?xg_NoName ?xh_NoName ?xd_NoName ?nn_NoName_found ?xl_NoNumber ?xs_NoNumber ?xe_NoNumber ?xt_NoNumber ?xk_NoNumber ?xy_NoNumber ?xg_NoNumber ?xh_NoNumber ?xd_NoNumber ?nn_NoNumber_found ?xl_NoKind ?xs_NoKind ?xe_NoKind ?xt_NoKind ?xk_NoKind ?xy_NoKind ?xg_NoKind ?xh_NoKind ?xd_NoKind ?nn_NoKind_found ?xl_Doubled ?xs_Doubled ?xe_Doubled ?xt_Doubled ?xk_Doubled ?xy_Doubled ?xg_Doubled ?xh_Doubled ?xd_Doubled ?nn_Doubled_name ?xe_IceError ?xt_IceError ?xc_IceError ?tf_NoName_IceError ?tf_NoNumber_IceError ?tf_NoKind_IceError ?tf_Doubled_IceError ?xc_NoKind ?tf_NoName_NoKind ?tf_NoNumber_NoKind ?tf_NoKind_NoKind ?tf_Doubled_NoKind
    (case aC_IceError => k_is); (case aC_NoName => k_is); (case aC_NoNumber => k_is); (case aC_NoKind => k_is); (case aC_Doubled => k_is); (case aC_Channel => k_is); (case aC_Vessel => k_is); (case aC_Breaker => k_is)
    (case aC_Ship => k_is); (case aC_Train => k_is); (case a0 => k_is); (case l0 => k_is); (case c0 => k_is); (case k0 => k_is); (case a1 => k_is); (case l1 => k_is)
    (case c1 => k_is); (case k1 => k_is); (case a2 => k_is); (case l2 => k_is); (case c2 => k_is); (case k2 => k_is); (case a3 => k_is); (case l3 => k_is)
    (case c3 => k_is); (case k3 => k_is); (case a4 => k_is); (case l4 => k_is); (case c4 => k_is); (case k4 => k_is); (case a5 => k_is); (case l5 => k_is)
    (case c5 => k_is); (case k5 => k_is); (case a6 => k_is); (case l6 => k_is); (case c6 => k_is); (case k6 => k_is); (case a7 => k_is); (case l7 => k_is)
    (case c7 => k_is); (case k7 => k_is); (case a8 => k_is); (case l8 => k_is); (case c8 => k_is); (case k8 => k_is); (case a9 => k_is); (case l9 => k_is)
    (case c9 => k_is); (case k9 => k_is); (case a10 => k_is); (case l10 => k_is); (case c10 => k_is); (case k10 => k_is); (case a11 => k_is); (case l11 => k_is)
    (case c11 => k_is); (case k11 => k_is); (case a12 => k_is); (case l12 => k_is); (case c12 => k_is); (case k12 => k_is); (case a13 => k_is); (case l13 => k_is)
    (case c13 => k_is); (case k13 => k_is); (case a14 => k_is); (case l14 => k_is); (case c14 => k_is); (case k14 => k_is); (case a15 => k_is); (case l15 => k_is)
    (case c15 => k_is); (case k15 => k_is); (case a16 => k_is); (case l16 => k_is); (case c16 => k_is); (case k16 => k_is); (case a17 => k_is); (case l17 => k_is)
    (case c17 => k_is); (case k17 => k_is); (case a18 => k_is); (case l18 => k_is); (case c18 => k_is); (case k18 => k_is); (case a19 => k_is); (case l19 => k_is)
    (case c19 => k_is); (case k19 => k_is); (case a20 => k_is); (case l20 => k_is); (case c20 => k_is); (case k20 => k_is); (case a21 => k_is); (case l21 => k_is)
    (case c21 => k_is); (case k21 => k_is); (case a22 => k_is); (case l22 => k_is); (case c22 => k_is); (case k22 => k_is); (case a23 => k_is); (case l23 => k_is)
    (case c23 => k_is); (case k23 => k_is); (case a24 => k_is); (case l24 => k_is); (case c24 => k_is); (case k24 => k_is); (case a25 => k_is); (case l25 => k_is)
    (case c25 => k_is); (case k25 => k_is); (case a26 => k_is); (case l26 => k_is); (case c26 => k_is); (case k26 => k_is); (case a27 => k_is); (case l27 => k_is)
    (case c27 => k_is); (case k27 => k_is); (case a28 => k_is); (case l28 => k_is); (case c28 => k_is); (case k28 => k_is); (case a29 => k_is); (case l29 => k_is)
    (case c29 => k_is); (case k29 => k_is); (case a30 => k_is); (case l30 => k_is); (case c30 => k_is); (case k30 => k_is); (case a31 => k_is); (case l31 => k_is)
    (case c31 => k_is); (case k31 => k_is); (case a32 => k_is); (case l32 => k_is); (case c32 => k_is); (case k32 => k_is); (case a33 => k_is); (case l33 => k_is)
    (case c33 => k_is); (case k33 => k_is); (case a34 => k_is); (case l34 => k_is); (case c34 => k_is); (case k34 => k_is); (case a35 => k_is); (case l35 => k_is)
    (case c35 => k_is); (case k35 => k_is); (case a36 => k_is); (case l36 => k_is); (case c36 => k_is); (case k36 => k_is); (case a37 => k_is); (case l37 => k_is)
    (case c37 => k_is); (case k37 => k_is); (case a38 => k_is); (case l38 => k_is); (case c38 => k_is); (case k38 => k_is); (case a39 => k_is); (case l39 => k_is)
    (case c39 => k_is); (case k39 => k_is); (case a40 => k_is); (case l40 => k_is); (case c40 => k_is); (case k40 => k_is); (case a41 => k_is); (case l41 => k_is)
    (case c41 => k_is); (case k41 => k_is); (case z_all => k_is); (case z_bool => k_is); (case z_int => k_is); (case z_isinstance => k_is); (case z_len => k_is); (case z_list => k_is)
    (case z_max => k_is); (case z_min => k_is); (case z_range => k_is); (case z_repr => k_is); (case z_str => k_is); (case z_tuple => k_is); (case y_LETTERS => k_is); (case y_LONGEST_NAME => k_is)
    (case y_MOST_HOUR => k_is); (case y_MOST_ICE => k_is); (case y_MOST_DEPTH => k_is); (case y_MOST_LENGTH => k_is); (case y_MOST_GROWTH => k_is); (case y_MOST_IN_TRAIN => k_is); (case p1_Channel => k_is); (case p2_Channel => k_is)
    (case p3_Channel => k_is); (case p4_Channel => k_is); (case nn_Channel_name => k_is); (case nn_Channel_one => k_is); (case nn_Channel_other => k_is); (case nn_Channel_hours => k_is); (case nn_Channel_depth => k_is); (case nn_Channel_first => k_is)
    (case nn_Channel_growth => k_is); (case nn_Channel_most => k_is); (case p1_Vessel => k_is); (case p2_Vessel => k_is); (case p3_Vessel => k_is); (case p4_Vessel => k_is); (case nn_Vessel_name => k_is); (case nn_Vessel_port => k_is)
    (case nn_Vessel_hour => k_is); (case nn_Vessel_strength => k_is); (case nn_Vessel_draught => k_is); (case p1_Breaker => k_is); (case p2_Breaker => k_is); (case p3_Breaker => k_is); (case p4_Breaker => k_is); (case nn_Breaker_name => k_is)
    (case nn_Breaker_port => k_is); (case nn_Breaker_hour => k_is); (case nn_Breaker_strength => k_is); (case nn_Breaker_draught => k_is); (case nn_Breaker_cut => k_is); (case p1_Ship => k_is); (case p2_Ship => k_is); (case p3_Ship => k_is)
    (case p4_Ship => k_is); (case nn_Ship_name => k_is); (case nn_Ship_port => k_is); (case nn_Ship_hour => k_is); (case nn_Ship_strength => k_is); (case nn_Ship_draught => k_is); (case nn_Ship_goal => k_is); (case p1_Train => k_is)
    (case p2_Train => k_is); (case p3_Train => k_is); (case p4_Train => k_is); (case nn_Train_name => k_is); (case nn_Train_port => k_is); (case nn_Train_hour => k_is); (case nn_Train_strength => k_is); (case nn_Train_draught => k_is)
    (case nn_Train_crew => k_is); (case nn_Train_thinned => k_is); (case hn_class => k_is); (case ht_class => k_is); (case yc_Breaker => k_is); (case yt_Breaker => k_is); (case tf_y_Breaker => first | rfl | k_is); (case yc_Ship => k_is)
    (case yt_Ship => k_is); (case tf_y_Ship => first | rfl | k_is); (case yc_Train => k_is); (case yt_Train => k_is); (case tf_y_Train => first | rfl | k_is); (case yc_Vessel => k_is); (case yt_Vessel => k_is); (case tf_y_Vessel => first | rfl | k_is)
    (case id_Channel => k_is); (case in_Channel => k_is); (case ea_Channel => k_is); (case eb_Channel => k_is); (case tf_eo_Channel => first | rfl | k_is); (case tf_o_Channel_int => first | rfl | k_is); (case tf_o_Channel_bool => first | rfl | k_is); (case tf_o_Channel_str => first | rfl | k_is)
    (case tf_o_Channel_list => first | rfl | k_is); (case tf_o_Channel_tuple => first | rfl | k_is); (case tf_o_Channel_dict => first | rfl | k_is); (case tf_k_Channel_Breaker => first | rfl | k_is); (case tf_k_Channel_Ship => first | rfl | k_is); (case tf_k_Channel_Train => first | rfl | k_is); (case tf_k_Channel_Vessel => first | rfl | k_is); (case id_Vessel => k_is)
    (case in_Vessel => k_is); (case ea_Vessel => k_is); (case eb_Vessel => k_is); (case tf_eo_Vessel => first | rfl | k_is); (case tf_o_Vessel_int => first | rfl | k_is); (case tf_o_Vessel_bool => first | rfl | k_is); (case tf_o_Vessel_str => first | rfl | k_is); (case tf_o_Vessel_list => first | rfl | k_is)
    (case tf_o_Vessel_tuple => first | rfl | k_is); (case tf_o_Vessel_dict => first | rfl | k_is); (case tf_k_Vessel_Breaker => first | rfl | k_is); (case tf_k_Vessel_Ship => first | rfl | k_is); (case tf_k_Vessel_Train => first | rfl | k_is); (case tf_k_Vessel_Vessel => first | rfl | k_is); (case id_Breaker => k_is); (case in_Breaker => k_is)
    (case ea_Breaker => k_is); (case eb_Breaker => k_is); (case tf_eo_Breaker => first | rfl | k_is); (case tf_o_Breaker_int => first | rfl | k_is); (case tf_o_Breaker_bool => first | rfl | k_is); (case tf_o_Breaker_str => first | rfl | k_is); (case tf_o_Breaker_list => first | rfl | k_is); (case tf_o_Breaker_tuple => first | rfl | k_is)
    (case tf_o_Breaker_dict => first | rfl | k_is); (case tf_k_Breaker_Breaker => first | rfl | k_is); (case tf_k_Breaker_Ship => first | rfl | k_is); (case tf_k_Breaker_Train => first | rfl | k_is); (case tf_k_Breaker_Vessel => first | rfl | k_is); (case id_Ship => k_is); (case in_Ship => k_is); (case ea_Ship => k_is)
    (case eb_Ship => k_is); (case tf_eo_Ship => first | rfl | k_is); (case tf_o_Ship_int => first | rfl | k_is); (case tf_o_Ship_bool => first | rfl | k_is); (case tf_o_Ship_str => first | rfl | k_is); (case tf_o_Ship_list => first | rfl | k_is); (case tf_o_Ship_tuple => first | rfl | k_is); (case tf_o_Ship_dict => first | rfl | k_is)
    (case tf_k_Ship_Breaker => first | rfl | k_is); (case tf_k_Ship_Ship => first | rfl | k_is); (case tf_k_Ship_Train => first | rfl | k_is); (case tf_k_Ship_Vessel => first | rfl | k_is); (case id_Train => k_is); (case in_Train => k_is); (case ea_Train => k_is); (case eb_Train => k_is)
    (case tf_eo_Train => first | rfl | k_is); (case tf_o_Train_int => first | rfl | k_is); (case tf_o_Train_bool => first | rfl | k_is); (case tf_o_Train_str => first | rfl | k_is); (case tf_o_Train_list => first | rfl | k_is); (case tf_o_Train_tuple => first | rfl | k_is); (case tf_o_Train_dict => first | rfl | k_is); (case tf_k_Train_Breaker => first | rfl | k_is)
    (case tf_k_Train_Ship => first | rfl | k_is); (case tf_k_Train_Train => first | rfl | k_is); (case tf_k_Train_Vessel => first | rfl | k_is); (case ku_NoneType_Breaker => k_is); (case ku_NoneType_Ship => k_is); (case ku_NoneType_Train => k_is); (case ku_NoneType_Vessel => k_is); (case ku_int_Breaker => k_is)
    (case ku_int_Ship => k_is); (case ku_int_Train => k_is); (case ku_int_Vessel => k_is); (case ku_str_Breaker => k_is); (case ku_str_Ship => k_is); (case ku_str_Train => k_is); (case ku_str_Vessel => k_is); (case ku_bool_Breaker => k_is)
    (case ku_bool_Ship => k_is); (case ku_bool_Train => k_is); (case ku_bool_Vessel => k_is); (case ku_list_Breaker => k_is); (case ku_list_Ship => k_is); (case ku_list_Train => k_is); (case ku_list_Vessel => k_is); (case ku_dict_Breaker => k_is)
    (case ku_dict_Ship => k_is); (case ku_dict_Train => k_is); (case ku_dict_Vessel => k_is); (case ku_tuple_Breaker => k_is); (case ku_tuple_Ship => k_is); (case ku_tuple_Train => k_is); (case ku_tuple_Vessel => k_is); (case mm_Breaker => k_is)
    (case mi_Breaker => k_is); (case mf_Breaker => k_is); (case mq_Breaker => k_is); (case mm_Channel => k_is); (case mi_Channel => k_is); (case mf_Channel => k_is); (case mq_Channel => k_is); (case mm_Ship => k_is)
    (case mi_Ship => k_is); (case mf_Ship => k_is); (case mq_Ship => k_is); (case mm_Train => k_is); (case mi_Train => k_is); (case mf_Train => k_is); (case mq_Train => k_is); (case mm_Vessel => k_is)
    (case mi_Vessel => k_is); (case mf_Vessel => k_is); (case mq_Vessel => k_is); (case ma_Breaker_row => k_is); (case mb_Breaker_row => k_is); (case ma_Breaker_settle => k_is); (case mb_Breaker_settle => k_is); (case ma_Breaker_thins => k_is)
    (case mb_Breaker_thins => k_is); (case ma_Ship_row => k_is); (case mb_Ship_row => k_is); (case ma_Ship_settle => k_is); (case mb_Ship_settle => k_is); (case ma_Ship_thins => k_is); (case mb_Ship_thins => k_is); (case ma_Train_kind => k_is)
    (case mb_Train_kind => k_is); (case ma_Train_lets => k_is); (case mb_Train_lets => k_is); (case ma_Train_names => k_is); (case mb_Train_names => k_is); (case ma_Train_row => k_is); (case mb_Train_row => k_is); (case ma_Train_settle => k_is)
    (case mb_Train_settle => k_is); (case ma_Train_thins => k_is); (case mb_Train_thins => k_is); (case ma_Vessel_row => k_is); (case mb_Vessel_row => k_is); (case ma_Vessel_settle => k_is); (case mb_Vessel_settle => k_is); (case ma_Vessel_thins => k_is)
    (case mb_Vessel_thins => k_is); (case ra_Vessel => k_is); (case gb_Vessel => k_is); (case ra_IceError => k_is); (case gb_IceError => k_is); (case vj_IceError => k_is); (case cn_Vessel___init__ => k_is); (case cn_Vessel_row => k_is)
    (case xl_NoName => k_is); (case xs_NoName => k_is); (case xe_NoName => k_is); (case xt_NoName => k_is); (case xk_NoName => k_is); (case xy_NoName => k_is); (case xg_NoName => k_is); (case xh_NoName => k_is)
    (case xd_NoName => k_is); (case nn_NoName_found => k_is); (case xl_NoNumber => k_is); (case xs_NoNumber => k_is); (case xe_NoNumber => k_is); (case xt_NoNumber => k_is); (case xk_NoNumber => k_is); (case xy_NoNumber => k_is)
    (case xg_NoNumber => k_is); (case xh_NoNumber => k_is); (case xd_NoNumber => k_is); (case nn_NoNumber_found => k_is); (case xl_NoKind => k_is); (case xs_NoKind => k_is); (case xe_NoKind => k_is); (case xt_NoKind => k_is)
    (case xk_NoKind => k_is); (case xy_NoKind => k_is); (case xg_NoKind => k_is); (case xh_NoKind => k_is); (case xd_NoKind => k_is); (case nn_NoKind_found => k_is); (case xl_Doubled => k_is); (case xs_Doubled => k_is)
    (case xe_Doubled => k_is); (case xt_Doubled => k_is); (case xk_Doubled => k_is); (case xy_Doubled => k_is); (case xg_Doubled => k_is); (case xh_Doubled => k_is); (case xd_Doubled => k_is); (case nn_Doubled_name => k_is)
    (case xe_IceError => k_is); (case xt_IceError => k_is); (case xc_IceError => k_is); (case tf_NoName_IceError => first | rfl | k_is); (case tf_NoNumber_IceError => first | rfl | k_is); (case tf_NoKind_IceError => first | rfl | k_is); (case tf_Doubled_IceError => first | rfl | k_is); (case xc_NoKind => k_is)
    (case tf_NoName_NoKind => first | rfl | k_is); (case tf_NoNumber_NoKind => first | rfl | k_is); (case tf_NoKind_NoKind => first | rfl | k_is); (case tf_Doubled_NoKind => first | rfl | k_is)
