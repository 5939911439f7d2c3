import PyProof.Rows.All
import Wide.All
import OpenK.AllK
import Wide.FinOn
import HandS.ForMost
import HandS.Exc
import HandS.TryOnly
import HandS.ExcOwn
import HandS.WordsExc
import HandS.IsInst
import HandS.Style
import HandS.Codes
import HandS.Wide
import HandS.TupAny
import HandS.EndBits
import KE.IntTextLaws
import HandS.NoneIn
import HandS.More
import HandS.Walk
import PySem.Challenge.RW_iceopened_k01_words_of_anything
set_option Elab.async false
set_option linter.all false
set_option maxRecDepth 100000
set_option maxHeartbeats 4000000
/-! ### P0: more rules over the hand layer, and a tactic for readings (walk_at "rd") -/
namespace My
open PySem PySem.Spec PyProof.Rows L2

/-! #### values that repr shows without looking into the heap -/
def shown0 : V → Option Str
  | .non => some "None"
  | .bl b => some (if b then "True" else "False")
  | .int i => if i.natAbs.log2 < 1920 then some (toString i) else none
  | .str x => if (reprText x).length ≤ sizeLine then some (reprText x) else none
  | _ => none
def rRepr0 : List V → Hp → VK → Prop := fun xs H Q => ∃ v t, xs = [v] ∧ shown0 v = some t ∧ Q (.str t) H
section
variable {X : Cx}
theorem call_repr0 : CallR X (.builtin "repr") rRepr0 := by
  intro pins s σ H xs us Q I r h
  obtain ⟨v, t, rfl, e, q⟩ := h
  obtain ⟨u, rfl, r1⟩ := vals1 r
  cases v with
  | non =>
    cases (show u = Value.none from r1)
    cases e
    exact PySem.P.repr_of_none ⟨.str _, H, I.tok _, ⟨_, rfl⟩, q⟩
  | bl b =>
    cases (show u = Value.bool b from r1)
    cases e
    exact PySem.P.repr_of_bool ⟨.str _, H, I.tok _, ⟨_, rfl⟩, q⟩
  | int i =>
    obtain ⟨t', rfl⟩ := (show ∃ t, u = Value.int i t from r1)
    have e' : (if i.natAbs.log2 < 1920 then some (toString i : Str) else none) = some t := e
    split at e'
    · rename_i hz
      cases e'
      exact PySem.P.repr_of_int hz ⟨.str _, H, I.tok _, ⟨_, rfl⟩, q⟩
    · cases e'
  | str x =>
    obtain ⟨t', rfl⟩ := (show ∃ t, u = Value.str x t from r1)
    have e' : (if (reprText x).length ≤ sizeLine then some (reprText x) else none) = some t := e
    split at e'
    · rename_i hz
      cases e'
      exact PySem.P.repr_of_str ⟨.str _, H, I.tok _, ⟨_, rfl⟩, q⟩ hz
    · cases e'
  | byt _ => cases e
  | flt _ => cases e
  | ref _ => cases e
  | ty _ => cases e

/-! #### a text times a small number -/
def rRepS : R2 := fun x y H Q => ∃ a n, x = .str a ∧ y = .int n ∧ MulOk a n ∧ Q (.str (Txt.mul a n)) H
theorem op_repS : OpR X (binaryOp .Mult) rRepS := by
  intro pins s σ H x y v u Q I rx ry h
  obtain ⟨a, n, rfl, rfl, hm, q⟩ := h
  obtain ⟨t, rfl⟩ := rx
  obtain ⟨t', rfl⟩ := ry
  exact SB.mul hm fun t2 k => ⟨.str _, H, I.tok k, ⟨_, rfl⟩, q⟩
end

/-! #### rules with the written part named -/
section
variable {X : Cx} {K : PySem.W.Frag}
theorem ixK (h : X.K = K) : IxR X (rIx K) := h ▸ ix_seq
theorem ixLK (h : X.K = K) : IxR X (rIxL K) := h ▸ ix_list
theorem ixTK (h : X.K = K) : IxR X (rIxT K) := h ▸ ix_tup
def rLenA (K : PySem.W.Frag) : List V → Hp → VK → Prop := fun xs H Q => ∃ x n, xs = [x] ∧ LenV K x H n ∧ Q (.int n) H
theorem lenK (h : X.K = K) : CallR X (.builtin "len") (rLenA K) := h ▸ call_len
theorem isiK (h : X.K = K) : CallR X (.builtin "isinstance") (rIsi K) := h ▸ call_isi
theorem isiTK (h : X.K = K) : CallR X (.builtin "isinstance") (rIsiT K) := h ▸ call_isiT
theorem allK (h : X.K = K) (hc : X.calm = true) : CallR X (.builtin "all") (rAll K) := h ▸ cr_all hc
theorem anyK (h : X.K = K) (hc : X.calm = true) : CallR X (.builtin "any") (rAny K) := h ▸ cr_any hc
theorem slLK (h : X.K = K) : SlR X (rSlL K) := h ▸ sl_list
theorem pi_listK {tg l : Expr} {tl : TE} (h : X.K = K) (hl : PE X l tl) : PI X tg l (iList K tl) := h ▸ pi_list hl
theorem pi_tupK {tg l : Expr} {tl : TE} (h : X.K = K) (hl : PE X l tl) : PI X tg l (iTup K tl) := h ▸ pi_tup hl
theorem pe_revLK {e : Expr} {te : TE} {k : Nat} {p1 p2 p3 pos : Pos} (h : X.K = K) (he : PE X e te) : PE X (.Subscript e (.Slice none none (some (.UnaryOp .USub (.Constant (.int 1) k p1) p2)) p3) pos) (tRevL K te) := h ▸ pe_revL he
def rAddSt : R2 := fun x y H Q => ∃ i j, x = .str i ∧ y = .str j ∧ i.length + j.length ≤ sizeLine ∧ Q (.str (i ++ j)) H
theorem addS : OpR X (binaryOp .Add) rAddSt := op_add_str
def rInSg : R2 := fun x y H Q => ∃ (c : Nat) (z : Str), x = .str ⟨#[c]⟩ ∧ y = .str z ∧ Q (.bl (decide (c ∈ z.cps.toList))) H
theorem inSg : OpR X (compareOp .In) rInSg := op_in_sign
def rNotInSg : R2 := fun x y H Q => ∃ (c : Nat) (z : Str), x = .str ⟨#[c]⟩ ∧ y = .str z ∧ Q (.bl (!decide (c ∈ z.cps.toList))) H
theorem notInSg : OpR X (compareOp .NotIn) rNotInSg := op_notIn_sign
def rIntS : List V → Hp → VK → Prop := fun xs H Q => ∃ a n, xs = [.str a] ∧ PySem.intText? a = some n ∧ a.length ≤ 640 ∧ Q (.int n) H
theorem intS : CallR X (.type "int") rIntS := call_int_str
def rStrI : List V → Hp → VK → Prop := fun xs H Q => ∃ i : Int, xs = [.int i] ∧ i.natAbs.log2 < 1920 ∧ Q (.str (toString i)) H
theorem strI : CallR X (.type "str") rStrI := call_str_int
def rMax2 : List V → Hp → VK → Prop := fun xs H Q => ∃ i j, xs = [.int i, .int j] ∧ Q (.int (if j > i then j else i)) H
theorem max2 (hc : X.calm = true) : CallR X (.builtin "max") rMax2 := call_max2 hc
def rMin2 : List V → Hp → VK → Prop := fun xs H Q => ∃ i j, xs = [.int i, .int j] ∧ Q (.int (if j < i then j else i)) H
theorem min2 (hc : X.calm = true) : CallR X (.builtin "min") rMin2 := call_min2 hc
def rFind : V → List V → Hp → VK → Prop := fun x xs H Q => ∃ a b, x = .str a ∧ xs = [.str b] ∧ Q (.int (Txt.find a b)) H
theorem findS : MtR X "str.find" rFind := mt_find
/-- is True, is False, of anything -/
def rIsBA : R2 := fun x y H Q => ∃ b, y = .bl b ∧ Q (.bl (decide (x = .bl b))) H
theorem isBA : OpR X (compareOp .Is) rIsBA := by
  intro pins s σ H x y v u Q I rx ry h
  obtain ⟨b, rfl, q⟩ := h
  cases (show u = Value.bool b from ry)
  have no : ∀ z : V, z ≠ .bl b → Q (.bl (decide (z = .bl b))) H → Q (.bl false) H := fun z hz q => by
    rw [decide_eq_false hz] at q
    exact q
  cases x with
  | bl a =>
    cases (show v = Value.bool a from rx)
    by_cases e : a = b
    · subst e
      exact wpAny_is_self rfl ⟨.bl true, H, I, rfl, by simpa using q⟩
    · exact wpAny_is_other rfl (fun z => e (Value.bool.inj z)) ⟨.bl false, H, I, rfl, by simpa [e] using q⟩
  | non => cases (show v = Value.none from rx); exact wpAny_is_other rfl (fun z => by cases z) ⟨.bl false, H, I, rfl, no _ (fun z => by cases z) q⟩
  | int i => obtain ⟨t, rfl⟩ := (show ∃ t, v = Value.int i t from rx); exact wpAny_is_other rfl (fun z => by cases z) ⟨.bl false, H, I, rfl, no _ (fun z => by cases z) q⟩
  | str i => obtain ⟨t, rfl⟩ := (show ∃ t, v = Value.str i t from rx); exact wpAny_is_other rfl (fun z => by cases z) ⟨.bl false, H, I, rfl, no _ (fun z => by cases z) q⟩
  | byt i => obtain ⟨t, rfl⟩ := (show ∃ t, v = Value.bytes i t from rx); exact wpAny_is_other rfl (fun z => by cases z) ⟨.bl false, H, I, rfl, no _ (fun z => by cases z) q⟩
  | flt i => obtain ⟨t, rfl⟩ := (show ∃ t, v = Value.float i t from rx); exact wpAny_is_other rfl (fun z => by cases z) ⟨.bl false, H, I, rfl, no _ (fun z => by cases z) q⟩
  | ref a => cases (show v = Value.ref a from rx); exact wpAny_is_other rfl (fun z => by cases z) ⟨.bl false, H, I, rfl, no _ (fun z => by cases z) q⟩
  | ty n => cases (show v = Value.type n from rx); exact wpAny_is_other rfl (fun z => by cases z) ⟨.bl false, H, I, rfl, no _ (fun z => by cases z) q⟩
def rJoin (K : PySem.W.Frag) : V → List V → Hp → VK → Prop := fun x xs H Q => ∃ a p, ∃ ys : List Str, x = .str a ∧ xs = [.ref p] ∧ (SqL K H p (ys.map V.str) ∨ SqT K H p (ys.map V.str)) ∧ (ys.map (·.length)).sum + ys.length * a.length ≤ 16777216 ∧ Q (.str (Txt.join a ys)) H
theorem pe_joinK {o e : Expr} {to te : TE} {pos apos : Pos} (h : X.K = K) (ho : PE X o to) (he : PE X e te) (hs : starEach [e] X.env = [(false, eval e X.env)] := by rfl) (hbase : attributeBase o "join" X.env (eval o X.env) = eval o X.env := by rfl)
    (hline : (apos.endLine == pos.line) = true := by rfl) : PE X (.Call (.Attribute o "join" apos) [e] [] pos) (tM1 (rJoin K) to te) := by
  subst h
  exact pe_join ho he hs hbase hline
end

/-! #### a list that is set aside while an expression is evaluated -/
/-- the heap without what stands at D -/
def Wo (D : Addr) (H : Hp) : Hp := fun b => if b = D then none else H b
theorem wo_same {D : Addr} {H : Hp} : Wo D H D = none := if_pos rfl
theorem wo_ne {D b : Addr} {H : Hp} (h : b ≠ D) : Wo D H b = H b := if_neg h
theorem wo_upd {D : Addr} {H : Hp} {o : HO} (h : H D = none) : Wo D (upd H D o) = H := by
  funext b
  by_cases e : b = D
  · subst e
    rw [wo_same, h]
  · rw [wo_ne e, upd_ne e]
def tFrm (te : TE) : TE := fun σ H Q => ∃ (D : Addr) (xs : List V), H D = some (.lst xs) ∧ te σ (Wo D H) fun v H' => H' D = none → Q v (upd H' D (.lst xs))
theorem pe_frm {X : Cx} {e : Expr} {te : TE} (he : PE X e te) : PE X e (tFrm te) := by
  refine ⟨fun pins s σ H Q I h => ?_⟩
  obtain ⟨D, xs, hD, h⟩ := h
  obtain ⟨hz, its, n, rv, hg⟩ := (show ObjOk X.prog X.w H s.heap D (.lst xs) from I.hok D _ hD)
  have nD : ∀ b, H b = none → b ≠ D := fun b hb e => by rw [e, hD] at hb; cases hb
  have nO : ∀ b o, H b = some o → o ≠ .lst xs → b ≠ D := fun b o hb ho e => by rw [e, hD] at hb; exact ho (Option.some.inj hb).symm
  have I2 : Inv X ((D, { cls := .type "list", data := .seq its.toArray n }) :: pins) σ (Wo D H) s := by
    refine ⟨I.ok, I.os, I.bare, ⟨I.base.keep, I.base.slot, fun b o e1 e2 e3 => ?_, I.base.there, fun b ys e => ?_, fun b o u e => ?_, fun b ps e => ?_⟩, I.loc, I.cell, ?_, fun x c e => ?_, fun p hp => ?_, fun a o e => ?_, I.len⟩
    · have q := I.base.free b o e1 e2 e3
      rw [wo_ne (nD b q)]
      exact q
    · have q := I.base.tups b ys e
      rw [wo_ne (nO b _ q (fun z => by cases z))]
      exact q
    · have q := I.base.frzs b o u e
      rw [wo_ne (nO b _ q (fun z => by cases z))]
      exact q
    · obtain ⟨m, q⟩ := I.base.tbls b ps e
      exact ⟨m, by rw [wo_ne (nO b _ q (fun z => by cases z))]; exact q⟩
    · rw [wo_ne (nD _ I.free)]
      exact I.free
    · rw [wo_ne (nD _ (I.freeC x c e))]
      exact I.freeC x c e
    · have old : ∀ p ∈ X.pn ++ pins, s.heap.get? p.1 = some p.2 ∧ Wo D H p.1 = none ∧ p.1 ≠ X.env.locals ∧ p.1 ∉ X.fs ∧ ∀ v, p.2.data ≠ .cell v := fun p hp => by
        obtain ⟨a1, a2, a3, a4, a5⟩ := I.pin p hp
        exact ⟨a1, by rw [wo_ne (nD _ a2)]; exact a2, a3, a4, a5⟩
      rcases List.mem_append.mp hp with hp | hp
      · exact old p (List.mem_append_left _ hp)
      · rcases List.mem_cons.mp hp with rfl | hp
        · refine ⟨hg, wo_same, fun z => nD _ I.free z.symm, fun z => ?_, fun v z => by cases z⟩
          by_cases hf : H D = none
          · rw [hD] at hf
            cases hf
          · obtain ⟨_, ob, ho, _⟩ := I.ok.funs.mem z
            exact hf (I.base.free D ob ho (I.ok.frf D z) fun y => I.ok.exfs D y z)
        · exact old p (List.mem_append_right _ hp)
    · by_cases ha : a = D
      · subst ha
        rw [wo_same] at e
        cases e
      · rw [wo_ne ha] at e
        refine (I.hok a o e).stay (fun b u _ q => q) (fun b q => ?_) fun b ys q => ?_
        · rw [wo_ne (nO b _ q (fun z => by cases z))]
          exact q
        · rw [wo_ne (nO b _ q (fun z => by cases z))]
          exact q
  refine thn (he.run _ s σ (Wo D H) _ I2 h) fun u s1 hh => ?_
  obtain ⟨v, H', I', r, q⟩ := hh
  obtain ⟨p1, p2, p3, p4, _⟩ := I'.pin (D, { cls := .type "list", data := .seq its.toArray n }) (List.mem_append_right _ List.mem_cons_self)
  have p1 : s1.heap.get? D = some { cls := .type "list", data := .seq its.toArray n } := p1
  have p2 : H' D = none := p2
  have mD : ∀ b o, H' b = some o → b ≠ D := fun b o e z => by rw [z, p2] at e; cases e
  refine ⟨v, upd H' D (.lst xs), ⟨I'.ok, I'.os, I'.bare, ⟨I'.base.keep, I'.base.slot, fun b o e1 e2 e3 => ?_, I'.base.there, fun b ys e => ?_, fun b o u e => ?_, fun b ps e => ?_⟩, I'.loc, I'.cell, ?_, fun x c e => ?_, fun p hp => ?_, fun a o e => ?_, I'.len⟩, r, q p2⟩
  · rw [upd_ne (nD _ (I.base.free b o e1 e2 e3))]
    exact I'.base.free b o e1 e2 e3
  · have z := I'.base.tups b ys e
    rw [upd_ne (mD _ _ z)]
    exact z
  · have z := I'.base.frzs b o u e
    rw [upd_ne (mD _ _ z)]
    exact z
  · obtain ⟨m, z⟩ := I'.base.tbls b ps e
    exact ⟨m, by rw [upd_ne (mD _ _ z)]; exact z⟩
  · rw [upd_ne (fun z => p3 z.symm)]
    exact I'.free
  · rw [upd_ne (nD _ (I.freeC x c e))]
    exact I'.freeC x c e
  · obtain ⟨a1, a2, a3, a4, a5⟩ := I'.pin p (by
      rcases List.mem_append.mp hp with hp | hp
      · exact List.mem_append_left _ hp
      · exact List.mem_append_right _ (List.mem_cons_of_mem _ hp))
    exact ⟨a1, by rw [upd_ne (nD _ (I.pin p hp).2.1)]; exact a2, a3, a4, a5⟩
  · by_cases ha : a = D
    · subst ha
      rw [upd_same] at e
      cases e
      exact ⟨hz, its, n, rv, p1⟩
    · rw [upd_ne ha] at e
      refine (I'.hok a o e).stay (fun b u _ q => q) (fun b z => ?_) fun b ys z => ?_
      · rw [upd_ne (mD _ _ z)]
        exact z
      · rw [upd_ne (mD _ _ z)]
        exact z

/-! #### readings, one step each -/
section
variable {K : PySem.W.Frag} {σ : L2.St} {H : Hp} {i : Nat} {v x y : V} {Q : VK} {r : R2} {ta tb te : TE} {D : Ends} {t u : TS} {tt tu : TT} {g : TG} {tr : TA}
theorem rd_var (h : σ[i]? = some (some v)) (q : Q v H) : tVar i σ H Q := ⟨v, h, q⟩
theorem rd_c (q : Q v H) : tC v σ H Q := q
theorem rd_op (h : ta σ H fun x H1 => tb σ H1 fun y H2 => r x y H2 Q) : tOp r ta tb σ H Q := h
theorem rd_seq (h : t { D with nx := u D } σ H) : tSeq t u D σ H := h
theorem rd_asg (h : te σ H fun x H1 => g x σ H1 D.nx) : tAsg te g D σ H := h
theorem rd_name {P : L2.St → Hp → Prop} (h : P (σ.set i (some v)) H) : gName i v σ H P := h
theorem rd_next (h : D.nx σ H) : tNext D σ H := h
theorem rd_ret (h : te σ H D.rt) : tRet te D σ H := h
theorem rd_retN (h : D.rt .non H) : tRetN D σ H := h
theorem rd_drop (h : te σ H fun _ H1 => D.nx σ H1) : tDrop te D σ H := h
theorem rd_ifS {tc : TT} (h : tc σ H fun b H1 => if b = true then t D σ H1 else u D σ H1) : tIfS tc t u D σ H := h
theorem rd_if {tc : TT} (h : tc σ H fun c H1 => if c = true then ta σ H1 Q else tb σ H1 Q) : tIf tc ta tb σ H Q := h
theorem rd_test {P : Bool → Hp → Prop} (h : te σ H fun x H' => ∃ k, x = .bl k ∧ P k H') : tTest te σ H P := h
theorem rd_B {P : Bool → Hp → Prop} (h : te σ H fun x H' => ∃ k, x = .bl k ∧ P k H') : tB te σ H P := h
theorem rd_not {P : Bool → Hp → Prop} (h : tt σ H fun c H1 => P (!c) H1) : tNot tt σ H P := h
theorem rd_and {P : Bool → Hp → Prop} (h : tt σ H fun c H1 => if c = true then tu σ H1 P else P false H1) : tAnd tt tu σ H P := h
theorem rd_or {P : Bool → Hp → Prop} (h : tt σ H fun c H1 => if c = true then P true H1 else tu σ H1 P) : tOr tt tu σ H P := h
theorem rd_nil {P : List V → Hp → Prop} (h : P [] H) : tNil σ H P := h
theorem rd_cons {P : List V → Hp → Prop} (h : te σ H fun x H1 => tr σ H1 fun xs H2 => P (x :: xs) H2) : tCons te tr σ H P := h
theorem rd_cb {rr : List V → Hp → VK → Prop} (h : tr σ H fun vs H1 => rr vs H1 Q) : tCB rr tr σ H Q := h
theorem rd_call {sp : Sp} {dvs : List V} {E : XK} (h : tr σ H fun vs H1 => sp (vs ++ dvs) H1 Q E) : tCall sp dvs E tr σ H Q := h
theorem rd_I0 {f : Int → Int → V} {a b : Int} (h : Q (f a b) H) : rI0 f (.int a) (.int b) H Q := ⟨a, b, rfl, rfl, h⟩
theorem rd_I {C : Int → Int → Prop} {f : Int → Int → V} {a b : Int} (hc : C a b) (h : Q (f a b) H) : rI C f (.int a) (.int b) H Q := ⟨a, b, rfl, rfl, hc, h⟩
theorem rd_eq (h : scal x y = true) (q : Q (.bl (decide (x = y))) H) : rEq x y H Q := ⟨h, q⟩
theorem rd_ne (h : scal x y = true) (q : Q (.bl (!decide (x = y))) H) : rNe x y H Q := ⟨h, q⟩
theorem rd_ex_bl {P : Bool → Prop} {b : Bool} (h : P b) : ∃ k, V.bl b = V.bl k ∧ P k := ⟨b, rfl, h⟩
theorem rd_un {rr : V → Hp → VK → Prop} (h : ta σ H fun x H1 => rr x H1 Q) : tUn rr ta σ H Q := h
theorem rd_U {f : Int → V} {a : Int} (h : Q (f a) H) : rU f (.int a) H Q := ⟨a, rfl, h⟩
theorem rd_chain {r' : R2} {tc : TE} (h : ta σ H fun x H1 => tb σ H1 fun y H2 => r x y H2 fun z H3 => ∃ k, z = .bl k ∧ (if k = true then tc σ H3 fun w' H4 => r' y w' H4 Q else Q (.bl false) H3)) : tChain r r' ta tb tc σ H Q := h
/-- what a new list, a new tuple hands on -/
def LstK (Q : VK) : List V → Hp → Prop := fun xs H1 => xs.length ≤ sizeLine ∧ ∀ p, H1 p = none → Q (.ref p) (upd H1 p (.lst xs))
def TupK (Q : VK) : List V → Hp → Prop := fun xs H1 => xs.length ≤ sizeLine ∧ ∀ p, H1 p = none → Q (.ref p) (upd H1 p (.tup xs))
theorem rd_lst (h : tr σ H (LstK Q)) : tLst tr σ H Q := h
theorem rd_tup (h : tr σ H (TupK Q)) : tTup tr σ H Q := h
theorem rd_andV (h : ta σ H fun x H1 => ∃ c, x = .bl c ∧ if c = true then tb σ H1 Q else Q (.bl false) H1) : tAndV ta tb σ H Q := h
theorem rd_orV (h : ta σ H fun x H1 => ∃ c, x = .bl c ∧ if c = true then Q (.bl true) H1 else tb σ H1 Q) : tOrV ta tb σ H Q := h
theorem rd_notV (h : ta σ H fun x H1 => ∃ c, x = .bl c ∧ Q (.bl (!c)) H1) : tNotV ta σ H Q := h
theorem rd_sub {tt3 : V → V → V → Hp → (Hp → Prop) → Prop} {P : L2.St → Hp → Prop} (h : ta σ H fun o H1 => tb σ H1 fun i H2 => tt3 o i v H2 fun H3 => P σ H3) : gSub ta tb tt3 v σ H P := h
theorem rd_ite {c : Prop} [Decidable c] {A B : Prop} (h1 : c → A) (h2 : ¬ c → B) : if c then A else B := ite2 h1 h2
theorem rd_iteD {c : Prop} [Decidable c] {A B : Prop} (h1 : c → A) (h2 : ¬ c → B) : if decide c = true then A else B := by
  by_cases h : c
  · rw [if_pos (decide_eq_true h)]; exact h1 h
  · rw [if_neg (by simpa using h)]; exact h2 h
theorem rd_iteN {b : Bool} {A B : Prop} (h : if b = true then B else A) : if (!b) = true then A else B := by
  cases b with
  | true => exact iteF (by simpa using h)
  | false => exact iteT (by simpa using h)
theorem rd_iteND {c : Prop} [Decidable c] {A B : Prop} (h1 : c → B) (h2 : ¬ c → A) : if (!decide c) = true then A else B := rd_iteN (rd_iteD h1 h2)
theorem rd_ixL {xs : List V} {p : Addr} {k : Int} (h : SqL K H p xs) (ha : atI xs k = some v) (q : Q v H) : rIx K (.ref p) (.int k) H Q := .inl ⟨p, xs, k, v, rfl, rfl, h, ha, q⟩
theorem rd_ixL1 {xs : List V} {p : Addr} {k : Int} (h : SqL K H p xs) (ha : atI xs k = some v) (q : Q v H) : rIxL K (.ref p) (.int k) H Q := ⟨p, xs, k, v, rfl, rfl, h, ha, q⟩
theorem rd_ixT {xs : List V} {p : Addr} {k : Int} (h : SqT K H p xs) (ha : atI xs k = some v) (q : Q v H) : rIx K (.ref p) (.int k) H Q := .inr (.inl ⟨p, xs, k, v, rfl, rfl, h, ha, q⟩)
theorem rd_ixT1 {xs : List V} {p : Addr} {k : Int} (h : SqT K H p xs) (ha : atI xs k = some v) (q : Q v H) : rIxT K (.ref p) (.int k) H Q := ⟨p, xs, k, v, rfl, rfl, h, ha, q⟩
theorem rd_ixS {z : Str} {k : Int} {c : Nat} (h : z.length ≤ sizeLine) (ha : atI z.cps.toList k = some c) (q : Q (.str ⟨#[c]⟩) H) : rIx K (.str z) (.int k) H Q := .inr (.inr ⟨z, k, c, rfl, rfl, h, ha, q⟩)
theorem rd_ixS1 {z : Str} {k : Int} {c : Nat} (h : z.length ≤ sizeLine) (ha : atI z.cps.toList k = some c) (q : Q (.str ⟨#[c]⟩) H) : rIxS (.str z) (.int k) H Q := ⟨z, k, c, rfl, rfl, h, ha, q⟩
theorem rd_modA {i j : Int} (hj : 0 < j) (q : ∀ r, 0 ≤ r → r < j → Q (.int r) H) : rI (fun _ j => 0 < j) (fun i j => .int (i % j)) (.int i) (.int j) H Q :=
  ⟨i, j, rfl, rfl, hj, q _ (Int.emod_nonneg _ (by omega)) (Int.emod_lt_of_pos _ hj)⟩
theorem rd_setL {p : Addr} {xs : List V} {k : Int} {j : Nat} {P : Hp → Prop} (h : H p = some (.lst xs)) (hj : ixN xs.length k = some j) (q : P (upd H p (.lst (xs.set j v)))) : rSetL (.ref p) (.int k) v H P := ⟨p, xs, k, j, rfl, rfl, h, hj, q⟩
theorem rd_isi {t n : String} {b : Bool} (ty : TyX K H v (.type t)) (k : kitB t n = some b) (q : Q (.bl b) H) : rIsi K [v, .ty n] H Q := ⟨v, .ty n, _, _, b, rfl, ClsV.ty n, ty, kit_ty k, q⟩
theorem rd_lenS {z : Str} (h : z.length ≤ sizeLine) (q : Q (.int (z.length : Nat)) H) : rLenA K [.str z] H Q := ⟨_, _, rfl, ⟨h, rfl⟩, q⟩
theorem rd_lenL {p : Addr} {xs : List V} (h : SqL K H p xs) (q : Q (.int (xs.length : Nat)) H) : rLenA K [.ref p] H Q := ⟨_, _, rfl, .inl ⟨_, h, rfl⟩, q⟩
theorem rd_lenT {p : Addr} {xs : List V} (h : SqT K H p xs) (q : Q (.int (xs.length : Nat)) H) : rLenA K [.ref p] H Q := ⟨_, _, rfl, .inr ⟨_, h, rfl⟩, q⟩
theorem rd_inS {z : Str} {c : Nat} (q : Q (.bl (decide (c ∈ z.cps.toList))) H) : rInSg (.str ⟨#[c]⟩) (.str z) H Q := ⟨c, z, rfl, rfl, q⟩
theorem rd_notInS {z : Str} {c : Nat} (q : Q (.bl (!decide (c ∈ z.cps.toList))) H) : rNotInSg (.str ⟨#[c]⟩) (.str z) H Q := ⟨c, z, rfl, rfl, q⟩
theorem rd_max2 {a b : Int} (q : ∀ c : Int, (c = a ∧ b ≤ a ∨ c = b ∧ a < b) → Q (.int c) H) : rMax2 [.int a, .int b] H Q := ⟨a, b, rfl, q _ (by by_cases h : b > a <;> simp [h] <;> omega)⟩
theorem rd_min2 {a b : Int} (q : ∀ c : Int, (c = a ∧ a ≤ b ∨ c = b ∧ b < a) → Q (.int c) H) : rMin2 [.int a, .int b] H Q := ⟨a, b, rfl, q _ (by by_cases h : b < a <;> simp [h] <;> omega)⟩
theorem rd_find {a b : Str} (q : Q (.int (Txt.find a b)) H) : rFind (.str a) [.str b] H Q := ⟨a, b, rfl, rfl, q⟩
theorem rd_m1 {rr : V → List V → Hp → VK → Prop} (h : ta σ H fun x H1 => (∃ a, x = .str a) ∧ tb σ H1 fun y H2 => rr x [y] H2 Q) : tM1 rr ta tb σ H Q := h
theorem rd_exStr {a : Str} {B : Prop} (h : B) : (∃ b, V.str a = V.str b) ∧ B := ⟨⟨a, rfl⟩, h⟩
theorem small_sz {n : Nat} (h : n ≤ 100000) : n ≤ sizeLine := Nat.le_trans h (by decide)
/-- what a comprehension's turn hands on: the list at D has one more item -/
def LcK (n : Nat) (D : Addr) (Pv : Nat → List V → Hp → Prop) (i : Nat) : VK := fun y H4 => ∃ acc, H4 D = some (.lst acc) ∧ acc.length < sizeLine ∧ ∃ acc', acc'.length = i + 1 ∧ (upd H4 D (.lst (acc ++ [y]))) D = some (.lst acc') ∧ Pv (i + 1) acc' (upd H4 D (.lst (acc ++ [y])))
theorem lcK {n : Nat} {D : Addr} {Pv : Nat → List V → Hp → Prop} {i : Nat} {y : V} {H4 : Hp} {acc : List V} (h : H4 D = some (.lst acc)) (hl : acc.length = i) (hn : i < n) (hz : n ≤ 100000) (hp : Pv (i + 1) (acc ++ [y]) (upd H4 D (.lst (acc ++ [y])))) : LcK n D Pv i y H4 :=
  ⟨acc, h, Nat.lt_of_lt_of_le (show acc.length < 100000 by omega) (by decide), acc ++ [y], by rw [List.length_append, hl]; rfl, upd_same, hp⟩
theorem lc_yes {J : It} {n : Nat} {G : Hp → Prop} {Y : Nat → Hp → V → Hp → Prop} (w : Walk J n G Y) {te : TE} {vs : List Nat} {σ : L2.St} {H1 : Hp} {D : Addr} {Qd : Hp → Prop} (Pv : Nat → List V → Hp → Prop) (h0 : Pv 0 [] (upd H1 D (.lst [])))
    (hG : ∀ i acc H, i ≤ n → Pv i acc H → G H)
    (hs : ∀ i x acc H H', i < n → acc.length = i → H D = some (.lst acc) → Pv i acc H → Y i H x H' → g x (wipe σ vs) H' fun σ2 H2 => wipe σ2 vs = wipe σ vs ∧ te σ2 H2 (LcK n D Pv i))
    (hd : ∀ acc H, acc.length = n → H D = some (.lst acc) → Pv n acc H → Qd H) :
    ∃ W : Nat → Nat → Hp → Prop, (∃ m, W 0 m (upd H1 D (.lst []))) ∧ ∀ i m H, W i m H →
      (J.stop i H ∧ Qd H) ∨ (J.go i H ∧ ∃ Nx : Hp → Prop, (∀ H', Nx H' → ∃ m', m' < m ∧ W (i + 1) m' H') ∧ ∀ x H', J.yld i H x H' → g x (wipe σ vs) H' fun σ2 H2 => wipe σ2 vs = wipe σ vs ∧ tYes σ2 H2 fun b H3 =>
        if b = true then te σ2 H3 fun y H4 => ∃ acc, H4 D = some (.lst acc) ∧ acc.length < sizeLine ∧ Nx (upd H4 D (.lst (acc ++ [y]))) else Nx H3) :=
  lc_it w (fun i H => ∃ acc, acc.length = i ∧ H D = some (.lst acc) ∧ Pv i acc H) ⟨[], rfl, upd_same, h0⟩ (fun i H hi ⟨acc, _, _, p⟩ => hG i acc H hi p)
    (fun i x H H' hi ⟨acc, hl, hD, p⟩ y => hs i x acc H H' hi hl hD p y) (fun H ⟨acc, hl, hD, p⟩ => hd acc H hl hD p)
/-! what is walked, comprehensions, loops -/
def Rng1K (R : It → Hp → Prop) : List V → Hp → Prop := fun vs H1 => ∃ j : Int, vs = [.int j] ∧ -(2 ^ 62) ≤ j ∧ j < 2 ^ 62 ∧ R (Itr 0 j.toNat) H1
def Rng2K (R : It → Hp → Prop) : List V → Hp → Prop := fun vs H1 => ∃ i j : Int, vs = [.int i, .int j] ∧ (-(2 ^ 62) ≤ i ∧ i < 2 ^ 62 ∧ -(2 ^ 62) ≤ j ∧ j < 2 ^ 62) ∧ R (Itr i (j - i).toNat) H1
def LstIt (K : PySem.W.Frag) (R : It → Hp → Prop) : VK := fun x H1 => ∃ a, x = .ref a ∧ (∃ xs, SqL K H1 a xs) ∧ R (Itl K a) H1
def TupIt (K : PySem.W.Frag) (R : It → Hp → Prop) : VK := fun x H1 => ∃ a, x = .ref a ∧ (∃ xs, SqT K H1 a xs) ∧ R (Itt K a) H1
def StrIt (R : It → Hp → Prop) : VK := fun v H1 => ∃ x, v = .str x ∧ R (Its x) H1
theorem rd_iR1 {R : It → Hp → Prop} (h : tr σ H (Rng1K R)) : iRng1 tr σ H R := h
theorem rd_iR2 {R : It → Hp → Prop} (h : tr σ H (Rng2K R)) : iRng2 tr σ H R := h
theorem rd_iL {R : It → Hp → Prop} (h : te σ H (LstIt K R)) : iList K te σ H R := h
theorem rd_iT {R : It → Hp → Prop} (h : te σ H (TupIt K R)) : iTup K te σ H R := h
theorem rd_iS {R : It → Hp → Prop} (h : te σ H (StrIt R)) : iStr te σ H R := h
theorem rd_r1 {R : It → Hp → Prop} {j : Int} (h0 : -1000000 ≤ j) (h1 : j ≤ 1000000) (q : R (Itr 0 j.toNat) H) : Rng1K R [.int j] H := ⟨j, rfl, by omega, by omega, q⟩
theorem rd_r2 {R : It → Hp → Prop} {i j : Int} (h0 : -1000000000000 ≤ i ∧ i ≤ 1000000000000) (h1 : -1000000000000 ≤ j ∧ j ≤ 1000000000000) (q : R (Itr i (j - i).toNat) H) : Rng2K R [.int i, .int j] H := ⟨i, j, rfl, by omega, q⟩
theorem rd_il {R : It → Hp → Prop} {p : Addr} {xs : List V} (h : SqL K H p xs) (q : R (Itl K p) H) : LstIt K R (.ref p) H := ⟨p, rfl, ⟨xs, h⟩, q⟩
theorem rd_it {R : It → Hp → Prop} {p : Addr} {xs : List V} (h : SqT K H p xs) (q : R (Itt K p) H) : TupIt K R (.ref p) H := ⟨p, rfl, ⟨xs, h⟩, q⟩
theorem rd_is {R : It → Hp → Prop} {z : Str} (q : R (Its z) H) : StrIt R (.str z) H := ⟨z, rfl, q⟩
def LcGo (J : It) (g : TG) (tt : TT) (te : TE) (vs : List Nat) (σ : L2.St) (H1 : Hp) (Q : VK) : Prop := ∀ D, H1 D = none → ∃ W : Nat → Nat → Hp → Prop, (∃ m, W 0 m (upd H1 D (.lst []))) ∧ ∀ i m H, W i m H →
  (J.stop i H ∧ Q (.ref D) H) ∨ (J.go i H ∧ ∃ Nx : Hp → Prop, (∀ H', Nx H' → ∃ m', m' < m ∧ W (i + 1) m' H') ∧ ∀ x H', J.yld i H x H' → g x (wipe σ vs) H' fun σ2 H2 => wipe σ2 vs = wipe σ vs ∧ tt σ2 H2 fun b H3 =>
    if b = true then te σ2 H3 fun y H4 => ∃ acc, H4 D = some (.lst acc) ∧ acc.length < sizeLine ∧ Nx (upd H4 D (.lst (acc ++ [y]))) else Nx H3)
theorem rd_lc {wi : TI} {vs : List Nat} (h : wi σ H fun J H1 => LcGo J g tt te vs σ H1 Q) : tLc wi g tt te vs σ H Q := h
theorem lcgo {J : It} {n : Nat} {G : Hp → Prop} {Y : Nat → Hp → V → Hp → Prop} (w : Walk J n G Y) {vs : List Nat} {H1 : Hp} (Pv : Addr → Nat → List V → Hp → Prop) (h0 : ∀ D, H1 D = none → Pv D 0 [] (upd H1 D (.lst [])))
    (hG : ∀ D i acc H, H1 D = none → i ≤ n → Pv D i acc H → G H)
    (hs : ∀ D i x acc H H', H1 D = none → i < n → acc.length = i → H D = some (.lst acc) → Pv D i acc H → Y i H x H' → g x (wipe σ vs) H' fun σ2 H2 => wipe σ2 vs = wipe σ vs ∧ te σ2 H2 (LcK n D (Pv D) i))
    (hd : ∀ D acc H, H1 D = none → acc.length = n → H D = some (.lst acc) → Pv D n acc H → Q (.ref D) H) : LcGo J g tYes te vs σ H1 Q :=
  fun D hD => lc_yes w (Pv D) (h0 D hD) (fun i acc H a b => hG D i acc H hD a b) (fun i x acc H H' a b c d e => hs D i x acc H H' hD a b c d e) fun acc H a b c => hd D acc H hD a b c
def ForGo (J : It) (g : TG) (tb : TS) (D : Ends) (σ : L2.St) (H1 : Hp) : Prop := ∃ W : Nat → Nat → L2.St → Hp → Prop, (∃ m, W 0 m σ H1) ∧ ∀ i m σ H, W i m σ H →
  (J.stop i H ∧ D.nx σ H) ∨ (J.go i H ∧ ∃ N : L2.St → Hp → Prop, (∀ σ' H', N σ' H' → ∃ m', m' < m ∧ W (i + 1) m' σ' H') ∧ ∀ x H', J.yld i H x H' → g x σ H' fun σ2 H2 => tb { D with nx := N, ct := N, bk := D.nx } σ2 H2)
theorem rd_for {wi : TI} (h : wi σ H fun J H1 => ForGo J g t D σ H1) : tFor wi g t D σ H := h
theorem forgo {J : It} {n : Nat} {G : Hp → Prop} {Y : Nat → Hp → V → Hp → Prop} (w : Walk J n G Y) (Pv : Nat → L2.St → Hp → Prop) (h0 : Pv 0 σ H) (hG : ∀ i σ H, i ≤ n → Pv i σ H → G H)
    (hs : ∀ i x σ H H', i < n → Pv i σ H → Y i H x H' → g x σ H' fun σ2 H2 => t { D with nx := Pv (i + 1), ct := Pv (i + 1), bk := D.nx } σ2 H2) (hd : ∀ σ H, Pv n σ H → D.nx σ H) : ForGo J g t D σ H := for_it w Pv h0 hG hs hd
theorem rd_lstA {xs : List V} (hz : xs.length ≤ 100000) (q : ∀ p H', H p = none → Same H H' → H' p = some (.lst xs) → Q (.ref p) H') : LstK Q xs H :=
  ⟨Nat.le_trans hz (by decide), fun p hp => q p _ hp (fun b x e => by rw [upd_ne (ne_of_none e hp)]; exact e) upd_same⟩
theorem rd_tupA {xs : List V} (hz : xs.length ≤ 100000) (q : ∀ p H', H p = none → Same H H' → H' p = some (.tup xs) → Q (.ref p) H') : TupK Q xs H :=
  ⟨Nat.le_trans hz (by decide), fun p hp => q p _ hp (fun b x e => by rw [upd_ne (ne_of_none e hp)]; exact e) upd_same⟩
theorem len_le : ∀ {xs : List V} {n : Nat}, xs.length = n → n ≤ 100000 → xs.length ≤ 100000 := fun e h => e ▸ h
theorem rd_nx {a c d : L2.St → Hp → Prop} {b : VK} (h : a σ H) : Ends.nx ⟨a, b, c, d⟩ σ H := h
theorem rd_rt {a c d : L2.St → Hp → Prop} {b : VK} (h : b v H) : Ends.rt ⟨a, b, c, d⟩ v H := h
theorem rd_sl {rs : V → Option Int → Option Int → Hp → VK → Prop} {tl th : TO} (h : ta σ H fun x H1 => tl σ H1 fun lo H2 => th σ H2 fun hi H3 => rs x lo hi H3 Q) : tSl rs ta tl th σ H Q := h
theorem rd_nopart {P : Option Int → Hp → Prop} (h : P none H) : tNoPart σ H P := h
theorem rd_part {P : Option Int → Hp → Prop} (h : te σ H fun x H1 => ∃ i, x = .int i ∧ P (some i) H1) : tPart te σ H P := h
theorem rd_ex_int {P : Int → Prop} {b : Int} (h : P b) : ∃ k, V.int b = V.int k ∧ P k := ⟨b, rfl, h⟩
theorem rd_slS {z : Str} {lo hi : Option Int} (hz : z.length ≤ sizeLine) (h : Q (.str (cutS z lo hi)) H) : rSlS (.str z) lo hi H Q := ⟨z, rfl, hz, h⟩
theorem rd_addS {a b : Str} (hz : a.length + b.length ≤ 100000) (h : Q (.str (a ++ b)) H) : rAddSt (.str a) (.str b) H Q := ⟨a, b, rfl, rfl, Nat.le_trans hz (by decide), h⟩
theorem rd_repS {a : Str} {n : Int} (hm : MulOk a n) (h : Q (.str (Txt.mul a n)) H) : rRepS (.str a) (.int n) H Q := ⟨a, n, rfl, rfl, hm, h⟩
theorem rd_repr0 {t : Str} (h : shown0 v = some t) (q : Q (.str t) H) : rRepr0 [v] H Q := ⟨v, t, rfl, h, q⟩
def RevK (K : PySem.W.Frag) (Q : VK) : VK := fun x H1 => ∃ a xs, x = .ref a ∧ SqL K H1 a xs ∧ ∀ p, H1 p = none → Q (.ref p) (upd H1 p (.lst xs.reverse))
theorem rd_revL (h : te σ H (RevK K Q)) : tRevL K te σ H Q := h
theorem rd_revK {p : Addr} {xs : List V} (h : SqL K H p xs) (q : ∀ p H', H p = none → Same H H' → H' p = some (.lst xs.reverse) → Q (.ref p) H') : RevK K Q (.ref p) H :=
  ⟨p, xs, rfl, h, fun p hp => q p _ hp (fun b x e => by rw [upd_ne (ne_of_none e hp)]; exact e) upd_same⟩
theorem rd_cat {l b : Addr} {xs zs : List V} (h1 : H l = some (.lst xs)) (h2 : H b = some (.lst zs)) (hz : xs.length + zs.length ≤ 100000) (q : ∀ p H', H p = none → Same H H' → H' p = some (.lst (xs ++ zs)) → Q (.ref p) H') : rCat (.ref l) (.ref b) H Q :=
  ⟨l, b, xs, zs, rfl, rfl, h1, h2, Nat.le_trans hz (by decide), fun p hp => q p _ hp (fun b x e => by rw [upd_ne (ne_of_none e hp)]; exact e) upd_same⟩
theorem rd_isBA {b : Bool} (q : Q (.bl (decide (v = .bl b))) H) : rIsBA v (.bl b) H Q := ⟨b, rfl, q⟩
theorem rd_gtup {n : Nat} {tt2 : List V → L2.St → Hp → (L2.St → Hp → Prop) → Prop} {P : L2.St → Hp → Prop} {p : Addr} {xs : List V} (h : SqT K H p xs) (hl : xs.length = n) (q : tt2 xs σ H P) : gTup K n tt2 (.ref p) σ H P := ⟨p, xs, rfl, h, hl, q⟩
theorem rd_gcons {tt2 : List V → L2.St → Hp → (L2.St → Hp → Prop) → Prop} {P : L2.St → Hp → Prop} {xs : List V} (h : g v σ H fun σ' H' => tt2 xs σ' H' P) : gCons g tt2 (v :: xs) σ H P := ⟨v, xs, rfl, h⟩
theorem rd_gnil {P : L2.St → Hp → Prop} (h : P σ H) : gNil [] σ H P := ⟨rfl, h⟩
/-- xs.append(e) -/
theorem rd_bm {T : String} {rr : V → List V → Hp → VK → Prop} (h : te σ H fun x H1 => tyV K T x H1 ∧ tr σ H1 fun xs H2 => rr x xs H2 Q) : tBM K T rr te tr σ H Q := h
theorem rd_tyL {p : Addr} {xs : List V} {B : Prop} (h : SqL K H p xs) (q : B) : tyV K "list" (.ref p) H ∧ B := ⟨.inl ⟨rfl, xs, h⟩, q⟩
theorem rd_append {l : Addr} {xs : List V} {y : V} (h : H l = some (.lst xs)) (hz : xs.length < 100000) (q : Q .non (upd H l (.lst (xs ++ [y])))) : rAppend (.ref l) [y] H Q := ⟨l, xs, y, rfl, rfl, h, Nat.lt_of_lt_of_le hz (by decide), q⟩
theorem rd_frm {D : Addr} {xs : List V} (h : H D = some (.lst xs)) (q : te σ (Wo D H) fun v H' => H' D = none → Q v (upd H' D (.lst xs))) : tFrm te σ H Q := ⟨D, xs, h, q⟩
theorem join_len {ys : List Str} (h : ∀ y ∈ ys, y.length = 1) : (Txt.join (Str.ofString "") ys).length ≤ ys.length ∧ (ys.map (·.length)).sum = ys.length := by
  have e : (ys.map (·.length)).sum = ys.length := by
    induction ys with
    | nil => rfl
    | cons a r ih =>
      rw [List.map_cons, List.sum_cons, ih fun y hy => h y (List.mem_cons_of_mem _ hy), h a List.mem_cons_self, List.length_cons]
      omega
  refine ⟨?_, e⟩
  have := size_glued (Str.ofString "") ys
  have e0 : (Str.ofString "").length = 0 := by decide +kernel
  rw [e0, Nat.mul_zero, Nat.add_zero, e] at this
  exact Nat.le_of_eq this
/-- "".join of signs -/
theorem rd_join1 {p : Addr} {ys : List Str} (h : SqL K H p (ys.map V.str)) (h1 : ∀ y ∈ ys, y.length = 1) (hl : ys.length ≤ 100000) (q : ∀ z : Str, z = Txt.join (Str.ofString "") ys → z.length ≤ ys.length → Q (.str z) H) : rJoin K (.str (Str.ofString "")) [.ref p] H Q := by
  obtain ⟨j1, j2⟩ := join_len h1
  have e0 : (Str.ofString "").length = 0 := by decide +kernel
  refine ⟨_, p, ys, rfl, rfl, .inl h, ?_, q _ rfl j1⟩
  rw [j2, e0]
  omega
theorem rd_disp1 {tk tv : TE} {kx : Key} {y : V} (hk : ∀ H' (P : VK), P (kV kx) H' → tk σ H' P) (hv : ∀ H' (P : VK), P y H' → tv σ H' P) (q : ∀ p H', H p = none → Same H H' → H' p = some (.dK [(kx, y)]) → Q (.ref p) H') : tDisp [(tk, tv)] σ H Q := by
  intro p hp
  refine hk _ _ (hv _ _ ⟨upd_same, [(kx, y)], rfl, (show 1 ≤ 15 by decide), ?_⟩)
  rw [upd_upd]
  exact q p _ hp (fun b x e => by rw [upd_ne (ne_of_none e hp)]; exact e) upd_same
theorem rd_dnew (q : ∀ p H', H p = none → Same H H' → H' p = some (.dK []) → Q (.ref p) H') : tDNewK σ H Q :=
  fun p hp => q p _ hp (fun b x e => by rw [upd_ne (ne_of_none e hp)]; exact e) upd_same
theorem atI_mem {xs : List V} {k : Int} (h0 : 0 ≤ k) (h1 : k < (xs.length : Int)) : ∃ v, v ∈ xs ∧ atI xs k = some v := by
  obtain ⟨j, rfl⟩ : ∃ j : Nat, k = (j : Int) := ⟨k.toNat, by omega⟩
  have hj : j < xs.length := by omega
  exact ⟨xs[j], List.getElem_mem hj, atI_nat (List.getElem?_eq_getElem hj)⟩
theorem rd_ixAny1 {xs : List V} {p : Addr} {k : Int} (h : SqL K H p xs) (h0 : 0 ≤ k) (h1 : k < (xs.length : Int)) (q : ∀ v, v ∈ xs → Q v H) : rIxL K (.ref p) (.int k) H Q := by
  obtain ⟨v, hv, ha⟩ := atI_mem h0 h1
  exact ⟨p, xs, k, v, rfl, rfl, h, ha, q v hv⟩
theorem rd_ixAny {xs : List V} {p : Addr} {k : Int} (h : SqL K H p xs) (h0 : 0 ≤ k) (h1 : k < (xs.length : Int)) (q : ∀ v, v ∈ xs → Q v H) : rIx K (.ref p) (.int k) H Q := .inl (rd_ixAny1 h h0 h1 q)
theorem rd_ixSany {z : Str} {k : Int} (hz : z.length ≤ 100000) (h0 : 0 ≤ k) (h1 : k < (z.length : Int)) (q : ∀ c, c ∈ z.cps.toList → Q (.str ⟨#[c]⟩) H) : rIxS (.str z) (.int k) H Q := by
  obtain ⟨j, rfl⟩ : ∃ j : Nat, k = (j : Int) := ⟨k.toNat, by omega⟩
  have hl : z.length = z.cps.toList.length := by simp [Str.length]
  have hj : j < z.cps.toList.length := by omega
  exact ⟨z, _, z.cps.toList[j], rfl, rfl, Nat.le_trans hz (by decide), atI_nat (List.getElem?_eq_getElem hj), q _ (List.getElem_mem hj)⟩
/-- a comprehension whose list is set aside while an element is evaluated -/
theorem lcgoF {J : It} {n k : Nat} {G : Hp → Prop} {Y : Nat → Hp → V → Hp → Prop} {te : TE} {vs : List Nat} {H1 : Hp} (w : Walk J n G Y) (hz : n ≤ 100000) (Yx : Nat → V → Prop) (hY : ∀ i H x H', i < n → G H → Y i H x H' → H' = H ∧ Yx i x)
    (hw : ∀ x, wipe ((wipe σ vs).set k (some x)) vs = wipe σ vs) (Pv : Nat → List V → Hp → Prop) (h0 : Pv 0 [] H1) (hG : ∀ i acc H D, i ≤ n → Pv i acc H → H D = none → G (upd H D (.lst acc)))
    (hs : ∀ i x acc H (Qc : VK), i < n → acc.length = i → Pv i acc H → Yx i x → (∀ y H', Pv (i + 1) (acc ++ [y]) H' → Qc y H') → te ((wipe σ vs).set k (some x)) H Qc)
    (hd : ∀ acc H D, acc.length = n → Pv n acc H → H D = none → Q (.ref D) (upd H D (.lst acc))) : LcGo J (gName k) tYes (tFrm te) vs σ H1 Q := by
  refine fun D hD => lc_yes w (fun i acc H => ∃ H0, H = upd H0 D (.lst acc) ∧ H0 D = none ∧ Pv i acc H0) ⟨H1, rfl, hD, h0⟩ (fun i acc H hi ⟨H0, e, hn, p⟩ => e ▸ hG i acc H0 D hi p hn) ?_ ?_
  · rintro i x acc H H' hi hla hDa ⟨H0, rfl, hn, p⟩ y
    obtain ⟨rfl, yx⟩ := hY i _ x H' hi (hG i acc H0 D (Nat.le_of_lt hi) p hn) y
    refine ⟨hw _, D, acc, upd_same, ?_⟩
    rw [wo_upd hn]
    exact hs i x acc H0 _ hi hla p yx fun y H' p' hD' => lcK (acc := acc) upd_same hla hi hz ⟨H', by rw [upd_upd], hD', p'⟩
  · rintro acc H hla hDa ⟨H0, rfl, hn, p⟩
    exact hd acc H0 D hla p hn
theorem walkR_Y {lo : Int} {i : Nat} {H : Hp} {x : V} {H' : Hp} (h : YFn (fun i => .int (lo + (i : Nat))) i H x H') : H' = H ∧ x = .int (lo + (i : Nat)) := h
/-- a comprehension over the signs of a text, its element a function of the sign -/
theorem lcgo_str {te : TE} {vs : List Nat} {k : Nat} {f : Nat → V} {z : Str} (hz : z.length ≤ 100000) (hw : ∀ x, wipe ((wipe σ vs).set k (some x)) vs = wipe σ vs)
    (he : ∀ (c : Nat) (H' : Hp) (Q' : VK), c ∈ z.cps.toList → Q' (f c) H' → te ((wipe σ vs).set k (some (.str ⟨#[c]⟩))) H' Q')
    (hq : ∀ D, H D = none → Q (.ref D) (upd H D (.lst (z.cps.toList.map f)))) : LcGo (Its z) (gName k) tYes (tFrm te) vs σ H Q := by
  have hl : z.cps.size = z.cps.toList.length := by simp
  refine lcgoF walk_str hz (fun i x => ∃ c, z.cps.toList[i]? = some c ∧ x = .str ⟨#[c]⟩) (fun i H x H' _ _ ⟨e, c, hc, hx⟩ => ⟨e, c, by simpa using hc, hx⟩) hw (fun i acc H' => H' = H ∧ acc = (z.cps.toList.take i).map f) ⟨rfl, rfl⟩ (fun _ _ _ _ _ _ _ => trivial) ?_ ?_
  · rintro i x acc H' Qc hin hla ⟨rfl, ha⟩ ⟨c, hc, rfl⟩ hq'
    refine he c _ _ (List.mem_of_getElem? hc) (hq' _ _ ⟨rfl, ?_⟩)
    rw [List.take_add_one, hc, List.map_append, ← ha]
    rfl
  · rintro acc H' D hla ⟨rfl, ha⟩ hD
    have e : z.cps.toList.take z.cps.size = z.cps.toList := List.take_of_length_le (by rw [← hl]; exact Nat.le_refl _)
    rw [e] at ha
    subst ha
    exact hq D hD
theorem rd_all {p : Addr} {bs : List Bool} (h : SqL K H p (bs.map V.bl)) (q : Q (.bl (bs.all id)) H) : rAll K [.ref p] H Q := ⟨p, bs, rfl, h, q⟩
theorem rd_intStr {z : Str} {n : Int} (h : PySem.intText? z = some n) (hz : z.length ≤ 640) (q : Q (.int n) H) : rIntS [.str z] H Q := ⟨z, n, rfl, h, hz, q⟩
theorem rd_strI {i : Int} (h : i.natAbs.log2 < 1920) (q : Q (.str (toString i)) H) : rStrI [.int i] H Q := ⟨i, rfl, h, q⟩
theorem atI0 {α : Type} {a : α} {l : List α} : atI (a :: l) (0 : Int) = some a := atI_nat (j := 0) rfl
theorem atI1 {α : Type} {a b : α} {l : List α} : atI (a :: b :: l) (1 : Int) = some b := atI_nat (j := 1) rfl
theorem atI2 {α : Type} {a b c : α} {l : List α} : atI (a :: b :: c :: l) (2 : Int) = some c := atI_nat (j := 2) rfl
theorem atI3 {α : Type} {a b c d : α} {l : List α} : atI (a :: b :: c :: d :: l) (3 : Int) = some d := atI_nat (j := 3) rfl
theorem atI4 {α : Type} {a b c d e : α} {l : List α} : atI (a :: b :: c :: d :: e :: l) (4 : Int) = some e := atI_nat (j := 4) rfl
theorem sqL_of {K : PySem.W.Frag} {H : Hp} {p : Addr} {xs : List V} (h : H p = some (.lst xs)) : SqL K H p xs := .inl (.inl h)
theorem sqT_of {K : PySem.W.Frag} {H : Hp} {p : Addr} {xs : List V} (h : H p = some (.tup xs)) : SqT K H p xs := .inl (.inl h)
end
end My
local macro_rules | `(tactic| walk_at "sql") => `(tactic| first | assumption | exact My.sqL_of L2.upd_same | (refine My.sqL_of ?_; assumption))
local macro_rules | `(tactic| walk_at "sz") => `(tactic| first | assumption | exact My.small_sz (by omega) | exact My.small_sz (by decide +kernel))
local macro_rules | `(tactic| walk_at "sqt") => `(tactic| first | assumption | exact My.sqT_of L2.upd_same | (refine My.sqT_of ?_; assumption))
local macro_rules | `(tactic| walk_at "ati") => `(tactic| first | exact My.atI0 | exact My.atI1 | exact My.atI2 | exact My.atI3 | exact My.atI4)
local macro_rules | `(tactic| walk_at "ri") => `(tactic| first | exact ⟨by decide, by decide, by decide⟩ | exact ⟨by decide, by decide +kernel⟩ | exact .inl ⟨by decide, by decide⟩ | exact .inr ⟨by decide, by decide⟩)
local macro_rules | `(tactic| walk_at "rd1") => `(tactic| first
  | (with_reducible refine My.rd_seq ?_)
  | (with_reducible refine My.rd_asg ?_)
  | ((with_reducible refine My.rd_var (v := ?vv) ?hvar ?_); (case hvar => exact rfl))
  | (with_reducible refine My.rd_c ?_)
  | (with_reducible refine My.rd_op ?_)
  | (with_reducible refine My.rd_I0 ?_)
  | ((with_reducible refine My.rd_I ?hri ?_); (case hri => walk_at "ri"))
  | (with_reducible refine My.rd_name ?_)
  | (with_reducible refine My.rd_next ?_)
  | (with_reducible refine My.rd_ret ?_)
  | (with_reducible refine My.rd_retN ?_)
  | (with_reducible refine My.rd_drop ?_)
  | (with_reducible refine My.rd_ifS ?_)
  | (with_reducible refine My.rd_if ?_)
  | (with_reducible refine My.rd_test ?_)
  | (with_reducible refine My.rd_B ?_)
  | (with_reducible refine My.rd_not ?_)
  | (with_reducible refine My.rd_and ?_)
  | (with_reducible refine My.rd_or ?_)
  | (with_reducible refine My.rd_nil ?_)
  | (with_reducible refine My.rd_cons ?_)
  | (with_reducible refine My.rd_cb ?_)
  | (with_reducible refine My.rd_call ?_)
  | (with_reducible refine My.rd_ex_bl ?_)
  | (with_reducible refine L2.iteT ?_)
  | (with_reducible refine L2.iteF ?_)
  | (with_reducible refine My.rd_iteN ?_)
  | (with_reducible refine My.rd_inS ?_)
  | (with_reducible refine My.rd_notInS ?_)
  | (with_reducible refine My.rd_find ?_)
  | (with_reducible refine My.rd_gcons ?_)
  | (with_reducible refine My.rd_gnil ?_)
  | (with_reducible refine My.rd_bm ?_)
  | (with_reducible refine My.rd_isBA ?_)
  | (with_reducible refine My.rd_m1 ?_)
  | (with_reducible refine My.rd_exStr ?_)
  | ((with_reducible refine My.rd_lenS ?hsz ?_); (case hsz => walk_at "sz"))
  | ((with_reducible refine My.rd_lenL (xs := ?xx) ?hsql ?_); (case hsql => walk_at "sql"))
  | ((with_reducible refine My.rd_lenT (xs := ?xx) ?hsql ?_); (case hsql => walk_at "sqt"))
  | (with_reducible refine My.rd_nx ?_)
  | (with_reducible refine My.rd_rt ?_)
  | (with_reducible refine My.rd_lc ?_)
  | (with_reducible refine My.rd_for ?_)
  | (with_reducible refine My.rd_iR1 ?_)
  | (with_reducible refine My.rd_iR2 ?_)
  | (with_reducible refine My.rd_iL ?_)
  | (with_reducible refine My.rd_iT ?_)
  | (with_reducible refine My.rd_iS ?_)
  | (with_reducible refine My.rd_is ?_)
  | (with_reducible refine My.rd_sl ?_)
  | (with_reducible refine My.rd_revL ?_)
  | (with_reducible refine My.rd_nopart ?_)
  | (with_reducible refine My.rd_part ?_)
  | (with_reducible refine My.rd_ex_int ?_)
  | ((with_reducible refine My.rd_slS ?hsz ?_); (case hsz => walk_at "sz"))
  | (with_reducible refine My.rd_un ?_)
  | (with_reducible refine My.rd_U ?_)
  | (with_reducible refine My.rd_chain ?_)
  | (with_reducible refine My.rd_lst ?_)
  | (with_reducible refine My.rd_tup ?_)
  | (with_reducible refine My.rd_andV ?_)
  | (with_reducible refine My.rd_orV ?_)
  | (with_reducible refine My.rd_notV ?_)
  | (with_reducible refine My.rd_sub ?_)
  | ((with_reducible refine My.rd_ixL (v := ?vv) (xs := ?xx) ?hsql ?hati ?_); (case hsql => walk_at "sql"); (case hati => walk_at "ati"))
  | ((with_reducible refine My.rd_ixL1 (v := ?vv) (xs := ?xx) ?hsql ?hati ?_); (case hsql => walk_at "sql"); (case hati => walk_at "ati"))
  | ((with_reducible refine My.rd_ixT (v := ?vv) (xs := ?xx) ?hsql ?hati ?_); (case hsql => walk_at "sqt"); (case hati => walk_at "ati"))
  | ((with_reducible refine My.rd_ixT1 (v := ?vv) (xs := ?xx) ?hsql ?hati ?_); (case hsql => walk_at "sqt"); (case hati => walk_at "ati"))
  | ((with_reducible refine My.rd_eq ?hscal ?_); (case hscal => rfl))
  | ((with_reducible refine My.rd_ne ?hscal ?_); (case hscal => rfl)))
local macro_rules | `(tactic| walk_at "rd") => `(tactic| (repeat' walk_at "rd1"))

/-! ### P0G: defs that are called where no repr is under way (so that repr of lists, tuples, dicts is told), and the law's end for such a def -/
namespace My
open PySem PySem.Spec PyProof.Rows L2
/-- as FnOk, where the guards around are known to be none; no exception leaves the def -/
structure FnOkG (P : Program) (w : World) (K : PySem.W.Frag) (mg : Str → Option Value) (base : Heap) (k : Nat) (f : Addr) (fd : FuncData) (ps : List Str) (sp : Sp) : Prop where
  len : ∀ vs H Q E, sp vs H Q E → vs.length = ps.length
  run : ∀ (A : Around) (outer : List Env) (s : Shared) (H : Hp) (args : Args) (us : List Value) (vs : List V) (Q : VK) (E : XK), A.guards = some [] → Room k A → Env0 P w K mg base A outer s H →
    BindsTo s fd args (ps.zip us) → Vals vs us → sp vs H Q E → codeAny (model P w) A (.call (.ref f) args) (CR CX0 outer P w H s Q E) s
section
variable {P : Program} {w : World} {K : PySem.W.Frag} {mg : Str → Option Value} {base : Heap}
theorem okG {x qual : Str} {st : Stmt} {f : Addr} {fd : FuncData} {N ps : List Str} {k : Nat} {sp : Sp} (F : Fun K x qual st f fd) (S : FnScope N ps (defScope st)) (len : ∀ vs H Q E, sp vs H Q E → vs.length = ps.length)
    (hbody : ∀ (cdv : Value) (A : Around) (outer : List Env) (s : Shared) (H : Hp) (vs : List V) (Q : VK) (E : XK), A.guards = some [] → Room k (A.deeper (envOfC qual (defScope st) s.heap.objs.size f cdv)) → sp vs H Q E →
      ∃ t, PSs (cxOf CX0 P w K mg base N qual (defScope st) f cdv A outer s H E).nox (defBody st) t ∧ t { nx := fun _ H' => Q .non H', rt := Q } (L2.start N vs) H) : FnOkG P w K mg base (k + 1) f fd ps sp := by
  obtain ⟨oc, od, kV, doc, pm, an, cdv, ct, osl, rfl, lk, hcd⟩ := F.ex
  constructor
  · exact len
  intro A outer s H args us vs Q E hguard hroom env bind rel hsp
  have inK : K.In s.heap := env.mod.kin.keeps fun b o e => And.left (env.bs b o e)
  have nolim : s.heap.NoLimit := env.mod.nolimit.keeps fun b o e => And.left (env.bs b o e)
  have kinds : ∀ y ∈ ps.zip us, (defScope st).names.lookup y.1 = some .local ∨ ((defScope st).names.lookup y.1 = some .cell ∧ ((cellsFrom (s.heap.objs.size + 1) (defScope st).names []).lookup y.1).isSome = true) := by
    rintro ⟨n, v⟩ hy
    have hn : n ∈ ps := And.left (List.of_mem_zip hy)
    exact (S.par n hn).imp id fun q => ⟨q, PySem.W.cellsFrom_some _ _ _ (.inl q)⟩
  have cr := PySem.W.codeRec_of inK hcd
  refine codeAny_call_function (Room.depth hroom) (inK _ _ lk) rfl S.co S.gen rfl cr (bind _ _ _ _ ?enter)
  case enter =>
    refine wpAny_newFunctionEnv_cells S.kind kinds ?_
    rintro env' rfl s1 made
    refine ⟨Heap.NoLimit.keeps nolim made.toInCall.keep, ?_⟩
    refine codeAny_func ?_
    obtain ⟨t, drv, rd⟩ := hbody cdv A outer s H vs Q E hguard (Room.deeper hroom _) hsp
    have I0 := inv_start (CX := CX0) (cd := cdv) (A := A) (E := E) S hroom.hd env (len _ _ _ _ hsp) rel made
    refine wpAny_mono (drv.nox.run [] s1 (L2.start N vs) H _ I0 rd) ?_ fun e s' q => q
    intro fl s' q
    cases fl with
    | next =>
      obtain ⟨σ', H', J, z⟩ := q
      exact ⟨V.non, H', J.os, J.bare, J.base, J.hok, rfl, z⟩
    | ret u =>
      obtain ⟨v, σ', H', J, rv, z⟩ := q
      exact ⟨v, H', J.os, J.bare, J.base, J.hok, rv, z⟩
    | brk => exact q.elim fun _ q => q.elim fun _ q => False.elim q.2
    | cont => exact q.elim fun _ q => q.elim fun _ q => False.elim q.2
/-- f(e, ..), f such a def -/
theorem pe_callG {X : Cx} {k : Nat} {f : Addr} {fd : FuncData} {ps : List Str} {sp : Sp} {x : Str} {p pos : Pos} {e : Expr} {es : List Expr} {t : TA} (hG : X.A.guards = some []) (F : FnOkG X.prog X.w X.K X.mg X.base k f fd ps sp) (hr : Room k X.A) (hg : Gl X x)
    (hm : X.mg x = some (.ref f)) (hk : PySem.W.keepIn X.K (.ref f) = true) (hb : Binds X.K fd ps []) (ha : PA X (e :: es) t) (hdb : (x == ("__debug__" : Str)) = false := by decide)
    (he : starEach (e :: es) X.env = (false, eval e X.env) :: starEach es X.env := by rfl) (hpl : (backTo pos (starEach es X.env)).any (·.1) = false := by rfl) : PE X (.Call (.Name x p) (e :: es) [] pos) (tCall sp [] E0 t) := by
  constructor
  intro pins s σ H Q I h
  refine wpAny_Call_Name_kw (ld_glob I hg hm ?go hdb)
  case go =>
    have args := ha.run pos pins s σ H _ I h
    refine PySem.W.callWith_K (h₀ := X.base) I.ok.mod.kin hk (thn args ?then_) he hpl
    rintro us s1 ⟨vs, H1, I1, rel, q⟩
    have q : sp vs H1 Q E0 := by rw [List.append_nil] at q; exact q
    have hl : us.length = ps.length := rel.length.symm.trans (F.len _ _ _ _ q)
    have bind := hb s1 us I1.kIn (by rw [List.append_nil]; exact hl)
    rw [List.append_nil] at bind
    refine ⟨I1.kIn, wpAny_call (codeAny_mono (F.run X.A X.stack s1 H1 ⟨us, []⟩ us vs Q E0 hG hr I1.env0 bind rel q) ?_)⟩
    intro r s2 hq
    match r, hq with
    | .error _, hq => exact False.elim hq
    | .ok (.ret u), hq => exact I1.after hq
    | .ok .next, hq => exact False.elim hq
    | .ok .brk, hq => exact False.elim hq
    | .ok .cont, hq => exact False.elim hq
/-- the script's list in the abstract heap: tracked as it stands, or an object of the written part -/
theorem script_heap {s : Shared} {a : Addr} {vs : List Value} {ns : List Int} (KX : K.In s.heap) (ha : s.heap.get? a = some { cls := .type "list", data := .seq vs.toArray }) (hi : IntsAre vs ns) (hl : ns.length ≤ sizeLine) :
    ∃ H : Hp, Only H ∧ SqL K H a (ns.map V.int) ∧ HOk P w H s.heap ∧ ∀ b u, H b = some u → b = a ∧ K.lookup a = none := by
  have rv := vals_ints hi
  cases hk : K.lookup a with
  | some o =>
    have e := KX a o hk
    rw [ha] at e
    cases e
    have no : ∀ (b : Addr) (u : HO), ¬ (fun _ => none : Hp) b = some u := fun b u z => by
      have z' : (none : Option HO) = some u := z
      cases z'
    refine ⟨fun _ => none, fun _ => .inl rfl, ?_, fun b u z => (no b u z).elim, fun b u z => (no b u z).elim⟩
    exact .inr ⟨_, vs.toArray, _, hk, rfl, rfl, rfl, by rw [List.size_toArray, hi.length]; exact hl, by simpa using rv⟩
  | none =>
    refine ⟨fun b => if b = a then some (.frz { cls := .type "list", data := .seq vs.toArray } (.lst (ns.map V.int))) else none, ?_, .inl (.inr ⟨_, if_pos rfl⟩), ?_, ?_⟩
    · intro b
      by_cases e : b = a
      · exact .inr ⟨_, _, if_pos e⟩
      · exact .inl (if_neg e)
    · intro b u z
      by_cases e : b = a
      · subst e
        cases (if_pos rfl).symm.trans z
        refine ⟨ha, ?_, vs, _, rv, ha⟩
        rw [List.length_map]
        exact hl
      · cases (if_neg e).symm.trans z
    · intro b u z
      by_cases e : b = a
      · exact ⟨e, rfl⟩
      · cases (if_neg e).symm.trans z
/-- the law's def, called at the heap behind the top -/
theorem law_callG {mb : Str → Option Value} {k : Nat} {fa a : Addr} {fd : FuncData} {x : Str} {sp : Sp} {s : Shared} {vs : List Value} {ns : List Int} (KX : K.In s.heap) (hns : s.heap.Ns mainGlobals mg) (hb : s.heap.Ns builtinsNs mb)
    (hbb : ∀ x : Str, x ≠ "__name__" → mb x = bootBuiltins x) (hlim : s.heap.NoLimit) (hg : s.gens = #[]) (ha : s.heap.get? a = some { cls := .type "list", data := .seq vs.toArray }) (hi : IntsAre vs ns) (hl : ns.length ≤ sizeLine) (hr : Room k callerA)
    (F : ∀ base : Heap, K.In base → base.Ns mainGlobals mg → FnOkG P w K mg base k fa fd [x] sp) (hbind : ∀ (s : Shared) (u : Value), BindsTo s fd ⟨[u], []⟩ [(x, u)])
    (hsp : ∀ H : Hp, Only H → SqL K H a (ns.map V.int) → sp [.ref a] H (fun v _ => v = .bl true) fun _ _ _ => False) :
    codeAny (model P w) callerA (.call (.ref fa) ⟨[.ref a], []⟩) (fun r s' => r = .ok (.ret (.bool true)) ∧ OldK s.heap s'.heap ∧ s'.os = s.os ∧ AllBare s'.gens) s := by
  obtain ⟨H, only, seq, hok, at_⟩ := script_heap (P := P) (w := w) KX ha hi hl
  have hid : ∀ {b : Addr} {o : Obj}, s.heap.get? b = some o → (∀ u, H b ≠ some u) → (hidT s.heap H).get? b = some o := fun {b o} e n => hidT_get e (by
    cases q : H b with
    | none => rfl
    | some u => exact (n u q).elim)
  have nodict : ∀ {b : Addr} {o : Obj} {es : Array DictEntry} {ep : Nat}, s.heap.get? b = some o → o.data = .dict es ep → ∀ u, H b ≠ some u := fun {b o es ep} e d u q => by
    have eb := (at_ b u q).1
    subst eb
    rw [ha] at e
    cases e
    cases (show Data.seq vs.toArray _ = Data.dict es ep from d)
  have names : ∀ {b : Addr} {m : Str → Option Value}, s.heap.Ns b m → (hidT s.heap H).Ns b m := by
    rintro b m ⟨o, es, ep, e, d, r⟩
    exact ⟨o, es, ep, hid e (nodict e d), d, r⟩
  have inK : K.In (hidT s.heap H) := by
    intro b o e
    refine hid (KX b o e) fun u q => ?_
    obtain ⟨eb, ek⟩ := at_ b u q
    rw [← eb, e] at ek
    cases ek
  have md : Mod K mg (hidT s.heap H) := by
    obtain ⟨mc, h1, h2⟩ := hlim
    exact ⟨inK, names hns, ⟨mb, names hb, hbb⟩, mc, names h1, h2⟩
  have env : Env0 P w K mg (hidT s.heap H) callerA [] s H := by
    refine ⟨rfl, md, ?_, Nat.le_of_eq (hidT_size _ _), trivial, fun b hb => absurd hb (List.not_mem_nil (a := b)), hok, .of_eq hg⟩
    exact fun b o e => of_hidT e
  have run := (F _ inK (names hns)).run callerA [] s H ⟨[.ref a], []⟩ [.ref a] [.ref a] _ _ rfl hr env (hbind s (.ref a)) (.cons rfl .nil) (hsp H only seq)
  refine codeAny_mono run ?_
  intro r s' h
  match r, h with
  | .error _, h => exact False.elim h
  | .ok .next, h => exact False.elim h
  | .ok .brk, h => exact False.elim h
  | .ok .cont, h => exact False.elim h
  | .ok (.ret u), h =>
    obtain ⟨v, H', os, bare, un, hok', rel, rfl⟩ := h
    cases (show u = Value.bool true from rel)
    refine ⟨rfl, OldK.of_keep ?_, os, bare⟩
    intro b o e
    cases q : H b with
    | none => exact un.keep b o e q (List.not_mem_nil (a := b)) (List.not_mem_nil (a := b))
    | some u =>
      rcases only b with z | ⟨ob, xs, z⟩
      · rw [q] at z
        cases z
      · have g1 := (hok b _ z).1
        have g2 := (hok' b _ (un.frzs b ob _ z)).1
        rw [g1] at e
        cases e
        exact g2
end
theorem walk_ofG {l : PySem.W.OpenLaw} {n k : Nat} {q : Program} {loose : List Str} {XP : (Str → Option Value) → Heap → Prop} {YP : World → Heap → Prop} {d : DefRec} {K : Params → PySem.W.Frag} {sp : World → Sp} {x : Str} (hn : l.most = some n) (hn2 : n ≤ sizeLine)
    (hdf : d.params.defaults = []) (hr : Room k callerA) (hY : ∀ (w : World) (h : Heap), YP w h → (K w.params).In h)
    (F : ∀ (w : World) (mg : Str → Option Value) (fa : Addr) (h : Heap), (K w.params).In h → h.Ns mainGlobals mg → mg d.name = some (.ref fa) →
      ∃ fd : FuncData, (∀ (s : Shared) (u : Value), BindsTo s fd ⟨[u], []⟩ [(x, u)]) ∧ ∀ base : Heap, (K w.params).In base → base.Ns mainGlobals mg → FnOkG l.prog w (K w.params) mg base k fa fd [x] (sp w))
    (hsp : ∀ (w : World) (H : Hp) (a : Addr) (ns : List Int), ns.length ≤ n → (∀ z ∈ ns, Builtin.Int.intBits z ≤ 1048576) → Only H → SqL (K w.params) H a (ns.map V.int) → sp w [.ref a] H (fun v _ => v = .bl true) fun _ _ _ => False) :
    PySem.W.WalkO q loose XP YP l.row.toRowW d [] (fun f vs => PySem.call f vs) := by
  refine Att.attach_callB hn hdf ?_
  intro w s0 s1 mg mb fa o pm cd doc a vs ns G Y _ _ _ hmg hobj hints hlen hbits hgens
  have KX := hY w _ Y
  obtain ⟨fd, hb, hF⟩ := F w mg fa _ KX G.T.g hmg
  exact law_callG KX G.T.g G.T.b G.T.builtins G.T.nolimit hgens hobj hints (Nat.le_trans hlen hn2) hr hF hb fun H hO hS => hsp w H a ns hlen hbits hO hS
/-! #### repr of data -/
mutual
theorem dp_nodict {K : PySem.W.Frag} {H : Hp} : ∀ (d : PyData) (v : V), Dp K H v d → d.hasDict = false
  | .none, _, _ => by simp only [PyData.hasDict]
  | .bool _, _, _ => by simp only [PyData.hasDict]
  | .int _, _, _ => by simp only [PyData.hasDict]
  | .str _, _, _ => by simp only [PyData.hasDict]
  | .list ds, _, h => by
    cases h with
    | lst _ ha =>
      simp only [PyData.hasDict]
      exact dp_nodictAll ds _ ha
  | .tuple ds, _, h => by
    cases h with
    | tup _ ha =>
      simp only [PyData.hasDict]
      exact dp_nodictAll ds _ ha
  | .dict _, _, h => by cases h
theorem dp_nodictAll {K : PySem.W.Frag} {H : Hp} : ∀ (ds : List PyData) (vs : List V), DpAll K H vs ds → PyData.hasDictAll ds = false
  | [], _, _ => by simp only [PyData.hasDictAll]
  | d :: ds, _, h => by
    cases h with
    | cons h1 h2 => simp only [PyData.hasDictAll, dp_nodict d _ h1, dp_nodictAll ds _ h2, Bool.or_self]
end
def rReprD (K : PySem.W.Frag) : List V → Hp → VK → Prop := fun xs H Q => ∃ v d, xs = [v] ∧ Dp K H v d ∧ d.showable = true ∧ d.depth ≤ 60 ∧ d.shown.length ≤ 10000000 ∧ Q (.str d.shown) H
theorem reprD {X : Cx} {K : PySem.W.Frag} (hK : X.K = K) (hG : X.A.guards = some []) (hu : X.A.units + 64 < cLine) : CallR X (.builtin "repr") (rReprD K) := by
  subst hK
  intro pins s σ H xs us Q I r h
  obtain ⟨v, d, rfl, hd, hs, hdep, hlen, q⟩ := h
  obtain ⟨u, rfl, r1⟩ := vals1 r
  have hlen' : d.shown.length ≤ sizeLine := Nat.le_trans hlen (by decide)
  cases v with
  | ref a =>
    cases (show u = Value.ref a from r1)
    obtain ⟨as, rd⟩ := Dp.reads I d (.ref a) (.ref a) hd rfl
    refine repr_of_reads' rd hs (PyData.noDict_hsm (dp_nodict d _ hd)) hG (by omega) (fun b o e => e) (fun h' u tk keep => ?_) hlen'
    exact ⟨.str _, H, I.kept (t' := tk) keep, ⟨_, rfl⟩, q⟩
  | non =>
    cases hd
    cases (show u = Value.none from r1)
    simp only [PyData.shown] at q
    exact PySem.P.repr_of_none ⟨.str _, H, I.tok _, ⟨_, rfl⟩, q⟩
  | bl b =>
    cases hd
    cases (show u = Value.bool b from r1)
    simp only [PyData.shown] at q
    refine PySem.P.repr_of_bool ⟨.str _, H, I.tok _, ⟨_, rfl⟩, ?_⟩
    cases b <;> exact q
  | int i =>
    cases hd
    obtain ⟨t', rfl⟩ := (show ∃ t, u = Value.int i t from r1)
    simp only [PyData.shown] at q
    simp only [PyData.showable, decide_eq_true_eq] at hs
    exact PySem.P.repr_of_int hs ⟨.str _, H, I.tok _, ⟨_, rfl⟩, q⟩
  | str x =>
    cases hd
    obtain ⟨t', rfl⟩ := (show ∃ t, u = Value.str x t from r1)
    simp only [PyData.shown] at q hlen'
    exact PySem.P.repr_of_str ⟨.str _, H, I.tok _, ⟨_, rfl⟩, q⟩ hlen'
  | byt _ => cases hd
  | flt _ => cases hd
  | ty _ => cases hd
theorem rd_reprD {K : PySem.W.Frag} {H : Hp} {Q : VK} {v : V} {d : PyData} (hd : Dp K H v d) (h1 : d.showable = true) (h2 : d.depth ≤ 60) (h3 : d.shown.length ≤ 10000000) (q : Q (.str d.shown) H) : rReprD K [v] H Q := ⟨v, d, rfl, hd, h1, h2, h3, q⟩
theorem dp_tup {K : PySem.W.Frag} {H : Hp} {p : Addr} {xs : List V} {ds : List PyData} (h : H p = some (.tup xs)) (a : DpAll K H xs ds) : Dp K H (.ref p) (.tuple ds) := .tup (sqT_of h) a
theorem dp_lst {K : PySem.W.Frag} {H : Hp} {p : Addr} {xs : List V} {ds : List PyData} (h : H p = some (.lst xs)) (a : DpAll K H xs ds) : Dp K H (.ref p) (.list ds) := .lst (sqL_of h) a
mutual
theorem dp_same {K : PySem.W.Frag} {H H' : Hp} (e : ∀ b o, H b = some o → H' b = some o) : ∀ (d : PyData) (v : V), Dp K H v d → Dp K H' v d
  | .none, _, h => by cases h; exact .non
  | .bool b, _, h => by cases h; exact .bl b
  | .int i, _, h => by cases h; exact .int i
  | .str x, _, h => by cases h; exact .str x
  | .list ds, _, h => by
    cases h with
    | lst hs ha =>
      refine .lst ?_ (dp_sameAll e ds _ ha)
      rcases hs with (h | ⟨o, h⟩) | h
      · exact .inl (.inl (e _ _ h))
      · exact .inl (.inr ⟨o, e _ _ h⟩)
      · exact .inr h
  | .tuple ds, _, h => by
    cases h with
    | tup hs ha =>
      refine .tup ?_ (dp_sameAll e ds _ ha)
      rcases hs with (h | ⟨o, h⟩) | h
      · exact .inl (.inl (e _ _ h))
      · exact .inl (.inr ⟨o, e _ _ h⟩)
      · exact .inr h
  | .dict _, _, h => by cases h
theorem dp_sameAll {K : PySem.W.Frag} {H H' : Hp} (e : ∀ b o, H b = some o → H' b = some o) : ∀ (ds : List PyData) (vs : List V), DpAll K H vs ds → DpAll K H' vs ds
  | [], _, h => by cases h; exact .nil
  | d :: ds, _, h => by
    cases h with
    | cons h1 h2 => exact .cons (dp_same e d _ h1) (dp_sameAll e ds _ h2)
end
end My

namespace My
open PySem PySem.Spec PyProof.Rows L2
/-! ### heaps: all but p stands; a draw's box -/
def KeepB (p : Addr) (H H' : Hp) : Prop := ∀ b o, H b = some o → b ≠ p → H' b = some o
theorem KeepB.refl (p : Addr) (H : Hp) : KeepB p H H := fun _ _ h _ => h
theorem KeepB.trans {p : Addr} {H H1 H2 : Hp} (a : KeepB p H H1) (b : KeepB p H1 H2) : KeepB p H H2 := fun c o h n => b c o (a c o h n) n
theorem Same.keepB {p : Addr} {H H' : Hp} (a : Same H H') : KeepB p H H' := fun c o h _ => a c o h
theorem KeepB.same {p : Addr} {H H1 H2 : Hp} (a : KeepB p H1 H2) (e : Same H H1) (hp : H p = none) : Same H H2 := fun c o h => a c o (e c o h) (ne_of_none h hp)
theorem same_new {H : Hp} {p : Addr} {o : HO} (h : H p = none) : Same H (upd H p o) := fun b x e => by
  rw [upd_ne (ne_of_none e h)]
  exact e
theorem keepB_upd {H : Hp} {p : Addr} {o : HO} : KeepB p H (upd H p o) := fun b x e n => by
  rw [upd_ne n]
  exact e
/-- a box: what is left of the cell, its seed, its count, at most n -/
def BoxAt (H : Hp) (p : Addr) (n : Nat) : Prop := ∃ a b c : Int, H p = some (.lst [.int a, .int b, .int c]) ∧ 0 ≤ a ∧ 0 ≤ b ∧ b < 2147483629 ∧ 0 ≤ c ∧ c ≤ (n : Int)
theorem BoxAt.mono {H : Hp} {p : Addr} {n m : Nat} (h : BoxAt H p n) (l : n ≤ m) : BoxAt H p m := by
  obtain ⟨a, b, c, e, h1, h2, h3, h4, h5⟩ := h
  exact ⟨a, b, c, e, h1, h2, h3, h4, by omega⟩
theorem BoxAt.keep {H H' : Hp} {p : Addr} {n : Nat} (h : BoxAt H p n) (s : Same H H') : BoxAt H' p n := by
  obtain ⟨a, b, c, e, r⟩ := h
  exact ⟨a, b, c, s _ _ e, r⟩
theorem BoxAt.ne {H : Hp} {p q : Addr} {n : Nat} (h : BoxAt H p n) (e : H q = none) : q ≠ p := by
  obtain ⟨a, b, c, e1, r⟩ := h
  exact (ne_of_none e1 e).symm
theorem log2_small {j : Int} (h0 : 0 < j) (h : j < 2 ^ 200) : j.natAbs.log2 < 9000 := by
  have : j.natAbs < 2 ^ 200 := by omega
  exact Nat.lt_of_lt_of_le (PySem.Flt.log2_lt_of (by decide) this) (by decide)
theorem KeepB.seqL {K : PySem.W.Frag} {H H' : Hp} {p a : Addr} {xs : List V} (e : KeepB p H H') (h : SqL K H a xs) (n : a ≠ p) : SqL K H' a xs := by
  rcases h with (h | ⟨o, h⟩) | h
  · exact .inl (.inl (e _ _ h n))
  · exact .inl (.inr ⟨o, e _ _ h n⟩)
  · exact .inr h
theorem BoxAt.new {H : Hp} {p q : Addr} {n : Nat} {o : HO} (h : BoxAt H p n) (e : p ≠ q) : BoxAt (upd H q o) p n := by
  obtain ⟨a, b, c, e1, r⟩ := h
  exact ⟨a, b, c, by rw [upd_ne e]; exact e1, r⟩
theorem KeepB.new {p q : Addr} {H H1 : Hp} {o : HO} (k : KeepB p H H1) (e : H q = none) : KeepB p H (upd H1 q o) := fun b x h n => by
  rw [upd_ne (ne_of_none h e)]
  exact k b x h n
theorem wo_sub {l : Addr} {H : Hp} : Same (Wo l H) H := fun b o e => by
  by_cases h : b = l
  · subst h
    rw [wo_same] at e
    cases e
  · rw [wo_ne h] at e
    exact e
theorem same_wo {l : Addr} {H H' : Hp} (e : Same H H') : Same (Wo l H) (Wo l H') := fun b o h => by
  by_cases hb : b = l
  · subst hb
    rw [wo_same] at h
    cases h
  · rw [wo_ne hb] at h ⊢
    exact e _ _ h
theorem wo_none {l p : Addr} {H : Hp} (h : H p = none) : Wo l H p = none := by
  by_cases hb : p = l
  · subst hb
    exact wo_same
  · rw [wo_ne hb]
    exact h
theorem BoxAt.wo {l p : Addr} {H : Hp} {n : Nat} (h : BoxAt H p n) (e : p ≠ l) : BoxAt (Wo l H) p n := by
  obtain ⟨a, b, c, e1, r⟩ := h
  exact ⟨a, b, c, by rw [wo_ne e]; exact e1, r⟩
theorem same_to_wo {l : Addr} {H H' : Hp} (e : Same H H') (h : H l = none) : Same H (Wo l H') := fun b o hb => by
  rw [wo_ne (ne_of_none hb h)]
  exact e _ _ hb
/-- a thing: a text, not long; a number, a truth, None; a list, a tuple, a dict -/
def ThingAt (K : PySem.W.Frag) (H : Hp) : V → Prop
  | .str z => z.length ≤ 2000
  | .int _ => True
  | .bl _ => True
  | .non => True
  | .ref a => ∃ t, TyOf K H (.ref a) (.type t) ∧ (t = "list" ∨ t = "tuple" ∨ t = "dict")
  | _ => False
theorem tyof_keep {K : PySem.W.Frag} {H H' : Hp} {v : V} {t : Value} (b : TyOf K H v t) (e : Same H H') : TyOf K H' v t := by
  cases b with
  | non => exact .non
  | bl x => exact .bl x
  | int i => exact .int i
  | str x => exact .str x
  | flt x => exact .flt x
  | lst h => exact .lst (e _ _ h)
  | frz h => exact .frz (e _ _ h)
  | tup h => exact .tup (e _ _ h)
  | dK h => exact .dK (e _ _ h)
  | dT h => exact .dT (e _ _ h)
  | ins h a b c d m => exact .ins (e _ _ h) a b c d m
theorem ThingAt.keep {K : PySem.W.Frag} {H H' : Hp} {v : V} (h : ThingAt K H v) (e : Same H H') : ThingAt K H' v := by
  cases v with
  | ref a =>
    obtain ⟨t, h1, h2⟩ := h
    exact ⟨t, tyof_keep h1 e, h2⟩
  | _ => exact h
def isIB : V → Bool
  | .int _ => true
  | .bl _ => true
  | _ => false
def isBl : V → Bool
  | .bl _ => true
  | _ => false
def isStr : V → Bool
  | .str _ => true
  | _ => false
def wholeV : V → Bool
  | .int _ => true
  | _ => false
def withinV (v : V) (lo hi : Int) : Bool := match v with
  | .int i => decide (lo ≤ i) && decide (i ≤ hi)
  | _ => false
theorem thing_ty {K : PySem.W.Frag} {H : Hp} {v : V} (h : ThingAt K H v) : ∃ t, TyX K H v (.type t) ∧ kitB t "int" = some (isIB v) ∧ kitB t "bool" = some (isBl v) ∧ kitB t "str" = some (isStr v) := by
  cases v with
  | non => exact ⟨_, .base .non, by decide +kernel, by decide +kernel, by decide +kernel⟩
  | bl b => exact ⟨_, .base (.bl b), by show kitB "bool" "int" = some true; decide +kernel, by show kitB "bool" "bool" = some true; decide +kernel, by show kitB "bool" "str" = some false; decide +kernel⟩
  | int i => exact ⟨_, .base (.int i), by show kitB "int" "int" = some true; decide +kernel, by show kitB "int" "bool" = some false; decide +kernel, by show kitB "int" "str" = some false; decide +kernel⟩
  | str z => exact ⟨_, .base (.str z), by show kitB "str" "int" = some false; decide +kernel, by show kitB "str" "bool" = some false; decide +kernel, by show kitB "str" "str" = some true; decide +kernel⟩
  | ref a =>
    obtain ⟨t, h1, h2⟩ := h
    refine ⟨t, .base h1, ?_, ?_, ?_⟩
    · show kitB t "int" = some false
      rcases h2 with rfl | rfl | rfl <;> decide +kernel
    · show kitB t "bool" = some false
      rcases h2 with rfl | rfl | rfl <;> decide +kernel
    · show kitB t "str" = some false
      rcases h2 with rfl | rfl | rfl <;> decide +kernel
  | byt _ => exact h.elim
  | flt _ => exact h.elim
  | ty _ => exact h.elim
def isLet (c : Nat) : Bool := decide (97 ≤ c ∧ c ≤ 122)
def nameS (z : Str) : Bool := decide (1 ≤ z.length ∧ z.length ≤ 8) && z.cps.toList.all isLet
def nameV : V → Bool
  | .str z => nameS z
  | _ => false
theorem lets_list : (Str.ofString "abcdefghijklmnopqrstuvwxyz").cps.toList = (List.range 26).map (97 + ·) := by decide +kernel
theorem isLet_in (c : Nat) : decide (c ∈ (Str.ofString "abcdefghijklmnopqrstuvwxyz").cps.toList) = isLet c := by
  rw [lets_list]
  unfold isLet
  congr 1
  rw [eq_iff_iff, List.mem_map]
  constructor
  · rintro ⟨a, ha, rfl⟩
    have := List.mem_range.mp ha
    omega
  · intro h
    exact ⟨c - 97, List.mem_range.mpr (by omega), by omega⟩
def signs1 : Str := Str.ofString " !\"#$&'()*+,-./0123456789:;<=>?@ABCDEFGHIJKLMNOPQRSTUVWXYZ[\\]^_`{|}~\n"
theorem s1len : signs1.length = 69 := by decide +kernel
/-! ### the text -/
def topS (i : Nat) : Stmt := PySem.Challenge.pw_iceopened_k01_words_of_anything.main.body.getD i (.Pass ⟨0, 0, 0, 0⟩)
abbrev s_is_whole : Stmt := (topS 3)
abbrev N_is_whole : List Str := ["thing"]
theorem sc_is_whole : FnScope N_is_whole ["thing"] (defScope s_is_whole) := ⟨rfl, rfl, rfl, by decide +kernel, rfl, by decide +kernel, by decide +kernel⟩
abbrev s_is_within : Stmt := (topS 4)
abbrev N_is_within : List Str := ["thing", "low", "high"]
theorem sc_is_within : FnScope N_is_within ["thing", "low", "high"] (defScope s_is_within) := ⟨rfl, rfl, rfl, by decide +kernel, rfl, by decide +kernel, by decide +kernel⟩
abbrev s_is_name : Stmt := (topS 5)
abbrev N_is_name : List Str := ["thing", "sign"]
theorem sc_is_name : FnScope N_is_name ["thing"] (defScope s_is_name) := ⟨rfl, rfl, rfl, by decide +kernel, rfl, by decide +kernel, by decide +kernel⟩
abbrev s_law_cell : Stmt := (topS 7)
abbrev N_law_cell : List Str := ["_law_script", "_law_k"]
theorem sc_law_cell : FnScope N_law_cell ["_law_script", "_law_k"] (defScope s_law_cell) := ⟨rfl, rfl, rfl, by decide +kernel, rfl, by decide +kernel, by decide +kernel⟩
abbrev s_law_box : Stmt := (topS 8)
abbrev N_law_box : List Str := ["_law_cell_here"]
theorem sc_law_box : FnScope N_law_box ["_law_cell_here"] (defScope s_law_box) := ⟨rfl, rfl, rfl, by decide +kernel, rfl, by decide +kernel, by decide +kernel⟩
abbrev s_law_take : Stmt := (topS 9)
abbrev N_law_take : List Str := ["_law_box_here", "_law_many", "_law_digit", "_law_one", "_law_other"]
theorem sc_law_take : FnScope N_law_take ["_law_box_here", "_law_many"] (defScope s_law_take) := ⟨rfl, rfl, rfl, by decide +kernel, rfl, by decide +kernel, by decide +kernel⟩
abbrev s_law_text : Stmt := (topS 10)
abbrev N_law_text : List Str := ["_law_box_here", "_law_letters", "_law_signs", "_law_odd", "_law_size", "_law_text_here", "_law_at", "_law_k"]
theorem sc_law_text : FnScope N_law_text ["_law_box_here"] (defScope s_law_text) := ⟨rfl, rfl, rfl, by decide +kernel, rfl, by decide +kernel, by decide +kernel⟩
abbrev s_law_thing : Stmt := (topS 11)
abbrev N_law_thing : List Str := ["_law_box_here", "_law_low", "_law_high", "_law_way", "_law_some"]
theorem sc_law_thing : FnScope N_law_thing ["_law_box_here", "_law_low", "_law_high"] (defScope s_law_thing) := ⟨rfl, rfl, rfl, by decide +kernel, rfl, by decide +kernel, by decide +kernel⟩
abbrev s_law_whole : Stmt := (topS 12)
abbrev N_law_whole : List Str := ["_law_thing_here"]
theorem sc_law_whole : FnScope N_law_whole ["_law_thing_here"] (defScope s_law_whole) := ⟨rfl, rfl, rfl, by decide +kernel, rfl, by decide +kernel, by decide +kernel⟩
abbrev s_law_name : Stmt := (topS 13)
abbrev N_law_name : List Str := ["_law_thing_here", "_law_sign"]
theorem sc_law_name : FnScope N_law_name ["_law_thing_here"] (defScope s_law_name) := ⟨rfl, rfl, rfl, by decide +kernel, rfl, by decide +kernel, by decide +kernel⟩
abbrev s_law_within : Stmt := (topS 14)
abbrev N_law_within : List Str := ["_law_thing_here", "_law_low", "_law_high"]
theorem sc_law_within : FnScope N_law_within ["_law_thing_here", "_law_low", "_law_high"] (defScope s_law_within) := ⟨rfl, rfl, rfl, by decide +kernel, rfl, by decide +kernel, by decide +kernel⟩
abbrev s_law : Stmt := (topS 15)
abbrev N_law : List Str := ["_law_script", "_law_kept", "_law_k", "_law_box_here", "_law_far", "_law_low", "_law_high", "_law_thing_here", "_law_due"]
theorem sc_law : FnScope N_law ["_law_script"] (defScope s_law) := ⟨rfl, rfl, rfl, by decide +kernel, rfl, by decide +kernel, by decide +kernel⟩
/-- what the top has written -/
structure Tx (K : PySem.W.Frag) (mg : Str → Option Value) where
  a_is_whole : Addr
  d_is_whole : FuncData
  F_is_whole : Fun K "is_whole" "is_whole" s_is_whole a_is_whole d_is_whole
  g_is_whole : mg "is_whole" = some (.ref a_is_whole)
  b_is_whole : Binds K d_is_whole ["thing"] []
  a_is_within : Addr
  d_is_within : FuncData
  F_is_within : Fun K "is_within" "is_within" s_is_within a_is_within d_is_within
  g_is_within : mg "is_within" = some (.ref a_is_within)
  b_is_within : Binds K d_is_within ["thing", "low", "high"] []
  a_is_name : Addr
  d_is_name : FuncData
  F_is_name : Fun K "is_name" "is_name" s_is_name a_is_name d_is_name
  g_is_name : mg "is_name" = some (.ref a_is_name)
  b_is_name : Binds K d_is_name ["thing"] []
  a_law_cell : Addr
  d_law_cell : FuncData
  F_law_cell : Fun K "_law_cell" "_law_cell" s_law_cell a_law_cell d_law_cell
  g_law_cell : mg "_law_cell" = some (.ref a_law_cell)
  b_law_cell : Binds K d_law_cell ["_law_script", "_law_k"] []
  a_law_box : Addr
  d_law_box : FuncData
  F_law_box : Fun K "_law_box" "_law_box" s_law_box a_law_box d_law_box
  g_law_box : mg "_law_box" = some (.ref a_law_box)
  b_law_box : Binds K d_law_box ["_law_cell_here"] []
  a_law_take : Addr
  d_law_take : FuncData
  F_law_take : Fun K "_law_take" "_law_take" s_law_take a_law_take d_law_take
  g_law_take : mg "_law_take" = some (.ref a_law_take)
  b_law_take : Binds K d_law_take ["_law_box_here", "_law_many"] []
  a_law_text : Addr
  d_law_text : FuncData
  F_law_text : Fun K "_law_text" "_law_text" s_law_text a_law_text d_law_text
  g_law_text : mg "_law_text" = some (.ref a_law_text)
  b_law_text : Binds K d_law_text ["_law_box_here"] []
  a_law_thing : Addr
  d_law_thing : FuncData
  F_law_thing : Fun K "_law_thing" "_law_thing" s_law_thing a_law_thing d_law_thing
  g_law_thing : mg "_law_thing" = some (.ref a_law_thing)
  b_law_thing : Binds K d_law_thing ["_law_box_here", "_law_low", "_law_high"] []
  a_law_whole : Addr
  d_law_whole : FuncData
  F_law_whole : Fun K "_law_whole" "_law_whole" s_law_whole a_law_whole d_law_whole
  g_law_whole : mg "_law_whole" = some (.ref a_law_whole)
  b_law_whole : Binds K d_law_whole ["_law_thing_here"] []
  a_law_name : Addr
  d_law_name : FuncData
  F_law_name : Fun K "_law_name" "_law_name" s_law_name a_law_name d_law_name
  g_law_name : mg "_law_name" = some (.ref a_law_name)
  b_law_name : Binds K d_law_name ["_law_thing_here"] []
  a_law_within : Addr
  d_law_within : FuncData
  F_law_within : Fun K "_law_within" "_law_within" s_law_within a_law_within d_law_within
  g_law_within : mg "_law_within" = some (.ref a_law_within)
  b_law_within : Binds K d_law_within ["_law_thing_here", "_law_low", "_law_high"] []
  a_law : Addr
  d_law : FuncData
  F_law : Fun K "law" "law" s_law a_law d_law
  g_law : mg "law" = some (.ref a_law)
  b_law : Binds K d_law ["_law_script"] []
  m_all : mg "all" = none
  m_bool : mg "bool" = none
  m_int : mg "int" = none
  m_isinstance : mg "isinstance" = none
  m_len : mg "len" = none
  m_max : mg "max" = none
  m_min : mg "min" = none
  m_range : mg "range" = none
  m_repr : mg "repr" = none
  m_str : mg "str" = none
  c_LETTERS : ∃ u, mg "LETTERS" = some u ∧ RelV (.str "abcdefghijklmnopqrstuvwxyz") u
  c_LONGEST_NAME : ∃ u, mg "LONGEST_NAME" = some u ∧ RelV (.int 8) u
section
variable {P : Program} {w : World} {K : PySem.W.Frag} {mg : Str → Option Value} {base : Heap}
def sp_is_whole (K : PySem.W.Frag) : Sp := fun vs H Q _ => ∃ v, vs = [v] ∧ ThingAt K H v ∧ Q (.bl (wholeV v)) H
theorem ok_is_whole (T : Tx K mg) : FnOk P w K mg base CX0 1 T.a_is_whole T.d_is_whole ["thing"] (sp_is_whole K) := by
  refine T.F_is_whole.ok sc_is_whole (fun vs H Q E h => ?_) (fun cdv A outer s H vs Q E hr h => ?_)
  · obtain ⟨v, rfl, _⟩ := h
    rfl
  · refine ⟨_, (pss_one (ps_ret (pe_and (pe_callB (isiK (K := K) rfl) (by rfl) T.m_isinstance (by decide +kernel) (pa_cons (pv 0) (pa_cons (pe_bltn (v := .ty "int") rfl T.m_int (by decide +kernel) rfl) pa_nil))) (pe_one (pe_not (pe_callB (isiK (K := K) rfl) (by rfl) T.m_isinstance (by decide +kernel) (pa_cons (pv 0) (pa_cons (pe_bltn (v := .ty "bool") rfl T.m_bool (by decide +kernel) rfl) pa_nil)))))))), ?_⟩
    obtain ⟨v, rfl, hT, q⟩ := h
    obtain ⟨t, ht, h1, h2, h3⟩ := thing_ty hT
    walk_at "rd"
    refine rd_isi ht h1 ?_
    walk_at "rd"
    cases v with
    | int i =>
      refine iteT ?_
      walk_at "rd"
      refine rd_isi ht h2 ?_
      walk_at "rd"
      exact q
    | bl b =>
      refine iteT ?_
      walk_at "rd"
      refine rd_isi ht h2 ?_
      walk_at "rd"
      exact q
    | _ => first | exact iteF q | exact hT.elim
def sp_is_within (K : PySem.W.Frag) : Sp := fun vs H Q _ => ∃ v lo hi, vs = [v, .int lo, .int hi] ∧ ThingAt K H v ∧ Q (.bl (withinV v lo hi)) H
theorem ok_is_within (T : Tx K mg) : FnOk P w K mg base CX0 2 T.a_is_within T.d_is_within ["thing", "low", "high"] (sp_is_within K) := by
  refine T.F_is_within.ok sc_is_within (fun vs H Q E h => ?_) (fun cdv A outer s H vs Q E hr h => ?_)
  · obtain ⟨v, lo, hi, rfl, _⟩ := h
    rfl
  · refine ⟨_, (pss_one (ps_ret (pe_and (pe_call (ok_is_whole T) (hr.mono (by decide)) (by rfl) T.g_is_whole T.F_is_whole.kp T.b_is_whole .nil pass0 (pa_cons (pv 0) pa_nil)) (pe_one (pe_chain op_le op_le (pv 1) (pv 0) (pv 2)))))), ?_⟩
    obtain ⟨v, lo, hi, rfl, hT, q⟩ := h
    walk_at "rd"
    refine ⟨v, rfl, hT, ?_⟩
    walk_at "rd"
    cases v with
    | int i =>
      refine iteT ?_
      walk_at "rd"
      refine rd_iteD (fun h1 => ?_) (fun h1 => ?_)
      · walk_at "rd"
        rw [withinV, decide_eq_true h1, Bool.true_and] at q
        exact q
      · walk_at "rd"
        rw [withinV, decide_eq_false h1, Bool.false_and] at q
        exact q
    | _ => first | exact iteF q | exact hT.elim
def sp_is_name (K : PySem.W.Frag) : Sp := fun vs H Q _ => ∃ v, vs = [v] ∧ ThingAt K H v ∧ ∀ H', Same H H' → Q (.bl (nameV v)) H'
theorem ok_is_name (T : Tx K mg) : FnOk P w K mg base CX0 1 T.a_is_name T.d_is_name ["thing"] (sp_is_name K) := by
  refine T.F_is_name.ok sc_is_name (fun vs H Q E h => ?_) (fun cdv A outer s H vs Q E hr h => ?_)
  · obtain ⟨v, rfl, _⟩ := h
    rfl
  · refine ⟨_, (pss_cons (ps_if (PW.pt (pw_or (pt_not (pt_val (pe_callB (isiK (K := K) rfl) (by rfl) T.m_isinstance (by decide +kernel) (pa_cons (pv 0) (pa_cons (pe_bltn (v := .ty "str") rfl T.m_str (by decide +kernel) rfl) pa_nil))))) (pw_or1 (pt_not (pt_chain op_le op_le pe_int (pe_callB (lenK (K := K) rfl) (by rfl) T.m_len (by decide +kernel) (pa_cons (pv 0) pa_nil)) (C8.pe_gc rfl T.c_LONGEST_NAME))))))
        (pss_one (ps_ret pe_bl))
        pss_nil)
        (pss_one (ps_ret (pe_callB (allK (K := K) rfl rfl) (by rfl) T.m_all (by decide +kernel) (pa_cons (pe_lc (own := [("sign", 1)]) (g := gName 1) (tt := tYes) rfl sc_is_name.nd (pi_str (pv 0)) (blkOk_by (own := [("sign", 1)]) (N := N_is_name) (sc := defScope s_is_name) (by decide +kernel)) (fun _ _ _ _ _ => (pg_name (i := 1) sc_is_name.nd rfl (Or.inl rfl))) (fun _ _ _ _ _ => pts_nil) (fun _ _ _ _ _ => (pe_frm (pe_cmpR inSg (pv 1) (C8.pe_gc rfl T.c_LETTERS) rfl)))) pa_nil))))), ?_⟩
    obtain ⟨v, rfl, hT, q⟩ := h
    obtain ⟨t, ht, h1, h2, h3⟩ := thing_ty hT
    walk_at "rd"
    refine rd_isi ht h3 ?_
    walk_at "rd"
    cases v with
    | str z =>
      have hz : z.length ≤ 2000 := hT
      refine iteT ?_
      walk_at "rd"
      refine rd_iteD (fun h4 => ?_) (fun h4 => ?_)
      · walk_at "rd"
        refine rd_iteD (fun h5 => ?_) (fun h5 => ?_)
        · walk_at "rd"
          refine lcgo_str (f := fun c => .bl (isLet c)) (by omega) (fun _ => rfl) (fun c H' Q' hc q' => ?_) (fun D hD => ?_)
          · walk_at "rd"
            rw [isLet_in]
            exact q'
          · walk_at "rd"
            refine rd_all (bs := z.cps.toList.map isLet) (sqL_of (by rw [upd_same, List.map_map]; rfl)) ?_
            have eall : (z.cps.toList.map isLet).all id = z.cps.toList.all isLet := by rw [List.all_map]; rfl
            rw [eall]
            walk_at "rd"
            have e : nameV (.str z) = z.cps.toList.all isLet := by rw [nameV, nameS, decide_eq_true (show 1 ≤ z.length ∧ z.length ≤ 8 by omega), Bool.true_and]
            rw [← e]
            exact q _ (same_new hD)
        · walk_at "rd"
          have := q _ (Same.refl H)
          rw [nameV, nameS, decide_eq_false (show ¬ (1 ≤ z.length ∧ z.length ≤ 8) by omega), Bool.false_and] at this
          exact this
      · walk_at "rd"
        have := q _ (Same.refl H)
        rw [nameV, nameS, decide_eq_false (show ¬ (1 ≤ z.length ∧ z.length ≤ 8) by omega), Bool.false_and] at this
        exact this
    | _ =>
      first
      | (refine iteF ?_
         walk_at "rd"
         exact q _ (Same.refl H))
      | exact hT.elim

def sp_law_cell (K : PySem.W.Frag) : Sp := fun vs H Q _ => ∃ (l : Addr) (ns : List Int) (k : Nat), vs = [.ref l, .int (k : Int)] ∧ SqL K H l (ns.map V.int) ∧ ∀ z : Int, (z ∈ ns ∨ (0 ≤ z ∧ z ≤ 15485863 * (k : Int) + 29)) → Q (.int z) H
theorem ok_law_cell (T : Tx K mg) : FnOk P w K mg base CX0 1 T.a_law_cell T.d_law_cell ["_law_script", "_law_k"] (sp_law_cell K) := by
  refine T.F_law_cell.ok sc_law_cell (fun vs H Q E h => ?_) (fun cdv A outer s H vs Q E hr h => ?_)
  · obtain ⟨l, ns, k, rfl, _⟩ := h
    rfl
  · refine ⟨_, (pss_cons (ps_if (pt_cmpR op_lt (pv 1) (pe_callB (lenK (K := K) rfl) (by rfl) T.m_len (by decide +kernel) (pa_cons (pv 0) pa_nil)) (nomark _))
        (pss_one (ps_ret (pe_ix (ixK (K := K) rfl) (pv 0) (pv 1) (fun _ _ => rfl))))
        pss_nil)
        (pss_one (ps_ret (pe_op op_add (pe_op op_mul pe_int (pv 1)) pe_int)))), ?_⟩
    obtain ⟨l, ns, k, rfl, hS, q⟩ := h
    walk_at "rd"
    refine rd_iteD (fun hc => ?_) (fun hc => ?_)
    · rw [List.length_map] at hc
      have hk : k < ns.length := by omega
      walk_at "rd"
      refine rd_ixL hS (atI_nat (j := k) (v := .int ns[k]) ?_) ?_
      · rw [List.getElem?_map, List.getElem?_eq_getElem hk]
        rfl
      · exact q _ (.inl (List.getElem_mem hk))
    · walk_at "rd"
      walk_at "rd"
      exact q _ (.inr ⟨by omega, by omega⟩)
def sp_law_box (K : PySem.W.Frag) : Sp := fun vs H Q _ => ∃ z : Int, vs = [.int z] ∧ ∀ (p : Addr) (H' : Hp), H p = none → Same H H' → BoxAt H' p 0 → Q (.ref p) H'
theorem ok_law_box (T : Tx K mg) : FnOk P w K mg base CX0 1 T.a_law_box T.d_law_box ["_law_cell_here"] (sp_law_box K) := by
  refine T.F_law_box.ok sc_law_box (fun vs H Q E h => ?_) (fun cdv A outer s H vs Q E hr h => ?_)
  · obtain ⟨z, rfl, _⟩ := h
    rfl
  · refine ⟨_, (pss_one (ps_ret (pe_lst (pa_cons (pe_callB (max2 rfl) (by rfl) T.m_max (by decide +kernel) (pa_cons pe_int (pa_cons (pe_op op_sub (pv 0) (pe_op op_pow pe_int pe_int)) pa_nil))) (pa_cons (pe_op op_mod (pv 0) pe_int) (pa_cons pe_int pa_nil)))))), ?_⟩
    obtain ⟨z, rfl, q⟩ := h
    walk_at "rd"
    refine rd_max2 fun m hm => ?_
    walk_at "rd"
    refine rd_I (by decide) ?_
    walk_at "rd"
    refine rd_lstA (by simp) fun p H1 hp s1 e1 => ?_
    refine q p _ hp s1 ⟨_, _, _, e1, ?_, ?_, ?_, Int.le_refl _, Int.le_refl _⟩
    · omega
    · exact Int.emod_nonneg _ (by decide)
    · exact Int.emod_lt_of_pos _ (by decide)
theorem box_one (b c : Int) (h1 : 0 ≤ b) (h2 : b < 2147483629) (h3 : 0 ≤ c) (h4 : c ≤ 1000001) : (b + 7919 * c + 101).natAbs < 2 ^ 64 := by omega
theorem box_two (o c : Int) (h1 : 0 ≤ o) (h2 : o < 2147483647) (h3 : 0 ≤ c) (h4 : c ≤ 1000001) : (o / 8 + 104729 * c * c + 3).natAbs < 2 ^ 64 := by
  have h5 : 104729 * c * c ≤ 104729 * 1000001 * 1000001 := Int.mul_le_mul (by omega) h4 h3 (by decide)
  have h6 : 0 ≤ 104729 * c * c := Int.mul_nonneg (by omega) h3
  have h7 : (104729 : Int) * 1000001 * 1000001 = 104729209458104729 := by decide
  omega
theorem pow5 (x : Int) : CPow x 5 ↔ x.natAbs < 2 ^ 64 := ⟨fun h => h.2.2, fun h => ⟨by decide, by decide, h⟩⟩
theorem pow3 (x : Int) : CPow x 3 ↔ x.natAbs < 2 ^ 64 := ⟨fun h => h.2.2, fun h => ⟨by decide, by decide, h⟩⟩
def sp_law_take (K : PySem.W.Frag) : Sp := fun vs H Q _ => ∃ (p : Addr) (m : Int) (n : Nat), vs = [.ref p, .int m] ∧ BoxAt H p n ∧ 0 < m ∧ m < 2 ^ 200 ∧ n ≤ 1000000 ∧ ∀ (r : Int) (H' : Hp), 0 ≤ r → r < m → BoxAt H' p (n + 1) → KeepB p H H' → Q (.int r) H'
theorem rd_take {K : PySem.W.Frag} {H : Hp} {Q : VK} {E : XK} {p : Addr} {m : Int} {n : Nat} (hB : BoxAt H p n) (hm : 0 < m) (hm2 : m < 2 ^ 200) (hn : n ≤ 1000000) (q : ∀ (r : Int) (H' : Hp), 0 ≤ r → r < m → BoxAt H' p (n + 1) → KeepB p H H' → Q (.int r) H') :
    sp_law_take K [.ref p, .int m] H Q E := ⟨p, m, n, rfl, hB, hm, hm2, hn, q⟩
theorem ok_law_take (T : Tx K mg) : FnOk P w K mg base CX0 1 T.a_law_take T.d_law_take ["_law_box_here", "_law_many"] (sp_law_take K) := by
  refine T.F_law_take.ok sc_law_take (fun vs H Q E h => ?_) (fun cdv A outer s H vs Q E hr h => ?_)
  · obtain ⟨p, m, n, rfl, _⟩ := h
    rfl
  · refine ⟨_, (pss_cons (ps_if (pt_cmpR op_gt (pe_ix (ixK (K := K) rfl) (pv 0) pe_int (fun _ _ => rfl)) pe_int (nomark _))
        (pss_cons (ps_set (i := 2) sc_law_take.nd rfl (Or.inl rfl) (pe_op op_mod (pe_ix (ixK (K := K) rfl) (pv 0) pe_int (fun _ _ => rfl)) (pv 1)))
        (pss_cons (ps_asg (pe_op op_fdivW (pe_ix (ixK (K := K) rfl) (pv 0) pe_int (fun _ _ => rfl)) (pv 1)) (pg_sub (pv 0) pe_int set_list))
        (pss_one (ps_ret (pv 2)))))
        pss_nil)
        (pss_cons (ps_asg (pe_op op_add (pe_ix (ixK (K := K) rfl) (pv 0) pe_int (fun _ _ => rfl)) pe_int) (pg_sub (pv 0) pe_int set_list))
        (pss_cons (ps_set (i := 3) sc_law_take.nd rfl (Or.inl rfl) (pe_op op_mod (pe_op op_pow (pe_op op_add (pe_op op_add (pe_ix (ixK (K := K) rfl) (pv 0) pe_int (fun _ _ => rfl)) (pe_op op_mul pe_int (pe_ix (ixK (K := K) rfl) (pv 0) pe_int (fun _ _ => rfl)))) pe_int) pe_int) pe_int))
        (pss_cons (ps_set (i := 4) sc_law_take.nd rfl (Or.inl rfl) (pe_op op_mod (pe_op op_pow (pe_op op_add (pe_op op_add (pe_op op_fdivW (pv 3) pe_int) (pe_op op_mul (pe_op op_mul pe_int (pe_ix (ixK (K := K) rfl) (pv 0) pe_int (fun _ _ => rfl))) (pe_ix (ixK (K := K) rfl) (pv 0) pe_int (fun _ _ => rfl)))) pe_int) pe_int) pe_int))
        (pss_one (ps_ret (pe_op op_mod (pe_op op_add (pe_op op_fdivW (pv 3) pe_int) (pe_op op_mul pe_int (pe_op op_fdivW (pv 4) pe_int))) (pv 1)))))))), ?_⟩
    obtain ⟨p, m, n, rfl, ⟨a, b, c, hp, ha, hb, hb2, hc, hc2⟩, hm, hm2, hn, q⟩ := h
    walk_at "rd"
    refine rd_iteD (fun h0 => ?_) (fun h0 => ?_)
    · walk_at "rd"
      refine rd_I hm ?_
      walk_at "rd"
      refine rd_I ⟨hm, log2_small hm hm2⟩ ?_
      walk_at "rd"
      refine rd_setL hp (j := 0) rfl ?_
      walk_at "rd"
      refine q _ _ (Int.emod_nonneg _ (by omega)) (Int.emod_lt_of_pos _ hm) ⟨_, _, _, upd_same, Int.ediv_nonneg ha (by omega), hb, hb2, hc, by omega⟩ keepB_upd
    · walk_at "rd"
      refine rd_setL hp (j := 2) rfl ?_
      have hp2 : (upd H p (.lst ([V.int a, .int b, .int c].set 2 (.int (c + 1))))) p = some (.lst [V.int a, .int b, .int (c + 1)]) := upd_same
      have hk : KeepB p H (upd H p (.lst ([V.int a, .int b, .int c].set 2 (.int (c + 1))))) := keepB_upd
      generalize (upd H p (.lst ([V.int a, .int b, .int c].set 2 (.int (c + 1))))) = H2 at hp2 hk
      walk_at "rd"
      refine rd_I ((pow5 _).mpr (box_one _ _ hb hb2 (by omega) (by omega))) ?_
      walk_at "rd"
      refine rd_modA (by decide) fun one h1 h2 => ?_
      walk_at "rd"
      refine rd_I (.inr ⟨by omega, by omega⟩) ?_
      walk_at "rd"
      refine rd_I ((pow3 _).mpr (box_two _ _ h1 h2 (by omega) (by omega))) ?_
      walk_at "rd"
      refine rd_modA (by decide) fun other h3 h4 => ?_
      walk_at "rd"
      refine rd_modA hm fun r h5 h6 => ?_
      walk_at "rd"
      exact q r H2 h5 h6 ⟨_, _, _, hp2, ha, hb, hb2, by omega, by omega⟩ hk

def sp_law_text (K : PySem.W.Frag) : Sp := fun vs H Q _ => ∃ (p : Addr) (n : Nat), vs = [.ref p] ∧ BoxAt H p n ∧ n ≤ 1000 ∧ ∀ (z : Str) H', KeepB p H H' → z.length ≤ 100 → Q (.str z) H'
theorem ok_law_text (T : Tx K mg) : FnOk P w K mg base CX0 2 T.a_law_text T.d_law_text ["_law_box_here"] (sp_law_text K) := by
  refine T.F_law_text.ok sc_law_text (fun vs H Q E h => ?_) (fun cdv A outer s H vs Q E hr h => ?_)
  · obtain ⟨p, n, rfl, _⟩ := h
    rfl
  · refine ⟨_, (pss_cons (ps_set (i := 1) sc_law_text.nd rfl (Or.inr rfl) pe_str)
        (pss_cons (ps_set (i := 2) sc_law_text.nd rfl (Or.inl rfl) pe_str)
        (pss_cons (ps_set (i := 3) sc_law_text.nd rfl (Or.inl rfl) (pe_call (ok_law_take T) (hr.mono (by decide)) (by rfl) T.g_law_take T.F_law_take.kp T.b_law_take .nil pass0 (pa_cons (pv 0) (pa_cons pe_int pa_nil))))
        (pss_cons (ps_set (i := 4) sc_law_text.nd rfl (Or.inl rfl) (pe_ix (ixLK (K := K) rfl) (pe_lst (pa_cons (pe_call (ok_law_take T) (hr.mono (by decide)) (by rfl) T.g_law_take T.F_law_take.kp T.b_law_take .nil pass0 (pa_cons (pv 0) (pa_cons pe_int pa_nil))) (pa_cons pe_int (pa_cons pe_int pa_nil)))) (pe_call (ok_law_take T) (hr.mono (by decide)) (by rfl) T.g_law_take T.F_law_take.kp T.b_law_take .nil pass0 (pa_cons (pv 0) (pa_cons pe_int pa_nil))) (fun _ _ => rfl)))
        (pss_cons (ps_set (i := 5) sc_law_text.nd rfl (Or.inl rfl) (pe_joinK (K := K) rfl pe_str (pe_lc (own := [("_law_k", 7)]) (g := gName 7) (tt := tYes) rfl sc_law_text.nd (pi_range1 (by rfl) T.m_range (pa_cons (pv 4) pa_nil)) (blkOk_by (own := [("_law_k", 7)]) (N := N_law_text) (sc := defScope s_law_text) (by decide +kernel)) (fun _ _ _ _ _ => (pg_name (i := 7) sc_law_text.nd rfl (Or.inl rfl))) (fun _ _ _ _ _ => pts_nil) (fun _ _ _ _ _ => (pe_frm (pe_ix ix_str (pv 1) (pe_call (ok_law_take T) (hr.mono (by decide)) (by rfl) T.g_law_take T.F_law_take.kp T.b_law_take .nil pass0 (pa_cons (pv 0) (pa_cons pe_int pa_nil))) (fun _ _ => rfl)))))))
        (pss_cons (ps_if (pt_cmpR op_eq (pv 3) pe_int (nomark _))
        (pss_cons (ps_set (i := 6) sc_law_text.nd rfl (Or.inl rfl) (pe_call (ok_law_take T) (hr.mono (by decide)) (by rfl) T.g_law_take T.F_law_take.kp T.b_law_take .nil pass0 (pa_cons (pv 0) (pa_cons (pe_op op_add (pv 4) pe_int) pa_nil))))
        (pss_one (ps_set (i := 5) sc_law_text.nd rfl (Or.inl rfl) (pe_op addS (pe_op addS (pe_slice sl_str (pv 5) po_none (po_some (pv 6))) (pe_ix ix_str (pv 2) (pe_call (ok_law_take T) (hr.mono (by decide)) (by rfl) T.g_law_take T.F_law_take.kp T.b_law_take .nil pass0 (pa_cons (pv 0) (pa_cons (pe_callB (lenK (K := K) rfl) (by rfl) T.m_len (by decide +kernel) (pa_cons (pv 2) pa_nil)) pa_nil))) (fun _ _ => rfl))) (pe_slice sl_str (pv 5) (po_some (pe_op op_add (pv 6) pe_int)) po_none)))))
        pss_nil)
        (pss_one (ps_ret (pv 5))))))))), ?_⟩
    obtain ⟨p, n, rfl, hB, hn, q⟩ := h
    walk_at "rd"
    refine rd_take hB (by decide) (by decide) (by omega) fun odd H1 o0 o1 hB1 k1 => ?_
    walk_at "rd"
    refine rd_take hB1 (by decide) (by decide) (by omega) fun r2 H2 r20 r21 hB2 k2 => ?_
    walk_at "rd"
    refine rd_lstA (by simp) fun l H5 hl s5 el => ?_
    walk_at "rd"
    have hB5 := hB2.keep s5
    have nl := hB2.ne hl
    refine rd_take hB5 (by decide) (by decide) (by omega) fun r3 H6 r30 r31 hB6 k6 => ?_
    refine rd_ixAny1 (sqL_of (k6 _ _ el nl)) r30 (by simpa using r31) fun v hv => ?_
    obtain ⟨sz, rfl, z0, z1⟩ : ∃ sz : Int, v = .int sz ∧ 0 ≤ sz ∧ sz ≤ 9 := by
      simp only [List.mem_cons, List.not_mem_nil, or_false] at hv
      rcases hv with rfl | rfl | rfl <;> exact ⟨_, rfl, by omega, by omega⟩
    have k06 : KeepB p H H6 := ((k1.trans k2).trans (Same.keepB s5)).trans k6
    walk_at "rd"
    refine rd_r1 (by omega) (by omega) ?_
    refine lcgoF walk_range (by omega) (fun i x => True) (fun i H x H' _ _ y => ⟨y.1, trivial⟩) (fun _ => rfl) (fun i acc H' => BoxAt H' p (n + 3 + i) ∧ KeepB p H6 H' ∧ ∃ ys : List Str, acc = ys.map V.str ∧ ∀ y ∈ ys, y.length = 1) ⟨hB6, KeepB.refl p H6, [], rfl, fun _ h => nomatch h⟩ (fun _ _ _ _ _ _ _ => trivial) ?_ ?_
    · rintro i x acc Ha Qc hi hla ⟨hBa, ka, ys, rfl, hys⟩ - hq
      walk_at "rd"
      refine rd_take hBa (by decide) (by decide) (by omega) fun r Hc r0 r1 hBc kc => ?_
      have h26 : (Str.ofString "abcdefghijklmnopqrstuvwxyz").length = 26 := by decide +kernel
      refine rd_ixSany (by decide +kernel) r0 (by rw [h26]; exact r1) fun c hc => ?_
      refine hq _ _ ⟨hBc, ka.trans kc, ys ++ [⟨#[c]⟩], by rw [List.map_append]; rfl, fun y hy => ?_⟩
      rcases List.mem_append.mp hy with hy | hy
      · exact hys y hy
      · rw [List.mem_singleton.mp hy]
        rfl
    rintro acc H7' D hla ⟨hB7, k7, ys, rfl, hys⟩ hD
    have hB7 := hB7.new (o := .lst (ys.map V.str)) (hB7.ne hD).symm
    have k7 : KeepB p H6 (upd H7' D (.lst (ys.map V.str))) := k7.trans (Same.keepB (same_new hD))
    have hD7 : (upd H7' D (.lst (ys.map V.str))) D = some (.lst (ys.map V.str)) := upd_same
    generalize upd H7' D (.lst (ys.map V.str)) = H7 at hB7 k7 hD7
    rw [List.length_map] at hla
    refine rd_join1 (sqL_of hD7) hys (by omega) fun z _ hz => ?_
    walk_at "rd"
    have k07 := k06.trans k7
    refine rd_iteD (fun h2 => ?_) (fun h2 => ?_)
    · walk_at "rd"
      refine rd_take hB7 (by omega) (by omega) (by omega) fun at_ H8 a0 a1 hB8 k8 => ?_
      walk_at "rd"
      refine rd_take hB8 (by show (0 : Int) < ((signs1.length : Nat) : Int); rw [s1len]; decide) (by show ((signs1.length : Nat) : Int) < 2 ^ 200; rw [s1len]; decide) (by omega) fun r H9 r0 r1 hB9 k9 => ?_
      have c1 := cutS_length z none (some at_)
      have c2 := cutS_length z (some (at_ + 1)) none
      refine rd_ixSany (by decide +kernel) r0 r1 fun c hc => ?_
      refine rd_addS (by show (cutS z none (some at_)).length + 1 ≤ 100000; omega) ?_
      walk_at "rd"
      have c3 : (cutS z none (some at_) ++ (⟨#[c]⟩ : Str)).length = (cutS z none (some at_)).length + 1 := PySem.Str.length_append _ _
      refine rd_addS (by omega) ?_
      walk_at "rd"
      exact q _ _ ((k07.trans k8).trans k9) (by rw [PySem.Str.length_append]; omega)
    · walk_at "rd"
      exact q _ _ k07 (by omega)
def sp_law_thing (K : PySem.W.Frag) : Sp := fun vs H Q _ => ∃ (p : Addr) (lo hi : Int), vs = [.ref p, .int lo, .int hi] ∧ BoxAt H p 10 ∧ -(2 ^ 200) < lo ∧ lo < 2 ^ 200 ∧ ∀ v H', KeepB p H H' → ThingAt K H' v → Q v H'
theorem ok_law_thing (T : Tx K mg) : FnOk P w K mg base CX0 3 T.a_law_thing T.d_law_thing ["_law_box_here", "_law_low", "_law_high"] (sp_law_thing K) := by
  refine T.F_law_thing.ok sc_law_thing (fun vs H Q E h => ?_) (fun cdv A outer s H vs Q E hr h => ?_)
  · obtain ⟨p, lo, hi, rfl, _⟩ := h
    rfl
  · refine ⟨_, (pss_cons (ps_set (i := 3) sc_law_thing.nd rfl (Or.inl rfl) (pe_call (ok_law_take T) (hr.mono (by decide)) (by rfl) T.g_law_take T.F_law_take.kp T.b_law_take .nil pass0 (pa_cons (pv 0) (pa_cons pe_int pa_nil))))
        (pss_cons (ps_if (pt_cmpR op_eq (pv 3) pe_int (nomark _))
        (pss_one (ps_ret (pe_call (ok_law_text T) (hr.mono (by decide)) (by rfl) T.g_law_text T.F_law_text.kp T.b_law_text .nil pass0 (pa_cons (pv 0) pa_nil))))
        pss_nil)
        (pss_cons (ps_set (i := 4) sc_law_thing.nd rfl (Or.inl rfl) (pe_lst (pa_cons (pv 1) (pa_cons (pv 2) (pa_cons (pe_op op_sub (pv 1) pe_int) (pa_cons (pe_op op_add (pv 2) pe_int) (pa_cons pe_int (pa_cons (pe_op op_add (pe_op op_pow pe_int pe_int) (pv 1)) (pa_cons (pe_op op_sub pe_int (pe_op op_pow pe_int pe_int)) (pa_cons (pe_op op_fdivW (pe_op op_add (pv 1) (pv 2)) pe_int) (pa_cons pe_bl (pa_cons pe_bl (pa_cons pe_non pa_nil)))))))))))))
        (pss_cons (ps_set (i := 4) sc_law_thing.nd rfl (Or.inl rfl) (pe_op op_cat (pv 4) (pe_lst (pa_cons pe_str (pa_cons (pe_lst pa_nil) (pa_cons (pe_tup pa_nil) (pa_cons (pe_lst (pa_cons pe_str pa_nil)) (pa_cons (pe_tup (pa_cons pe_str pa_nil)) (pa_cons pe_dnewK (pa_cons (pe_disp (pps_cons pe_str pe_int pps_nil) (by rfl) (by rfl) (fun z => by cases z) (by decide)) (pa_cons (pe_lst (pa_cons (pv 1) pa_nil)) (pa_cons (pe_tup (pa_cons (pv 1) pa_nil)) (pa_cons (pe_callTy strI (by rfl) T.m_str (by decide +kernel) (pa_cons (pv 1) pa_nil)) pa_nil)))))))))))))
        (pss_one (ps_ret (pe_ix (ixLK (K := K) rfl) (pv 4) (pe_call (ok_law_take T) (hr.mono (by decide)) (by rfl) T.g_law_take T.F_law_take.kp T.b_law_take .nil pass0 (pa_cons (pv 0) (pa_cons pe_int pa_nil))) (fun _ _ => rfl)))))))), ?_⟩
    obtain ⟨p, lo, hi, rfl, hB, l0, l1, q⟩ := h
    walk_at "rd"
    refine rd_take hB (by decide) (by decide) (by decide) fun way H1 w0 w1 hB1 k1 => ?_
    walk_at "rd"
    refine rd_iteD (fun h1 => ?_) (fun h1 => ?_)
    · walk_at "rd"
      refine ⟨p, _, rfl, hB1, by decide, fun z H2 k2 hz => ?_⟩
      walk_at "rd"
      exact q _ _ (k1.trans k2) (show z.length ≤ 2000 by omega)
    · walk_at "rd"
      refine rd_lstA (by simp) fun a0 Ha n0 s0 e0 => ?_
      walk_at "rd"
      refine rd_lstA (by simp) fun a1 Hb n1 s1 e1 => ?_
      walk_at "rd"
      refine rd_tupA (by simp) fun a2 Hc n2 s2 e2 => ?_
      walk_at "rd"
      refine rd_lstA (by simp) fun a3 Hd n3 s3 e3 => ?_
      walk_at "rd"
      refine rd_tupA (by simp) fun a4 He n4 s4 e4 => ?_
      walk_at "rd"
      refine rd_dnew fun a5 Hf n5 s5 e5 => ?_
      walk_at "rd"
      refine rd_disp1 (kx := .inr (Str.ofString "a")) (y := .int 1) (fun _ _ z => z) (fun _ _ z => z) fun a6 Hg n6 s6 e6 => ?_
      walk_at "rd"
      refine rd_lstA (by simp) fun a7 Hh n7 s7 e7 => ?_
      walk_at "rd"
      refine rd_tupA (by simp) fun a8 Hi n8 s8 e8 => ?_
      walk_at "rd"
      refine rd_strI (Nat.lt_of_lt_of_le (PySem.Flt.log2_lt_of (k := 201) (by decide) (by omega)) (by decide)) ?_
      walk_at "rd"
      refine rd_lstA (by simp) fun a9 Hj n9 s9 e9 => ?_
      walk_at "rd"
      have s19 := (((((((s1.trans s2).trans s3).trans s4).trans s5).trans s6).trans s7).trans s8).trans s9
      refine rd_cat (s19 _ _ e0) e9 (by simp) fun a10 Hk n10 s10 e10 => ?_
      walk_at "rd"
      have sk := (Same.trans s0 s19).trans s10
      refine rd_take (hB1.keep sk) (by decide) (by decide) (by decide) fun r Hl r0 r1 hB12 kl => ?_
      have nk : ∀ {b : Addr} {o : HO}, Hk b = some o → H1 b = none → Hl b = some o := fun {b o} h n => kl _ _ h (hB1.ne n)
      have f1 := nk (s10 _ _ (((((((s2.trans s3).trans s4).trans s5).trans s6).trans s7).trans s8).trans s9 _ _ e1)) (s0.free n1)
      have f2 := nk (s10 _ _ ((((((s3.trans s4).trans s5).trans s6).trans s7).trans s8).trans s9 _ _ e2)) ((Same.trans s0 s1).free n2)
      have f3 := nk (s10 _ _ (((((s4.trans s5).trans s6).trans s7).trans s8).trans s9 _ _ e3)) (((Same.trans s0 s1).trans s2).free n3)
      have f4 := nk (s10 _ _ ((((s5.trans s6).trans s7).trans s8).trans s9 _ _ e4)) ((((Same.trans s0 s1).trans s2).trans s3).free n4)
      have f5 := nk (s10 _ _ (((s6.trans s7).trans s8).trans s9 _ _ e5)) (((((Same.trans s0 s1).trans s2).trans s3).trans s4).free n5)
      have f6 := nk (s10 _ _ ((s7.trans s8).trans s9 _ _ e6)) ((((((Same.trans s0 s1).trans s2).trans s3).trans s4).trans s5).free n6)
      have f7 := nk (s10 _ _ (s8.trans s9 _ _ e7)) (((((((Same.trans s0 s1).trans s2).trans s3).trans s4).trans s5).trans s6).free n7)
      have f8 := nk (s10 _ _ (s9 _ _ e8)) ((((((((Same.trans s0 s1).trans s2).trans s3).trans s4).trans s5).trans s6).trans s7).free n8)
      refine rd_ixAny1 (sqL_of (kl _ _ e10 ((hB1.keep (Same.trans s0 s19)).ne n10))) r0 (by simpa using r1) fun v hv => ?_
      walk_at "rd"
      refine q _ _ ((k1.trans (Same.keepB sk)).trans kl) ?_
      simp only [List.cons_append, List.nil_append, List.mem_cons, List.not_mem_nil, or_false] at hv
      rcases hv with rfl | rfl | rfl | rfl | rfl | rfl | rfl | rfl | rfl | rfl | rfl | rfl | rfl | rfl | rfl | rfl | rfl | rfl | rfl | rfl | rfl
      all_goals first
        | exact trivial
        | exact ⟨_, .lst f1, .inl rfl⟩
        | exact ⟨_, .tup f2, .inr (.inl rfl)⟩
        | exact ⟨_, .lst f3, .inl rfl⟩
        | exact ⟨_, .tup f4, .inr (.inl rfl)⟩
        | exact ⟨_, .dK f5, .inr (.inr rfl)⟩
        | exact ⟨_, .dK f6, .inr (.inr rfl)⟩
        | exact ⟨_, .lst f7, .inl rfl⟩
        | exact ⟨_, .tup f8, .inr (.inl rfl)⟩
        | (show (Str.ofString (toString lo)).length ≤ 2000
           have := PyProof.Rows.int_text_len_1921 (i := lo) (Nat.lt_of_lt_of_le (PySem.Flt.log2_lt_of (k := 201) (by decide) (by omega)) (by decide))
           omega)
        | (show (Str.ofString "").length ≤ 2000; decide +kernel)
def sp_law_whole (K : PySem.W.Frag) : Sp := fun vs H Q _ => ∃ v, vs = [v] ∧ ThingAt K H v ∧ Q (.bl (wholeV v)) H
theorem ok_law_whole (T : Tx K mg) : FnOk P w K mg base CX0 1 T.a_law_whole T.d_law_whole ["_law_thing_here"] (sp_law_whole K) := by
  refine T.F_law_whole.ok sc_law_whole (fun vs H Q E h => ?_) (fun cdv A outer s H vs Q E hr h => ?_)
  · obtain ⟨v, rfl, _⟩ := h
    rfl
  · refine ⟨_, (pss_cons (ps_if (PW.pt (pw_or (pt_cmpR isBA (pv 0) pe_bl (nomark _)) (pw_or (pt_cmpR isBA (pv 0) pe_bl (nomark _)) (pw_or1 (pt_not (pt_val (pe_callB (isiK (K := K) rfl) (by rfl) T.m_isinstance (by decide +kernel) (pa_cons (pv 0) (pa_cons (pe_bltn (v := .ty "int") rfl T.m_int (by decide +kernel) rfl) pa_nil)))))))))
        (pss_one (ps_ret pe_bl))
        pss_nil)
        (pss_one (ps_ret pe_bl))), ?_⟩
    obtain ⟨v, rfl, hT, q⟩ := h
    obtain ⟨t, ht, h1, h2, h3⟩ := thing_ty hT
    walk_at "rd"
    refine rd_iteD (fun h4 => ?_) (fun h4 => ?_)
    · walk_at "rd"
      subst h4
      exact q
    · walk_at "rd"
      refine rd_iteD (fun h5 => ?_) (fun h5 => ?_)
      · walk_at "rd"
        subst h5
        exact q
      · walk_at "rd"
        refine rd_isi ht h1 ?_
        walk_at "rd"
        cases v with
        | int i =>
          walk_at "rd"
          exact q
        | bl b =>
          cases b
          · exact absurd rfl h5
          · exact absurd rfl h4
        | _ =>
          first
          | (refine iteF ?_
             walk_at "rd"
             exact q)
          | exact hT.elim
def sp_law_name (K : PySem.W.Frag) : Sp := fun vs H Q _ => ∃ v, vs = [v] ∧ ThingAt K H v ∧ Q (.bl (nameV v)) H
theorem empty_text (z : Str) : (z = Str.ofString "") ↔ z.length = 0 := by
  obtain ⟨⟨l⟩⟩ := z
  cases l with
  | nil => exact ⟨fun _ => rfl, fun _ => by decide +kernel⟩
  | cons a r => exact ⟨fun h => by have h2 := congrArg Str.length h; exact absurd h2 (by intro q; exact absurd (show r.length + 1 = 0 from q) (by omega)), fun h => absurd (show r.length + 1 = 0 from h) (by omega)⟩
theorem nameS_out {z : Str} (h : ¬ (1 ≤ z.length ∧ z.length ≤ 8)) : nameS z = false := by rw [nameS, decide_eq_false h, Bool.false_and]
theorem nameS_in {z : Str} (h : 1 ≤ z.length ∧ z.length ≤ 8) : nameS z = z.cps.toList.all isLet := by rw [nameS, decide_eq_true h, Bool.true_and]
theorem ok_law_name (T : Tx K mg) : FnOk P w K mg base CX0 1 T.a_law_name T.d_law_name ["_law_thing_here"] (sp_law_name K) := by
  refine T.F_law_name.ok sc_law_name (fun vs H Q E h => ?_) (fun cdv A outer s H vs Q E hr h => ?_)
  · obtain ⟨v, rfl, _⟩ := h
    rfl
  · refine ⟨_, (pss_cons (ps_if (PW.pt (pw_or (pt_not (pt_val (pe_callB (isiK (K := K) rfl) (by rfl) T.m_isinstance (by decide +kernel) (pa_cons (pv 0) (pa_cons (pe_bltn (v := .ty "str") rfl T.m_str (by decide +kernel) rfl) pa_nil))))) (pw_or (pt_cmpR op_eq (pv 0) pe_str (nomark _)) (pw_or1 (pt_cmpR op_gt (pe_callB (lenK (K := K) rfl) (by rfl) T.m_len (by decide +kernel) (pa_cons (pv 0) pa_nil)) pe_int (nomark _))))))
        (pss_one (ps_ret pe_bl))
        pss_nil)
        (pss_cons (ps_for PassesOwn.never rfl (pi_str (pv 0)) (pg_name (i := 1) sc_law_name.nd rfl (Or.inl rfl))
        (pss_one (ps_if (pt_cmpR notInSg (pv 1) pe_str rfl)
        (pss_one (ps_ret pe_bl))
        pss_nil)))
        (pss_one (ps_ret pe_bl)))), ?_⟩
    obtain ⟨v, rfl, hT, q⟩ := h
    obtain ⟨t, ht, h1, h2, h3⟩ := thing_ty hT
    walk_at "rd"
    refine rd_isi ht h3 ?_
    walk_at "rd"
    cases v with
    | str z =>
      have hz : z.length ≤ 2000 := hT
      refine iteT ?_
      walk_at "rd"
      refine rd_iteD (fun h4 => ?_) (fun h4 => ?_)
      · walk_at "rd"
        have := (empty_text z).mp (V.str.inj h4)
        rw [nameV, nameS_out (by omega)] at q
        exact q
      · walk_at "rd"
        have h5 : z.length ≠ 0 := fun e => h4 (congrArg V.str ((empty_text z).mpr e))
        refine rd_iteD (fun h6 => ?_) (fun h6 => ?_)
        · walk_at "rd"
          rw [nameV, nameS_out (by omega)] at q
          exact q
        · walk_at "rd"
          rw [nameV, nameS_in (by omega)] at q
          have hl : z.cps.size = z.cps.toList.length := by simp
          refine forgo walk_str (fun i σ' H2 => H2 = H ∧ (z.cps.toList.take i).all isLet = true ∧ ∃ x2, σ' = [some (.str z), x2]) ⟨rfl, rfl, none, rfl⟩ (fun _ _ _ _ _ => trivial) ?_ ?_
          · rintro i x σ2 H2 H3 hi ⟨e2, hf, x2, rfl⟩ ⟨e3, c1, hc1, rfl⟩
            subst e3 e2
            have hc1' : z.cps.toList[i]? = some c1 := by simpa using hc1
            walk_at "rd"
            rw [isLet_in]
            cases hc : isLet c1 with
            | true =>
              refine iteT ?_
              walk_at "rd"
              refine ⟨rfl, ?_, _, rfl⟩
              rw [List.take_add_one, hc1', List.all_append, hf]
              simp [hc]
            | false =>
              refine iteF ?_
              walk_at "rd"
              have : z.cps.toList.all isLet = false := by
                cases e : z.cps.toList.all isLet with
                | false => rfl
                | true =>
                  have := List.all_eq_true.mp e c1 (List.mem_of_getElem? hc1')
                  rw [hc] at this
                  cases this
              rw [this] at q
              exact q
          · rintro σ2 H2 ⟨e2, hf, x2, rfl⟩
            subst e2
            walk_at "rd"
            rw [hl, List.take_length] at hf
            rw [hf] at q
            exact q
    | _ =>
      first
      | (refine iteF ?_
         walk_at "rd"
         exact q)
      | exact hT.elim
def sp_law_within (K : PySem.W.Frag) : Sp := fun vs H Q _ => ∃ v lo hi, vs = [v, .int lo, .int hi] ∧ ThingAt K H v ∧ Q (.bl (withinV v lo hi)) H
theorem ok_law_within (T : Tx K mg) : FnOk P w K mg base CX0 2 T.a_law_within T.d_law_within ["_law_thing_here", "_law_low", "_law_high"] (sp_law_within K) := by
  refine T.F_law_within.ok sc_law_within (fun vs H Q E h => ?_) (fun cdv A outer s H vs Q E hr h => ?_)
  · obtain ⟨v, lo, hi, rfl, _⟩ := h
    rfl
  · refine ⟨_, (pss_one (ps_ret (pe_and (pe_call (ok_law_whole T) (hr.mono (by decide)) (by rfl) T.g_law_whole T.F_law_whole.kp T.b_law_whole .nil pass0 (pa_cons (pv 0) pa_nil)) (pe_and (pe_not (pe_cmpR op_lt (pv 0) (pv 1) (nomark _))) (pe_one (pe_not (pe_cmpR op_gt (pv 0) (pv 2) (nomark _)))))))), ?_⟩
    obtain ⟨v, lo, hi, rfl, hT, q⟩ := h
    walk_at "rd"
    refine ⟨v, rfl, hT, ?_⟩
    walk_at "rd"
    cases v with
    | int i =>
      refine iteT ?_
      walk_at "rd"
      refine rd_iteD (fun h4 => ?_) (fun h4 => ?_)
      · walk_at "rd"
        rw [withinV, decide_eq_false (show ¬ lo ≤ i by omega), Bool.false_and] at q
        exact q
      · walk_at "rd"
        rw [withinV, decide_eq_true (show lo ≤ i by omega), Bool.true_and] at q
        have e : (!decide (hi < i)) = decide (i ≤ hi) := by
          by_cases h : i ≤ hi
          · rw [decide_eq_true h, decide_eq_false (by omega)]
            rfl
          · rw [decide_eq_false h, decide_eq_true (by omega)]
            rfl
        rw [e]
        exact q
    | _ => first | exact iteF q | exact hT.elim
def sp_law (K : PySem.W.Frag) : Sp := fun vs H Q _ => ∃ (a : Addr) (ns : List Int), vs = [.ref a] ∧ SqL K H a (ns.map V.int) ∧ ns.length ≤ 63 ∧ ∀ H', Q (.bl true) H'
/-- what is kept of a cell: a tuple of a thing and two bounds -/
def KeptAt (K : PySem.W.Frag) (H : Hp) (x : V) : Prop := ∃ (t : Addr) (v : V) (lo hi : Int), x = .ref t ∧ H t = some (.tup [v, .int lo, .int hi]) ∧ ThingAt K H v
theorem KeptAt.keep {K : PySem.W.Frag} {H H' : Hp} {x : V} (h : KeptAt K H x) (e : Same H H') : KeptAt K H' x := by
  obtain ⟨t, v, lo, hi, rfl, h1, h2⟩ := h
  exact ⟨t, v, lo, hi, rfl, e _ _ h1, h2.keep e⟩
theorem ok_law (T : Tx K mg) : FnOkG P w K mg base 4 T.a_law T.d_law ["_law_script"] (sp_law K) := by
  refine okG T.F_law sc_law (fun vs H Q E h => ?_) (fun cdv A outer s H vs Q E hG hr h => ?_)
  · obtain ⟨a, ns, rfl, _⟩ := h
    rfl
  · refine ⟨_, (pss_cons (ps_set (i := 1) sc_law.nd rfl (Or.inl rfl) (pe_lst pa_nil))
        (pss_cons (ps_for PassesOwn.never rfl (pi_range1 (by rfl) T.m_range (pa_cons (pe_callB (max2 rfl) (by rfl) T.m_max (by decide +kernel) (pa_cons pe_int (pa_cons (pe_callB (min2 rfl) (by rfl) T.m_min (by decide +kernel) (pa_cons pe_int (pa_cons (pe_callB (lenK (K := K) rfl) (by rfl) T.m_len (by decide +kernel) (pa_cons (pv 0) pa_nil)) pa_nil))) pa_nil))) pa_nil)) (pg_name (i := 2) sc_law.nd rfl (Or.inl rfl))
        (pss_cons (ps_set (i := 3) sc_law.nd rfl (Or.inl rfl) (pe_call (ok_law_box T) (hr.mono (by decide)) (by rfl) T.g_law_box T.F_law_box.kp T.b_law_box .nil pass0 (pa_cons (pe_call (ok_law_cell T) (hr.mono (by decide)) (by rfl) T.g_law_cell T.F_law_cell.kp T.b_law_cell .nil pass0 (pa_cons (pv 0) (pa_cons (pv 2) pa_nil))) pa_nil)))
        (pss_cons (ps_set (i := 4) sc_law.nd rfl (Or.inl rfl) (pe_ix (ixLK (K := K) rfl) (pe_lst (pa_cons pe_int (pa_cons pe_int (pa_cons (pe_op op_pow pe_int pe_int) (pa_cons (pe_op op_pow pe_int pe_int) pa_nil))))) (pe_call (ok_law_take T) (hr.mono (by decide)) (by rfl) T.g_law_take T.F_law_take.kp T.b_law_take .nil pass0 (pa_cons (pv 3) (pa_cons pe_int pa_nil))) (fun _ _ => rfl)))
        (pss_cons (ps_set (i := 5) sc_law.nd rfl (Or.inl rfl) (pe_op op_sub (pe_call (ok_law_take T) (hr.mono (by decide)) (by rfl) T.g_law_take T.F_law_take.kp T.b_law_take .nil pass0 (pa_cons (pv 3) (pa_cons (pe_op op_mul pe_int (pv 4)) pa_nil))) (pv 4)))
        (pss_cons (ps_set (i := 6) sc_law.nd rfl (Or.inl rfl) (pe_op op_add (pv 5) (pe_call (ok_law_take T) (hr.mono (by decide)) (by rfl) T.g_law_take T.F_law_take.kp T.b_law_take .nil pass0 (pa_cons (pv 3) (pa_cons (pv 4) pa_nil)))))
        (pss_one (ps_expr (pe_bm PySem.F.plainAttrs_list PySem.F.slot_list_append PySem.F.type_list_append mt_append (pv 1) (pa_cons (pe_frm (pe_tup (pa_cons (pe_call (ok_law_thing T) (hr.mono (by decide)) (by rfl) T.g_law_thing T.F_law_thing.kp T.b_law_thing .nil pass0 (pa_cons (pv 3) (pa_cons (pv 5) (pa_cons (pv 6) pa_nil)))) (pa_cons (pv 5) (pa_cons (pv 6) pa_nil))))) pa_nil)))))))))
        (pss_cons (ps_for PassesOwn.never rfl (pi_listK (K := K) rfl (pe_op op_cat (pv 1) (pe_revLK (K := K) rfl (pv 1)))) (pg_tup rfl (pgs_cons (pg_name (i := 7) sc_law.nd rfl (Or.inl rfl)) (pgs_cons (pg_name (i := 5) sc_law.nd rfl (Or.inl rfl)) (pgs_cons (pg_name (i := 6) sc_law.nd rfl (Or.inl rfl)) pgs_nil))))
        (pss_cons (ps_set (i := 8) sc_law.nd rfl (Or.inl rfl) (pe_tup (pa_cons (pe_call (ok_law_whole T) (hr.mono (by decide)) (by rfl) T.g_law_whole T.F_law_whole.kp T.b_law_whole .nil pass0 (pa_cons (pv 7) pa_nil)) (pa_cons (pe_call (ok_law_name T) (hr.mono (by decide)) (by rfl) T.g_law_name T.F_law_name.kp T.b_law_name .nil pass0 (pa_cons (pv 7) pa_nil)) (pa_cons (pe_call (ok_law_within T) (hr.mono (by decide)) (by rfl) T.g_law_within T.F_law_within.kp T.b_law_within .nil pass0 (pa_cons (pv 7) (pa_cons (pv 5) (pa_cons (pv 6) pa_nil)))) pa_nil)))))
        (pss_one (ps_if (pt_cmpR op_ne (pe_callB (reprD (K := K) rfl hG hr.units) (by rfl) T.m_repr (by decide +kernel) (pa_cons (pe_tup (pa_cons (pe_call (ok_is_whole T) (hr.mono (by decide)) (by rfl) T.g_is_whole T.F_is_whole.kp T.b_is_whole .nil pass0 (pa_cons (pv 7) pa_nil)) (pa_cons (pe_call (ok_is_name T) (hr.mono (by decide)) (by rfl) T.g_is_name T.F_is_name.kp T.b_is_name .nil pass0 (pa_cons (pv 7) pa_nil)) (pa_cons (pe_call (ok_is_within T) (hr.mono (by decide)) (by rfl) T.g_is_within T.F_is_within.kp T.b_is_within .nil pass0 (pa_cons (pv 7) (pa_cons (pv 5) (pa_cons (pv 6) pa_nil)))) pa_nil)))) pa_nil)) (pe_callB (reprD (K := K) rfl hG hr.units) (by rfl) T.m_repr (by decide +kernel) (pa_cons (pv 8) pa_nil)) (nomark _))
        (pss_one (ps_ret pe_bl))
        pss_nil))))
        (pss_one (ps_ret pe_bl))))), ?_⟩
    obtain ⟨a, ns, rfl, hS, hlen, q⟩ := h
    walk_at "rd"
    refine rd_lstA (by simp) fun l H0 nl s0 el => ?_
    have hS0 := Same.seq s0 hS
    walk_at "rd"
    refine rd_min2 fun m hm => ?_
    walk_at "rd"
    refine rd_max2 fun m2 hm2 => ?_
    rw [List.length_map] at hm
    walk_at "rd"
    refine rd_r1 (by omega) (by omega) ?_
    refine forgo walk_range (fun i σ' H' => Same H (Wo l H') ∧ (∃ acc, H' l = some (.lst acc) ∧ acc.length = i ∧ ∀ x ∈ acc, KeptAt K (Wo l H') x) ∧ ∃ x2 x3 x4 x5 x6 x7 x8, σ' = [some (.ref a), some (.ref l), x2, x3, x4, x5, x6, x7, x8]) ?_ (fun _ _ _ _ _ => trivial) ?_ ?_
    · exact ⟨same_to_wo s0 nl, ⟨[], el, rfl, fun _ h => nomatch h⟩, none, none, none, none, none, none, none, rfl⟩
    · rintro i x σ' Ha Hb hi ⟨sa, ⟨acc, hla, hal, hacc⟩, x2, x3, x4, x5, x6, x7, x8, rfl⟩ ⟨e0, rfl⟩
      subst e0
      walk_at "rd"
      refine ⟨a, ns, i, by simp, (sa.trans wo_sub).seq hS, fun z hz => ?_⟩
      walk_at "rd"
      refine ⟨z, rfl, fun p Hc hp sc hB => ?_⟩
      walk_at "rd"
      refine rd_lstA (by simp) fun l2 Hd nl2 sd el2 => ?_
      walk_at "rd"
      refine rd_take (hB.keep sd) (by decide) (by decide) (by decide) fun r1 He r10 r11 hB1 k1 => ?_
      refine rd_ixAny1 (sqL_of (k1 _ _ el2 (hB.ne nl2))) r10 (by simpa using r11) fun v hv => ?_
      obtain ⟨far, rfl, f0, f1⟩ : ∃ far : Int, v = .int far ∧ 9 ≤ far ∧ far ≤ 100000000000000000000 := by
        simp only [List.mem_cons, List.not_mem_nil, or_false] at hv
        rcases hv with rfl | rfl | rfl | rfl <;> exact ⟨_, rfl, by decide, by decide⟩
      walk_at "rd"
      refine rd_take hB1 (by omega) (by omega) (by decide) fun r2 Hf r20 r21 hB2 k2 => ?_
      walk_at "rd"
      refine rd_take hB2 (by omega) (by omega) (by decide) fun r3 Hg r30 r31 hB3 k3 => ?_
      walk_at "rd"
      have kg : KeepB p Hc Hg := (((Same.keepB sd).trans k1).trans k2).trans k3
      have sg : Same Hb Hg := kg.same sc hp
      have hlg := sg _ _ hla
      have npl : p ≠ l := fun e => by rw [e, hla] at hp; cases hp
      refine rd_tyL (sqL_of hlg) ?_
      walk_at "rd"
      refine rd_frm hlg ?_
      walk_at "rd"
      refine ⟨p, r2 - far, r2 - far + r3, rfl, (hB3.wo npl).mono (by decide), by omega, by omega, fun w Hh kh hw => ?_⟩
      walk_at "rd"
      refine rd_tupA (by simp) fun t Hi nt si et hn => ?_
      walk_at "rd"
      refine rd_append upd_same (by omega) ?_
      walk_at "rd"
      have ew : Wo l (upd (upd Hi l (.lst acc)) l (.lst (acc ++ [.ref t]))) = Hi := by rw [upd_upd, wo_upd hn]
      have sh : Same (Wo l Hb) Hh := kh.same (same_wo sg) (wo_none hp)
      have si' : Same (Wo l Hb) Hi := sh.trans si
      refine ⟨?_, ⟨acc ++ [.ref t], upd_same, by rw [List.length_append, hal]; rfl, fun x hx => ?_⟩, _, _, _, _, _, x7, x8, rfl⟩
      · rw [ew]
        exact sa.trans si'
      · rw [ew]
        rcases List.mem_append.mp hx with hx | hx
        · exact (hacc x hx).keep si'
        · rw [List.mem_singleton.mp hx]
          exact ⟨t, w, _, _, rfl, et, hw.keep si⟩
    · rintro σ' Ha ⟨sa, ⟨acc, hla, hal, hacc⟩, x2, x3, x4, x5, x6, x7, x8, rfl⟩
      have hacc : ∀ x ∈ acc, KeptAt K Ha x := fun x hx => (hacc x hx).keep wo_sub
      walk_at "rd"
      refine rd_revK (sqL_of hla) fun r Hb hr sb er => ?_
      refine rd_cat (sb _ _ hla) er (by rw [List.length_reverse]; omega) fun l2 Hc hl2 sc el2 => ?_
      refine rd_il (sqL_of el2) ?_
      refine forgo walk_list (fun i σ' H' => Same Hc H' ∧ ∃ x2 x3 x4 x5 x6 x7 x8, σ' = [some (.ref a), some (.ref l), x2, x3, x4, x5, x6, x7, x8]) ⟨Same.refl _, _, _, _, _, _, _, _, rfl⟩ (fun i σ' H' _ p => sqL_of (p.1 _ _ el2)) ?_ ?_
      · rintro i x σ' Hd He hi ⟨sd, y2, y3, y4, y5, y6, y7, y8, rfl⟩ ⟨e0, hx⟩
        subst e0
        have hxa : x ∈ acc := by
          have := List.mem_of_getElem? hx
          rcases List.mem_append.mp this with h | h
          · exact h
          · exact List.mem_reverse.mp h
        obtain ⟨t, v, lo, hi2, rfl, et, hT⟩ := (((hacc x hxa).keep sb).keep sc).keep sd
        refine rd_gtup (sqT_of et) rfl ?_
        walk_at "rd"
        refine ⟨v, rfl, hT, ?_⟩
        walk_at "rd"
        refine ⟨v, rfl, hT, ?_⟩
        walk_at "rd"
        refine ⟨v, lo, hi2, rfl, hT, ?_⟩
        walk_at "rd"
        refine rd_tupA (by simp) fun t1 Hf nt1 sf et1 => ?_
        walk_at "rd"
        refine ⟨v, rfl, hT.keep sf, ?_⟩
        walk_at "rd"
        refine ⟨v, rfl, hT.keep sf, fun Hg sg => ?_⟩
        walk_at "rd"
        refine ⟨v, lo, hi2, rfl, (hT.keep sf).keep sg, ?_⟩
        walk_at "rd"
        refine rd_tupA (by simp) fun t2 Hh nt2 sh et2 => ?_
        walk_at "rd"
        have d2 : Dp K Hh (.ref t2) (.tuple [.bool (wholeV v), .bool (nameV v), .bool (withinV v lo hi2)]) := dp_tup et2 (.cons (.bl _) (.cons (.bl _) (.cons (.bl _) .nil)))
        have d1 : Dp K Hh (.ref t1) (.tuple [.bool (wholeV v), .bool (nameV v), .bool (withinV v lo hi2)]) := dp_tup (sh _ _ (sg _ _ et1)) (.cons (.bl _) (.cons (.bl _) (.cons (.bl _) .nil)))
        have w1 : (PyData.tuple [.bool (wholeV v), .bool (nameV v), .bool (withinV v lo hi2)]).showable = true := rfl
        have w2 : (PyData.tuple [.bool (wholeV v), .bool (nameV v), .bool (withinV v lo hi2)]).depth ≤ 60 := by simp [PyData.depth, PyData.depthAll]
        have w3 : (PyData.tuple [.bool (wholeV v), .bool (nameV v), .bool (withinV v lo hi2)]).shown.length ≤ 10000000 := by
          generalize wholeV v = b1
          generalize nameV v = b2
          generalize withinV v lo hi2 = b3
          cases b1 <;> cases b2 <;> cases b3 <;> decide +kernel
        refine rd_reprD d2 w1 w2 w3 ?_
        walk_at "rd"
        refine rd_reprD d1 w1 w2 w3 ?_
        walk_at "rd"
        refine rd_iteD (fun _ => ?_) (fun h => absurd rfl h)
        walk_at "rd"
        exact ⟨(((sd.trans sf).trans sg).trans sh), _, _, _, _, _, _, _, rfl⟩
      · rintro σ' Hd ⟨sd, y2, y3, y4, y5, y6, y7, y8, rfl⟩
        walk_at "rd"
        exact q _

end
theorem all_mk {l : PySem.W.OpenLaw} {w : World} {K : PySem.W.Frag} {h : Heap} {mg : Str → Option Value} {fa : Addr} (X : K.In h) (G : h.Ns mainGlobals mg) (hfa : mg "law" = some (.ref fa))
    {f0 : Addr} {oc0 kV0 dc0 pm0 cd0 ct0 : Value} {od0 an0 : Option Addr} {sl0 : Array (Option Value)}
    (a0 : PySem.W.nsIn K mainGlobals "is_whole" = some (some (.ref f0))) (l0 : K.lookup f0 = some ⟨oc0, od0, .func (PySem.W.fnOf "is_whole" "is_whole" (defArgs s_is_whole) (defBody s_is_whole) (defScope s_is_whole) .none kV0 dc0 pm0 an0 cd0 ct0), sl0⟩) (c0 : PySem.W.codeIn K cd0 "is_whole" = true) (k0 : PySem.W.keepIn K (.ref f0) = true)
    {f1 : Addr} {oc1 kV1 dc1 pm1 cd1 ct1 : Value} {od1 an1 : Option Addr} {sl1 : Array (Option Value)}
    (a1 : PySem.W.nsIn K mainGlobals "is_within" = some (some (.ref f1))) (l1 : K.lookup f1 = some ⟨oc1, od1, .func (PySem.W.fnOf "is_within" "is_within" (defArgs s_is_within) (defBody s_is_within) (defScope s_is_within) .none kV1 dc1 pm1 an1 cd1 ct1), sl1⟩) (c1 : PySem.W.codeIn K cd1 "is_within" = true) (k1 : PySem.W.keepIn K (.ref f1) = true)
    {f2 : Addr} {oc2 kV2 dc2 pm2 cd2 ct2 : Value} {od2 an2 : Option Addr} {sl2 : Array (Option Value)}
    (a2 : PySem.W.nsIn K mainGlobals "is_name" = some (some (.ref f2))) (l2 : K.lookup f2 = some ⟨oc2, od2, .func (PySem.W.fnOf "is_name" "is_name" (defArgs s_is_name) (defBody s_is_name) (defScope s_is_name) .none kV2 dc2 pm2 an2 cd2 ct2), sl2⟩) (c2 : PySem.W.codeIn K cd2 "is_name" = true) (k2 : PySem.W.keepIn K (.ref f2) = true)
    {f3 : Addr} {oc3 kV3 dc3 pm3 cd3 ct3 : Value} {od3 an3 : Option Addr} {sl3 : Array (Option Value)}
    (a3 : PySem.W.nsIn K mainGlobals "_law_cell" = some (some (.ref f3))) (l3 : K.lookup f3 = some ⟨oc3, od3, .func (PySem.W.fnOf "_law_cell" "_law_cell" (defArgs s_law_cell) (defBody s_law_cell) (defScope s_law_cell) .none kV3 dc3 pm3 an3 cd3 ct3), sl3⟩) (c3 : PySem.W.codeIn K cd3 "_law_cell" = true) (k3 : PySem.W.keepIn K (.ref f3) = true)
    {f4 : Addr} {oc4 kV4 dc4 pm4 cd4 ct4 : Value} {od4 an4 : Option Addr} {sl4 : Array (Option Value)}
    (a4 : PySem.W.nsIn K mainGlobals "_law_box" = some (some (.ref f4))) (l4 : K.lookup f4 = some ⟨oc4, od4, .func (PySem.W.fnOf "_law_box" "_law_box" (defArgs s_law_box) (defBody s_law_box) (defScope s_law_box) .none kV4 dc4 pm4 an4 cd4 ct4), sl4⟩) (c4 : PySem.W.codeIn K cd4 "_law_box" = true) (k4 : PySem.W.keepIn K (.ref f4) = true)
    {f5 : Addr} {oc5 kV5 dc5 pm5 cd5 ct5 : Value} {od5 an5 : Option Addr} {sl5 : Array (Option Value)}
    (a5 : PySem.W.nsIn K mainGlobals "_law_take" = some (some (.ref f5))) (l5 : K.lookup f5 = some ⟨oc5, od5, .func (PySem.W.fnOf "_law_take" "_law_take" (defArgs s_law_take) (defBody s_law_take) (defScope s_law_take) .none kV5 dc5 pm5 an5 cd5 ct5), sl5⟩) (c5 : PySem.W.codeIn K cd5 "_law_take" = true) (k5 : PySem.W.keepIn K (.ref f5) = true)
    {f6 : Addr} {oc6 kV6 dc6 pm6 cd6 ct6 : Value} {od6 an6 : Option Addr} {sl6 : Array (Option Value)}
    (a6 : PySem.W.nsIn K mainGlobals "_law_text" = some (some (.ref f6))) (l6 : K.lookup f6 = some ⟨oc6, od6, .func (PySem.W.fnOf "_law_text" "_law_text" (defArgs s_law_text) (defBody s_law_text) (defScope s_law_text) .none kV6 dc6 pm6 an6 cd6 ct6), sl6⟩) (c6 : PySem.W.codeIn K cd6 "_law_text" = true) (k6 : PySem.W.keepIn K (.ref f6) = true)
    {f7 : Addr} {oc7 kV7 dc7 pm7 cd7 ct7 : Value} {od7 an7 : Option Addr} {sl7 : Array (Option Value)}
    (a7 : PySem.W.nsIn K mainGlobals "_law_thing" = some (some (.ref f7))) (l7 : K.lookup f7 = some ⟨oc7, od7, .func (PySem.W.fnOf "_law_thing" "_law_thing" (defArgs s_law_thing) (defBody s_law_thing) (defScope s_law_thing) .none kV7 dc7 pm7 an7 cd7 ct7), sl7⟩) (c7 : PySem.W.codeIn K cd7 "_law_thing" = true) (k7 : PySem.W.keepIn K (.ref f7) = true)
    {f8 : Addr} {oc8 kV8 dc8 pm8 cd8 ct8 : Value} {od8 an8 : Option Addr} {sl8 : Array (Option Value)}
    (a8 : PySem.W.nsIn K mainGlobals "_law_whole" = some (some (.ref f8))) (l8 : K.lookup f8 = some ⟨oc8, od8, .func (PySem.W.fnOf "_law_whole" "_law_whole" (defArgs s_law_whole) (defBody s_law_whole) (defScope s_law_whole) .none kV8 dc8 pm8 an8 cd8 ct8), sl8⟩) (c8 : PySem.W.codeIn K cd8 "_law_whole" = true) (k8 : PySem.W.keepIn K (.ref f8) = true)
    {f9 : Addr} {oc9 kV9 dc9 pm9 cd9 ct9 : Value} {od9 an9 : Option Addr} {sl9 : Array (Option Value)}
    (a9 : PySem.W.nsIn K mainGlobals "_law_name" = some (some (.ref f9))) (l9 : K.lookup f9 = some ⟨oc9, od9, .func (PySem.W.fnOf "_law_name" "_law_name" (defArgs s_law_name) (defBody s_law_name) (defScope s_law_name) .none kV9 dc9 pm9 an9 cd9 ct9), sl9⟩) (c9 : PySem.W.codeIn K cd9 "_law_name" = true) (k9 : PySem.W.keepIn K (.ref f9) = true)
    {f10 : Addr} {oc10 kV10 dc10 pm10 cd10 ct10 : Value} {od10 an10 : Option Addr} {sl10 : Array (Option Value)}
    (a10 : PySem.W.nsIn K mainGlobals "_law_within" = some (some (.ref f10))) (l10 : K.lookup f10 = some ⟨oc10, od10, .func (PySem.W.fnOf "_law_within" "_law_within" (defArgs s_law_within) (defBody s_law_within) (defScope s_law_within) .none kV10 dc10 pm10 an10 cd10 ct10), sl10⟩) (c10 : PySem.W.codeIn K cd10 "_law_within" = true) (k10 : PySem.W.keepIn K (.ref f10) = true)
    {f11 : Addr} {oc11 kV11 dc11 pm11 cd11 ct11 : Value} {od11 an11 : Option Addr} {sl11 : Array (Option Value)}
    (a11 : PySem.W.nsIn K mainGlobals "law" = some (some (.ref f11))) (l11 : K.lookup f11 = some ⟨oc11, od11, .func (PySem.W.fnOf "law" "law" (defArgs s_law) (defBody s_law) (defScope s_law) .none kV11 dc11 pm11 an11 cd11 ct11), sl11⟩) (c11 : PySem.W.codeIn K cd11 "law" = true) (k11 : PySem.W.keepIn K (.ref f11) = true)
    (z_all : PySem.W.nsIn K mainGlobals "all" = some none)
    (z_bool : PySem.W.nsIn K mainGlobals "bool" = some none)
    (z_int : PySem.W.nsIn K mainGlobals "int" = some none)
    (z_isinstance : PySem.W.nsIn K mainGlobals "isinstance" = some none)
    (z_len : PySem.W.nsIn K mainGlobals "len" = some none)
    (z_max : PySem.W.nsIn K mainGlobals "max" = some none)
    (z_min : PySem.W.nsIn K mainGlobals "min" = some none)
    (z_range : PySem.W.nsIn K mainGlobals "range" = some none)
    (z_repr : PySem.W.nsIn K mainGlobals "repr" = some none)
    (z_str : PySem.W.nsIn K mainGlobals "str" = some none)
    {t_LETTERS : Tok} (y_LETTERS : PySem.W.nsIn K mainGlobals "LETTERS" = some (some (.str "abcdefghijklmnopqrstuvwxyz" t_LETTERS)))
    {t_LONGEST_NAME : Tok} (y_LONGEST_NAME : PySem.W.nsIn K mainGlobals "LONGEST_NAME" = some (some (.int 8 t_LONGEST_NAME)))
    : ∃ fd : FuncData, (∀ (s : Shared) (v : Value), BindsTo s fd ⟨[v], []⟩ [("_law_script", v)]) ∧ ∀ base : Heap, K.In base → base.Ns mainGlobals mg → FnOkG l.prog w K mg base 4 fa fd ["_law_script"] (sp_law K) := by
  have e := hfa.symm.trans (PySem.W.mg_of X G a11)
  cases e
  have F0 := fun_mk (st := s_is_whole) l0 c0 k0
  have b0 := F0.binds (ps := ["thing"]) fun _ _ _ _ _ _ us hl => match us, hl with | [_], _ => rfl
  have F1 := fun_mk (st := s_is_within) l1 c1 k1
  have b1 := F1.binds (ps := ["thing", "low", "high"]) fun _ _ _ _ _ _ us hl => match us, hl with | [_, _, _], _ => rfl
  have F2 := fun_mk (st := s_is_name) l2 c2 k2
  have b2 := F2.binds (ps := ["thing"]) fun _ _ _ _ _ _ us hl => match us, hl with | [_], _ => rfl
  have F3 := fun_mk (st := s_law_cell) l3 c3 k3
  have b3 := F3.binds (ps := ["_law_script", "_law_k"]) fun _ _ _ _ _ _ us hl => match us, hl with | [_, _], _ => rfl
  have F4 := fun_mk (st := s_law_box) l4 c4 k4
  have b4 := F4.binds (ps := ["_law_cell_here"]) fun _ _ _ _ _ _ us hl => match us, hl with | [_], _ => rfl
  have F5 := fun_mk (st := s_law_take) l5 c5 k5
  have b5 := F5.binds (ps := ["_law_box_here", "_law_many"]) fun _ _ _ _ _ _ us hl => match us, hl with | [_, _], _ => rfl
  have F6 := fun_mk (st := s_law_text) l6 c6 k6
  have b6 := F6.binds (ps := ["_law_box_here"]) fun _ _ _ _ _ _ us hl => match us, hl with | [_], _ => rfl
  have F7 := fun_mk (st := s_law_thing) l7 c7 k7
  have b7 := F7.binds (ps := ["_law_box_here", "_law_low", "_law_high"]) fun _ _ _ _ _ _ us hl => match us, hl with | [_, _, _], _ => rfl
  have F8 := fun_mk (st := s_law_whole) l8 c8 k8
  have b8 := F8.binds (ps := ["_law_thing_here"]) fun _ _ _ _ _ _ us hl => match us, hl with | [_], _ => rfl
  have F9 := fun_mk (st := s_law_name) l9 c9 k9
  have b9 := F9.binds (ps := ["_law_thing_here"]) fun _ _ _ _ _ _ us hl => match us, hl with | [_], _ => rfl
  have F10 := fun_mk (st := s_law_within) l10 c10 k10
  have b10 := F10.binds (ps := ["_law_thing_here", "_law_low", "_law_high"]) fun _ _ _ _ _ _ us hl => match us, hl with | [_, _, _], _ => rfl
  have F11 := fun_mk (st := s_law) l11 c11 k11
  have b11 := F11.binds (ps := ["_law_script"]) fun _ _ _ _ _ _ us hl => match us, hl with | [_], _ => rfl
  exact ⟨_, fun s v => .of_eq rfl, fun base _ _ => ok_law (T := { a_is_whole := f0, d_is_whole := _, F_is_whole := F0, g_is_whole := PySem.W.mg_of X G a0, b_is_whole := b0, a_is_within := f1, d_is_within := _, F_is_within := F1, g_is_within := PySem.W.mg_of X G a1, b_is_within := b1, a_is_name := f2, d_is_name := _, F_is_name := F2, g_is_name := PySem.W.mg_of X G a2, b_is_name := b2, a_law_cell := f3, d_law_cell := _, F_law_cell := F3, g_law_cell := PySem.W.mg_of X G a3, b_law_cell := b3, a_law_box := f4, d_law_box := _, F_law_box := F4, g_law_box := PySem.W.mg_of X G a4, b_law_box := b4, a_law_take := f5, d_law_take := _, F_law_take := F5, g_law_take := PySem.W.mg_of X G a5, b_law_take := b5, a_law_text := f6, d_law_text := _, F_law_text := F6, g_law_text := PySem.W.mg_of X G a6, b_law_text := b6, a_law_thing := f7, d_law_thing := _, F_law_thing := F7, g_law_thing := PySem.W.mg_of X G a7, b_law_thing := b7, a_law_whole := f8, d_law_whole := _, F_law_whole := F8, g_law_whole := PySem.W.mg_of X G a8, b_law_whole := b8, a_law_name := f9, d_law_name := _, F_law_name := F9, g_law_name := PySem.W.mg_of X G a9, b_law_name := b9, a_law_within := f10, d_law_within := _, F_law_within := F10, g_law_within := PySem.W.mg_of X G a10, b_law_within := b10, a_law := fa, d_law := _, F_law := F11, g_law := PySem.W.mg_of X G a11, b_law := b11, m_all := PySem.W.mg_none_of X G z_all, m_bool := PySem.W.mg_none_of X G z_bool, m_int := PySem.W.mg_none_of X G z_int, m_isinstance := PySem.W.mg_none_of X G z_isinstance, m_len := PySem.W.mg_none_of X G z_len, m_max := PySem.W.mg_none_of X G z_max, m_min := PySem.W.mg_none_of X G z_min, m_range := PySem.W.mg_none_of X G z_range, m_repr := PySem.W.mg_none_of X G z_repr, m_str := PySem.W.mg_none_of X G z_str, c_LETTERS := ⟨_, PySem.W.mg_of X G y_LETTERS, ⟨_, rfl⟩⟩, c_LONGEST_NAME := ⟨_, PySem.W.mg_of X G y_LONGEST_NAME, ⟨_, rfl⟩⟩ })⟩
end My
open PySem PySem.W PyProof.Rows
set_option maxHeartbeats 0 in
theorem PySem.Challenge.cw_iceopened_k01_words_of_anything_holds : PySem.Challenge.rw_iceopened_k01_words_of_anything.Holds := by
  w_on; o_law; k_head; (case hw => w_witness2)
  k_fill
  refine My.walk_ofG (l := PySem.Challenge.rw_iceopened_k01_words_of_anything) (n := 63) (k := 4) (x := "_law_script") (sp := fun w => My.sp_law _) rfl (by decide) rfl ⟨rfl, by decide, by decide⟩ (fun w h Y => PySem.W.kIn_of Y) ?F (fun _ _ a ns hl _ _ hS => ⟨a, ns, rfl, hS, hl, fun _ => rfl⟩)
  case F =>
    intro w mg fa h KX G hmg
    refine' My.all_mk KX G hmg ?a0 ?l0 ?c0 ?k0 ?a1 ?l1 ?c1 ?k1 ?a2 ?l2 ?c2 ?k2 ?a3 ?l3 ?c3 ?k3 ?a4 ?l4 ?c4 ?k4 ?a5 ?l5 ?c5 ?k5 ?a6 ?l6 ?c6 ?k6 ?a7 ?l7 ?c7 ?k7 ?a8 ?l8 ?c8 ?k8 ?a9 ?l9 ?c9 ?k9 ?a10 ?l10 ?c10 ?k10 ?a11 ?l11 ?c11 ?k11 ?z_all ?z_bool ?z_int ?z_isinstance ?z_len ?z_max ?z_min ?z_range ?z_repr ?z_str ?y_LETTERS ?y_LONGEST_NAME
    (case a0 => k_is); (case l0 => k_is); (case c0 => k_is); (case k0 => k_is); (case a1 => k_is); (case l1 => k_is); (case c1 => k_is); (case k1 => k_is)
    (case a2 => k_is); (case l2 => k_is); (case c2 => k_is); (case k2 => k_is); (case a3 => k_is); (case l3 => k_is); (case c3 => k_is); (case k3 => k_is)
    (case a4 => k_is); (case l4 => k_is); (case c4 => k_is); (case k4 => k_is); (case a5 => k_is); (case l5 => k_is); (case c5 => k_is); (case k5 => k_is)
    (case a6 => k_is); (case l6 => k_is); (case c6 => k_is); (case k6 => k_is); (case a7 => k_is); (case l7 => k_is); (case c7 => k_is); (case k7 => k_is)
    (case a8 => k_is); (case l8 => k_is); (case c8 => k_is); (case k8 => k_is); (case a9 => k_is); (case l9 => k_is); (case c9 => k_is); (case k9 => k_is)
    (case a10 => k_is); (case l10 => k_is); (case c10 => k_is); (case k10 => k_is); (case a11 => k_is); (case l11 => k_is); (case c11 => k_is); (case k11 => k_is)
    (case z_all => k_is); (case z_bool => k_is); (case z_int => k_is); (case z_isinstance => k_is); (case z_len => k_is); (case z_max => k_is); (case z_min => k_is); (case z_range => k_is)
    (case z_repr => k_is); (case z_str => k_is); (case y_LETTERS => k_is); (case y_LONGEST_NAME => k_is)
