import PyProof.Rows.All
import Wide.All
import OpenK.AllK
import Wide.FinOn
import HandS.ForMost
import HandS.Exc
import HandS.TryOnly
import HandS.ExcOwn
import HandS.WordsExc
import HandS.IsInst
import HandS.Style
import HandS.Codes
import HandS.Wide
import HandS.TupAny
import HandS.EndBits
import KE.IntTextLaws
import HandS.NoneIn
import HandS.More
import HandS.Walk
import PySem.Challenge.RW_iceopened_k02_numbers_written
set_option Elab.async false
set_option linter.all false
set_option maxRecDepth 100000
set_option maxHeartbeats 4000000
/-! ### P0: more rules over the hand layer, and a tactic for readings (walk_at "rd") -/
namespace My
open PySem PySem.Spec PyProof.Rows L2

/-! #### values that repr shows without looking into the heap -/
def shown0 : V → Option Str
  | .non => some "None"
  | .bl b => some (if b then "True" else "False")
  | .int i => if i.natAbs.log2 < 1920 then some (toString i) else none
  | .str x => if (reprText x).length ≤ sizeLine then some (reprText x) else none
  | _ => none
def rRepr0 : List V → Hp → VK → Prop := fun xs H Q => ∃ v t, xs = [v] ∧ shown0 v = some t ∧ Q (.str t) H
section
variable {X : Cx}
theorem call_repr0 : CallR X (.builtin "repr") rRepr0 := by
  intro pins s σ H xs us Q I r h
  obtain ⟨v, t, rfl, e, q⟩ := h
  obtain ⟨u, rfl, r1⟩ := vals1 r
  cases v with
  | non =>
    cases (show u = Value.none from r1)
    cases e
    exact PySem.P.repr_of_none ⟨.str _, H, I.tok _, ⟨_, rfl⟩, q⟩
  | bl b =>
    cases (show u = Value.bool b from r1)
    cases e
    exact PySem.P.repr_of_bool ⟨.str _, H, I.tok _, ⟨_, rfl⟩, q⟩
  | int i =>
    obtain ⟨t', rfl⟩ := (show ∃ t, u = Value.int i t from r1)
    have e' : (if i.natAbs.log2 < 1920 then some (toString i : Str) else none) = some t := e
    split at e'
    · rename_i hz
      cases e'
      exact PySem.P.repr_of_int hz ⟨.str _, H, I.tok _, ⟨_, rfl⟩, q⟩
    · cases e'
  | str x =>
    obtain ⟨t', rfl⟩ := (show ∃ t, u = Value.str x t from r1)
    have e' : (if (reprText x).length ≤ sizeLine then some (reprText x) else none) = some t := e
    split at e'
    · rename_i hz
      cases e'
      exact PySem.P.repr_of_str ⟨.str _, H, I.tok _, ⟨_, rfl⟩, q⟩ hz
    · cases e'
  | byt _ => cases e
  | flt _ => cases e
  | ref _ => cases e
  | ty _ => cases e

/-! #### a text times a small number -/
def rRepS : R2 := fun x y H Q => ∃ a n, x = .str a ∧ y = .int n ∧ MulOk a n ∧ Q (.str (Txt.mul a n)) H
theorem op_repS : OpR X (binaryOp .Mult) rRepS := by
  intro pins s σ H x y v u Q I rx ry h
  obtain ⟨a, n, rfl, rfl, hm, q⟩ := h
  obtain ⟨t, rfl⟩ := rx
  obtain ⟨t', rfl⟩ := ry
  exact SB.mul hm fun t2 k => ⟨.str _, H, I.tok k, ⟨_, rfl⟩, q⟩
end

/-! #### rules with the written part named -/
section
variable {X : Cx} {K : PySem.W.Frag}
theorem ixK (h : X.K = K) : IxR X (rIx K) := h ▸ ix_seq
theorem ixLK (h : X.K = K) : IxR X (rIxL K) := h ▸ ix_list
theorem ixTK (h : X.K = K) : IxR X (rIxT K) := h ▸ ix_tup
def rLenA (K : PySem.W.Frag) : List V → Hp → VK → Prop := fun xs H Q => ∃ x n, xs = [x] ∧ LenV K x H n ∧ Q (.int n) H
theorem lenK (h : X.K = K) : CallR X (.builtin "len") (rLenA K) := h ▸ call_len
theorem isiK (h : X.K = K) : CallR X (.builtin "isinstance") (rIsi K) := h ▸ call_isi
theorem isiTK (h : X.K = K) : CallR X (.builtin "isinstance") (rIsiT K) := h ▸ call_isiT
theorem allK (h : X.K = K) (hc : X.calm = true) : CallR X (.builtin "all") (rAll K) := h ▸ cr_all hc
theorem anyK (h : X.K = K) (hc : X.calm = true) : CallR X (.builtin "any") (rAny K) := h ▸ cr_any hc
theorem slLK (h : X.K = K) : SlR X (rSlL K) := h ▸ sl_list
theorem pi_listK {tg l : Expr} {tl : TE} (h : X.K = K) (hl : PE X l tl) : PI X tg l (iList K tl) := h ▸ pi_list hl
theorem pi_tupK {tg l : Expr} {tl : TE} (h : X.K = K) (hl : PE X l tl) : PI X tg l (iTup K tl) := h ▸ pi_tup hl
theorem pe_revLK {e : Expr} {te : TE} {k : Nat} {p1 p2 p3 pos : Pos} (h : X.K = K) (he : PE X e te) : PE X (.Subscript e (.Slice none none (some (.UnaryOp .USub (.Constant (.int 1) k p1) p2)) p3) pos) (tRevL K te) := h ▸ pe_revL he
def rAddSt : R2 := fun x y H Q => ∃ i j, x = .str i ∧ y = .str j ∧ i.length + j.length ≤ sizeLine ∧ Q (.str (i ++ j)) H
theorem addS : OpR X (binaryOp .Add) rAddSt := op_add_str
def rInSg : R2 := fun x y H Q => ∃ (c : Nat) (z : Str), x = .str ⟨#[c]⟩ ∧ y = .str z ∧ Q (.bl (decide (c ∈ z.cps.toList))) H
theorem inSg : OpR X (compareOp .In) rInSg := op_in_sign
def rNotInSg : R2 := fun x y H Q => ∃ (c : Nat) (z : Str), x = .str ⟨#[c]⟩ ∧ y = .str z ∧ Q (.bl (!decide (c ∈ z.cps.toList))) H
theorem notInSg : OpR X (compareOp .NotIn) rNotInSg := op_notIn_sign
def rIntS : List V → Hp → VK → Prop := fun xs H Q => ∃ a n, xs = [.str a] ∧ PySem.intText? a = some n ∧ a.length ≤ 640 ∧ Q (.int n) H
theorem intS : CallR X (.type "int") rIntS := call_int_str
def rStrI : List V → Hp → VK → Prop := fun xs H Q => ∃ i : Int, xs = [.int i] ∧ i.natAbs.log2 < 1920 ∧ Q (.str (toString i)) H
theorem strI : CallR X (.type "str") rStrI := call_str_int
def rMax2 : List V → Hp → VK → Prop := fun xs H Q => ∃ i j, xs = [.int i, .int j] ∧ Q (.int (if j > i then j else i)) H
theorem max2 (hc : X.calm = true) : CallR X (.builtin "max") rMax2 := call_max2 hc
def rMin2 : List V → Hp → VK → Prop := fun xs H Q => ∃ i j, xs = [.int i, .int j] ∧ Q (.int (if j < i then j else i)) H
theorem min2 (hc : X.calm = true) : CallR X (.builtin "min") rMin2 := call_min2 hc
def rFind : V → List V → Hp → VK → Prop := fun x xs H Q => ∃ a b, x = .str a ∧ xs = [.str b] ∧ Q (.int (Txt.find a b)) H
theorem findS : MtR X "str.find" rFind := mt_find
theorem pe_joinK {o e : Expr} {to te : TE} {pos apos : Pos} (h : X.K = K) (ho : PE X o to) (he : PE X e te) (hs : starEach [e] X.env = [(false, eval e X.env)] := by rfl) (hbase : attributeBase o "join" X.env (eval o X.env) = eval o X.env := by rfl)
    (hline : (apos.endLine == pos.line) = true := by rfl) :
    PE X (.Call (.Attribute o "join" apos) [e] [] pos) (tM1 (fun x xs H Q => ∃ a p, ∃ ys : List Str, x = .str a ∧ xs = [.ref p] ∧ (SqL K H p (ys.map V.str) ∨ SqT K H p (ys.map V.str)) ∧ (ys.map (·.length)).sum + ys.length * a.length ≤ 16777216 ∧ Q (.str (Txt.join a ys)) H) to te) := by
  subst h
  exact pe_join ho he hs hbase hline
end

/-! #### a list that is set aside while an expression is evaluated -/
/-- the heap without what stands at D -/
def Wo (D : Addr) (H : Hp) : Hp := fun b => if b = D then none else H b
theorem wo_same {D : Addr} {H : Hp} : Wo D H D = none := if_pos rfl
theorem wo_ne {D b : Addr} {H : Hp} (h : b ≠ D) : Wo D H b = H b := if_neg h
theorem wo_upd {D : Addr} {H : Hp} {o : HO} (h : H D = none) : Wo D (upd H D o) = H := by
  funext b
  by_cases e : b = D
  · subst e
    rw [wo_same, h]
  · rw [wo_ne e, upd_ne e]
def tFrm (te : TE) : TE := fun σ H Q => ∃ (D : Addr) (xs : List V), H D = some (.lst xs) ∧ te σ (Wo D H) fun v H' => H' D = none → Q v (upd H' D (.lst xs))
theorem pe_frm {X : Cx} {e : Expr} {te : TE} (he : PE X e te) : PE X e (tFrm te) := by
  refine ⟨fun pins s σ H Q I h => ?_⟩
  obtain ⟨D, xs, hD, h⟩ := h
  obtain ⟨hz, its, n, rv, hg⟩ := (show ObjOk X.prog X.w H s.heap D (.lst xs) from I.hok D _ hD)
  have nD : ∀ b, H b = none → b ≠ D := fun b hb e => by rw [e, hD] at hb; cases hb
  have nO : ∀ b o, H b = some o → o ≠ .lst xs → b ≠ D := fun b o hb ho e => by rw [e, hD] at hb; exact ho (Option.some.inj hb).symm
  have I2 : Inv X ((D, { cls := .type "list", data := .seq its.toArray n }) :: pins) σ (Wo D H) s := by
    refine ⟨I.ok, I.os, I.bare, ⟨I.base.keep, I.base.slot, fun b o e1 e2 e3 => ?_, I.base.there, fun b ys e => ?_, fun b o u e => ?_, fun b ps e => ?_⟩, I.loc, I.cell, ?_, fun x c e => ?_, fun p hp => ?_, fun a o e => ?_, I.len⟩
    · have q := I.base.free b o e1 e2 e3
      rw [wo_ne (nD b q)]
      exact q
    · have q := I.base.tups b ys e
      rw [wo_ne (nO b _ q (fun z => by cases z))]
      exact q
    · have q := I.base.frzs b o u e
      rw [wo_ne (nO b _ q (fun z => by cases z))]
      exact q
    · obtain ⟨m, q⟩ := I.base.tbls b ps e
      exact ⟨m, by rw [wo_ne (nO b _ q (fun z => by cases z))]; exact q⟩
    · rw [wo_ne (nD _ I.free)]
      exact I.free
    · rw [wo_ne (nD _ (I.freeC x c e))]
      exact I.freeC x c e
    · have old : ∀ p ∈ X.pn ++ pins, s.heap.get? p.1 = some p.2 ∧ Wo D H p.1 = none ∧ p.1 ≠ X.env.locals ∧ p.1 ∉ X.fs ∧ ∀ v, p.2.data ≠ .cell v := fun p hp => by
        obtain ⟨a1, a2, a3, a4, a5⟩ := I.pin p hp
        exact ⟨a1, by rw [wo_ne (nD _ a2)]; exact a2, a3, a4, a5⟩
      rcases List.mem_append.mp hp with hp | hp
      · exact old p (List.mem_append_left _ hp)
      · rcases List.mem_cons.mp hp with rfl | hp
        · refine ⟨hg, wo_same, fun z => nD _ I.free z.symm, fun z => ?_, fun v z => by cases z⟩
          by_cases hf : H D = none
          · rw [hD] at hf
            cases hf
          · obtain ⟨_, ob, ho, _⟩ := I.ok.funs.mem z
            exact hf (I.base.free D ob ho (I.ok.frf D z) fun y => I.ok.exfs D y z)
        · exact old p (List.mem_append_right _ hp)
    · by_cases ha : a = D
      · subst ha
        rw [wo_same] at e
        cases e
      · rw [wo_ne ha] at e
        refine (I.hok a o e).stay (fun b u _ q => q) (fun b q => ?_) fun b ys q => ?_
        · rw [wo_ne (nO b _ q (fun z => by cases z))]
          exact q
        · rw [wo_ne (nO b _ q (fun z => by cases z))]
          exact q
  refine thn (he.run _ s σ (Wo D H) _ I2 h) fun u s1 hh => ?_
  obtain ⟨v, H', I', r, q⟩ := hh
  obtain ⟨p1, p2, p3, p4, _⟩ := I'.pin (D, { cls := .type "list", data := .seq its.toArray n }) (List.mem_append_right _ List.mem_cons_self)
  have p1 : s1.heap.get? D = some { cls := .type "list", data := .seq its.toArray n } := p1
  have p2 : H' D = none := p2
  have mD : ∀ b o, H' b = some o → b ≠ D := fun b o e z => by rw [z, p2] at e; cases e
  refine ⟨v, upd H' D (.lst xs), ⟨I'.ok, I'.os, I'.bare, ⟨I'.base.keep, I'.base.slot, fun b o e1 e2 e3 => ?_, I'.base.there, fun b ys e => ?_, fun b o u e => ?_, fun b ps e => ?_⟩, I'.loc, I'.cell, ?_, fun x c e => ?_, fun p hp => ?_, fun a o e => ?_, I'.len⟩, r, q p2⟩
  · rw [upd_ne (nD _ (I.base.free b o e1 e2 e3))]
    exact I'.base.free b o e1 e2 e3
  · have z := I'.base.tups b ys e
    rw [upd_ne (mD _ _ z)]
    exact z
  · have z := I'.base.frzs b o u e
    rw [upd_ne (mD _ _ z)]
    exact z
  · obtain ⟨m, z⟩ := I'.base.tbls b ps e
    exact ⟨m, by rw [upd_ne (mD _ _ z)]; exact z⟩
  · rw [upd_ne (fun z => p3 z.symm)]
    exact I'.free
  · rw [upd_ne (nD _ (I.freeC x c e))]
    exact I'.freeC x c e
  · obtain ⟨a1, a2, a3, a4, a5⟩ := I'.pin p (by
      rcases List.mem_append.mp hp with hp | hp
      · exact List.mem_append_left _ hp
      · exact List.mem_append_right _ (List.mem_cons_of_mem _ hp))
    exact ⟨a1, by rw [upd_ne (nD _ (I.pin p hp).2.1)]; exact a2, a3, a4, a5⟩
  · by_cases ha : a = D
    · subst ha
      rw [upd_same] at e
      cases e
      exact ⟨hz, its, n, rv, p1⟩
    · rw [upd_ne ha] at e
      refine (I'.hok a o e).stay (fun b u _ q => q) (fun b z => ?_) fun b ys z => ?_
      · rw [upd_ne (mD _ _ z)]
        exact z
      · rw [upd_ne (mD _ _ z)]
        exact z

/-! #### readings, one step each -/
section
variable {K : PySem.W.Frag} {σ : L2.St} {H : Hp} {i : Nat} {v x y : V} {Q : VK} {r : R2} {ta tb te : TE} {D : Ends} {t u : TS} {tt tu : TT} {g : TG} {tr : TA}
theorem rd_var (h : σ[i]? = some (some v)) (q : Q v H) : tVar i σ H Q := ⟨v, h, q⟩
theorem rd_c (q : Q v H) : tC v σ H Q := q
theorem rd_op (h : ta σ H fun x H1 => tb σ H1 fun y H2 => r x y H2 Q) : tOp r ta tb σ H Q := h
theorem rd_seq (h : t { D with nx := u D } σ H) : tSeq t u D σ H := h
theorem rd_asg (h : te σ H fun x H1 => g x σ H1 D.nx) : tAsg te g D σ H := h
theorem rd_name {P : L2.St → Hp → Prop} (h : P (σ.set i (some v)) H) : gName i v σ H P := h
theorem rd_next (h : D.nx σ H) : tNext D σ H := h
theorem rd_ret (h : te σ H D.rt) : tRet te D σ H := h
theorem rd_retN (h : D.rt .non H) : tRetN D σ H := h
theorem rd_drop (h : te σ H fun _ H1 => D.nx σ H1) : tDrop te D σ H := h
theorem rd_ifS {tc : TT} (h : tc σ H fun b H1 => if b = true then t D σ H1 else u D σ H1) : tIfS tc t u D σ H := h
theorem rd_if {tc : TT} (h : tc σ H fun c H1 => if c = true then ta σ H1 Q else tb σ H1 Q) : tIf tc ta tb σ H Q := h
theorem rd_test {P : Bool → Hp → Prop} (h : te σ H fun x H' => ∃ k, x = .bl k ∧ P k H') : tTest te σ H P := h
theorem rd_B {P : Bool → Hp → Prop} (h : te σ H fun x H' => ∃ k, x = .bl k ∧ P k H') : tB te σ H P := h
theorem rd_not {P : Bool → Hp → Prop} (h : tt σ H fun c H1 => P (!c) H1) : tNot tt σ H P := h
theorem rd_and {P : Bool → Hp → Prop} (h : tt σ H fun c H1 => if c = true then tu σ H1 P else P false H1) : tAnd tt tu σ H P := h
theorem rd_or {P : Bool → Hp → Prop} (h : tt σ H fun c H1 => if c = true then P true H1 else tu σ H1 P) : tOr tt tu σ H P := h
theorem rd_nil {P : List V → Hp → Prop} (h : P [] H) : tNil σ H P := h
theorem rd_cons {P : List V → Hp → Prop} (h : te σ H fun x H1 => tr σ H1 fun xs H2 => P (x :: xs) H2) : tCons te tr σ H P := h
theorem rd_cb {rr : List V → Hp → VK → Prop} (h : tr σ H fun vs H1 => rr vs H1 Q) : tCB rr tr σ H Q := h
theorem rd_call {sp : Sp} {dvs : List V} {E : XK} (h : tr σ H fun vs H1 => sp (vs ++ dvs) H1 Q E) : tCall sp dvs E tr σ H Q := h
theorem rd_I0 {f : Int → Int → V} {a b : Int} (h : Q (f a b) H) : rI0 f (.int a) (.int b) H Q := ⟨a, b, rfl, rfl, h⟩
theorem rd_I {C : Int → Int → Prop} {f : Int → Int → V} {a b : Int} (hc : C a b) (h : Q (f a b) H) : rI C f (.int a) (.int b) H Q := ⟨a, b, rfl, rfl, hc, h⟩
theorem rd_eq (h : scal x y = true) (q : Q (.bl (decide (x = y))) H) : rEq x y H Q := ⟨h, q⟩
theorem rd_ne (h : scal x y = true) (q : Q (.bl (!decide (x = y))) H) : rNe x y H Q := ⟨h, q⟩
theorem rd_ex_bl {P : Bool → Prop} {b : Bool} (h : P b) : ∃ k, V.bl b = V.bl k ∧ P k := ⟨b, rfl, h⟩
theorem rd_un {rr : V → Hp → VK → Prop} (h : ta σ H fun x H1 => rr x H1 Q) : tUn rr ta σ H Q := h
theorem rd_U {f : Int → V} {a : Int} (h : Q (f a) H) : rU f (.int a) H Q := ⟨a, rfl, h⟩
theorem rd_chain {r' : R2} {tc : TE} (h : ta σ H fun x H1 => tb σ H1 fun y H2 => r x y H2 fun z H3 => ∃ k, z = .bl k ∧ (if k = true then tc σ H3 fun w' H4 => r' y w' H4 Q else Q (.bl false) H3)) : tChain r r' ta tb tc σ H Q := h
/-- what a new list, a new tuple hands on -/
def LstK (Q : VK) : List V → Hp → Prop := fun xs H1 => xs.length ≤ sizeLine ∧ ∀ p, H1 p = none → Q (.ref p) (upd H1 p (.lst xs))
def TupK (Q : VK) : List V → Hp → Prop := fun xs H1 => xs.length ≤ sizeLine ∧ ∀ p, H1 p = none → Q (.ref p) (upd H1 p (.tup xs))
theorem rd_lst (h : tr σ H (LstK Q)) : tLst tr σ H Q := h
theorem rd_tup (h : tr σ H (TupK Q)) : tTup tr σ H Q := h
theorem rd_andV (h : ta σ H fun x H1 => ∃ c, x = .bl c ∧ if c = true then tb σ H1 Q else Q (.bl false) H1) : tAndV ta tb σ H Q := h
theorem rd_orV (h : ta σ H fun x H1 => ∃ c, x = .bl c ∧ if c = true then Q (.bl true) H1 else tb σ H1 Q) : tOrV ta tb σ H Q := h
theorem rd_notV (h : ta σ H fun x H1 => ∃ c, x = .bl c ∧ Q (.bl (!c)) H1) : tNotV ta σ H Q := h
theorem rd_sub {tt3 : V → V → V → Hp → (Hp → Prop) → Prop} {P : L2.St → Hp → Prop} (h : ta σ H fun o H1 => tb σ H1 fun i H2 => tt3 o i v H2 fun H3 => P σ H3) : gSub ta tb tt3 v σ H P := h
theorem rd_ite {c : Prop} [Decidable c] {A B : Prop} (h1 : c → A) (h2 : ¬ c → B) : if c then A else B := ite2 h1 h2
theorem rd_iteD {c : Prop} [Decidable c] {A B : Prop} (h1 : c → A) (h2 : ¬ c → B) : if decide c = true then A else B := by
  by_cases h : c
  · rw [if_pos (decide_eq_true h)]; exact h1 h
  · rw [if_neg (by simpa using h)]; exact h2 h
theorem rd_iteN {b : Bool} {A B : Prop} (h : if b = true then B else A) : if (!b) = true then A else B := by
  cases b with
  | true => exact iteF (by simpa using h)
  | false => exact iteT (by simpa using h)
theorem rd_iteND {c : Prop} [Decidable c] {A B : Prop} (h1 : c → B) (h2 : ¬ c → A) : if (!decide c) = true then A else B := rd_iteN (rd_iteD h1 h2)
theorem rd_ixL {xs : List V} {p : Addr} {k : Int} (h : SqL K H p xs) (ha : atI xs k = some v) (q : Q v H) : rIx K (.ref p) (.int k) H Q := .inl ⟨p, xs, k, v, rfl, rfl, h, ha, q⟩
theorem rd_ixL1 {xs : List V} {p : Addr} {k : Int} (h : SqL K H p xs) (ha : atI xs k = some v) (q : Q v H) : rIxL K (.ref p) (.int k) H Q := ⟨p, xs, k, v, rfl, rfl, h, ha, q⟩
theorem rd_ixT {xs : List V} {p : Addr} {k : Int} (h : SqT K H p xs) (ha : atI xs k = some v) (q : Q v H) : rIx K (.ref p) (.int k) H Q := .inr (.inl ⟨p, xs, k, v, rfl, rfl, h, ha, q⟩)
theorem rd_ixT1 {xs : List V} {p : Addr} {k : Int} (h : SqT K H p xs) (ha : atI xs k = some v) (q : Q v H) : rIxT K (.ref p) (.int k) H Q := ⟨p, xs, k, v, rfl, rfl, h, ha, q⟩
theorem rd_ixS {z : Str} {k : Int} {c : Nat} (h : z.length ≤ sizeLine) (ha : atI z.cps.toList k = some c) (q : Q (.str ⟨#[c]⟩) H) : rIx K (.str z) (.int k) H Q := .inr (.inr ⟨z, k, c, rfl, rfl, h, ha, q⟩)
theorem rd_ixS1 {z : Str} {k : Int} {c : Nat} (h : z.length ≤ sizeLine) (ha : atI z.cps.toList k = some c) (q : Q (.str ⟨#[c]⟩) H) : rIxS (.str z) (.int k) H Q := ⟨z, k, c, rfl, rfl, h, ha, q⟩
theorem rd_modA {i j : Int} (hj : 0 < j) (q : ∀ r, 0 ≤ r → r < j → Q (.int r) H) : rI (fun _ j => 0 < j) (fun i j => .int (i % j)) (.int i) (.int j) H Q :=
  ⟨i, j, rfl, rfl, hj, q _ (Int.emod_nonneg _ (by omega)) (Int.emod_lt_of_pos _ hj)⟩
theorem rd_setL {p : Addr} {xs : List V} {k : Int} {j : Nat} {P : Hp → Prop} (h : H p = some (.lst xs)) (hj : ixN xs.length k = some j) (q : P (upd H p (.lst (xs.set j v)))) : rSetL (.ref p) (.int k) v H P := ⟨p, xs, k, j, rfl, rfl, h, hj, q⟩
theorem rd_isi {t n : String} {b : Bool} (ty : TyX K H v (.type t)) (k : kitB t n = some b) (q : Q (.bl b) H) : rIsi K [v, .ty n] H Q := ⟨v, .ty n, _, _, b, rfl, ClsV.ty n, ty, kit_ty k, q⟩
theorem rd_lenS {z : Str} (h : z.length ≤ sizeLine) (q : Q (.int (z.length : Nat)) H) : rLenA K [.str z] H Q := ⟨_, _, rfl, ⟨h, rfl⟩, q⟩
theorem rd_lenL {p : Addr} {xs : List V} (h : SqL K H p xs) (q : Q (.int (xs.length : Nat)) H) : rLenA K [.ref p] H Q := ⟨_, _, rfl, .inl ⟨_, h, rfl⟩, q⟩
theorem rd_lenT {p : Addr} {xs : List V} (h : SqT K H p xs) (q : Q (.int (xs.length : Nat)) H) : rLenA K [.ref p] H Q := ⟨_, _, rfl, .inr ⟨_, h, rfl⟩, q⟩
theorem rd_inS {z : Str} {c : Nat} (q : Q (.bl (decide (c ∈ z.cps.toList))) H) : rInSg (.str ⟨#[c]⟩) (.str z) H Q := ⟨c, z, rfl, rfl, q⟩
theorem rd_notInS {z : Str} {c : Nat} (q : Q (.bl (!decide (c ∈ z.cps.toList))) H) : rNotInSg (.str ⟨#[c]⟩) (.str z) H Q := ⟨c, z, rfl, rfl, q⟩
theorem rd_max2 {a b : Int} (q : ∀ c : Int, (c = a ∧ b ≤ a ∨ c = b ∧ a < b) → Q (.int c) H) : rMax2 [.int a, .int b] H Q := ⟨a, b, rfl, q _ (by by_cases h : b > a <;> simp [h] <;> omega)⟩
theorem rd_min2 {a b : Int} (q : ∀ c : Int, (c = a ∧ a ≤ b ∨ c = b ∧ b < a) → Q (.int c) H) : rMin2 [.int a, .int b] H Q := ⟨a, b, rfl, q _ (by by_cases h : b < a <;> simp [h] <;> omega)⟩
theorem rd_find {a b : Str} (q : Q (.int (Txt.find a b)) H) : rFind (.str a) [.str b] H Q := ⟨a, b, rfl, rfl, q⟩
theorem rd_m1 {rr : V → List V → Hp → VK → Prop} (h : ta σ H fun x H1 => (∃ a, x = .str a) ∧ tb σ H1 fun y H2 => rr x [y] H2 Q) : tM1 rr ta tb σ H Q := h
theorem rd_exStr {a : Str} {B : Prop} (h : B) : (∃ b, V.str a = V.str b) ∧ B := ⟨⟨a, rfl⟩, h⟩
theorem small_sz {n : Nat} (h : n ≤ 100000) : n ≤ sizeLine := Nat.le_trans h (by decide)
/-- what a comprehension's turn hands on: the list at D has one more item -/
def LcK (n : Nat) (D : Addr) (Pv : Nat → List V → Hp → Prop) (i : Nat) : VK := fun y H4 => ∃ acc, H4 D = some (.lst acc) ∧ acc.length < sizeLine ∧ ∃ acc', acc'.length = i + 1 ∧ (upd H4 D (.lst (acc ++ [y]))) D = some (.lst acc') ∧ Pv (i + 1) acc' (upd H4 D (.lst (acc ++ [y])))
theorem lcK {n : Nat} {D : Addr} {Pv : Nat → List V → Hp → Prop} {i : Nat} {y : V} {H4 : Hp} {acc : List V} (h : H4 D = some (.lst acc)) (hl : acc.length = i) (hn : i < n) (hz : n ≤ 100000) (hp : Pv (i + 1) (acc ++ [y]) (upd H4 D (.lst (acc ++ [y])))) : LcK n D Pv i y H4 :=
  ⟨acc, h, Nat.lt_of_lt_of_le (show acc.length < 100000 by omega) (by decide), acc ++ [y], by rw [List.length_append, hl]; rfl, upd_same, hp⟩
theorem lc_yes {J : It} {n : Nat} {G : Hp → Prop} {Y : Nat → Hp → V → Hp → Prop} (w : Walk J n G Y) {te : TE} {vs : List Nat} {σ : L2.St} {H1 : Hp} {D : Addr} {Qd : Hp → Prop} (Pv : Nat → List V → Hp → Prop) (h0 : Pv 0 [] (upd H1 D (.lst [])))
    (hG : ∀ i acc H, i ≤ n → Pv i acc H → G H)
    (hs : ∀ i x acc H H', i < n → acc.length = i → H D = some (.lst acc) → Pv i acc H → Y i H x H' → g x (wipe σ vs) H' fun σ2 H2 => wipe σ2 vs = wipe σ vs ∧ te σ2 H2 (LcK n D Pv i))
    (hd : ∀ acc H, acc.length = n → H D = some (.lst acc) → Pv n acc H → Qd H) :
    ∃ W : Nat → Nat → Hp → Prop, (∃ m, W 0 m (upd H1 D (.lst []))) ∧ ∀ i m H, W i m H →
      (J.stop i H ∧ Qd H) ∨ (J.go i H ∧ ∃ Nx : Hp → Prop, (∀ H', Nx H' → ∃ m', m' < m ∧ W (i + 1) m' H') ∧ ∀ x H', J.yld i H x H' → g x (wipe σ vs) H' fun σ2 H2 => wipe σ2 vs = wipe σ vs ∧ tYes σ2 H2 fun b H3 =>
        if b = true then te σ2 H3 fun y H4 => ∃ acc, H4 D = some (.lst acc) ∧ acc.length < sizeLine ∧ Nx (upd H4 D (.lst (acc ++ [y]))) else Nx H3) :=
  lc_it w (fun i H => ∃ acc, acc.length = i ∧ H D = some (.lst acc) ∧ Pv i acc H) ⟨[], rfl, upd_same, h0⟩ (fun i H hi ⟨acc, _, _, p⟩ => hG i acc H hi p)
    (fun i x H H' hi ⟨acc, hl, hD, p⟩ y => hs i x acc H H' hi hl hD p y) (fun H ⟨acc, hl, hD, p⟩ => hd acc H hl hD p)
/-! what is walked, comprehensions, loops -/
def Rng1K (R : It → Hp → Prop) : List V → Hp → Prop := fun vs H1 => ∃ j : Int, vs = [.int j] ∧ -(2 ^ 62) ≤ j ∧ j < 2 ^ 62 ∧ R (Itr 0 j.toNat) H1
def Rng2K (R : It → Hp → Prop) : List V → Hp → Prop := fun vs H1 => ∃ i j : Int, vs = [.int i, .int j] ∧ (-(2 ^ 62) ≤ i ∧ i < 2 ^ 62 ∧ -(2 ^ 62) ≤ j ∧ j < 2 ^ 62) ∧ R (Itr i (j - i).toNat) H1
def LstIt (K : PySem.W.Frag) (R : It → Hp → Prop) : VK := fun x H1 => ∃ a, x = .ref a ∧ (∃ xs, SqL K H1 a xs) ∧ R (Itl K a) H1
def TupIt (K : PySem.W.Frag) (R : It → Hp → Prop) : VK := fun x H1 => ∃ a, x = .ref a ∧ (∃ xs, SqT K H1 a xs) ∧ R (Itt K a) H1
def StrIt (R : It → Hp → Prop) : VK := fun v H1 => ∃ x, v = .str x ∧ R (Its x) H1
theorem rd_iR1 {R : It → Hp → Prop} (h : tr σ H (Rng1K R)) : iRng1 tr σ H R := h
theorem rd_iR2 {R : It → Hp → Prop} (h : tr σ H (Rng2K R)) : iRng2 tr σ H R := h
theorem rd_iL {R : It → Hp → Prop} (h : te σ H (LstIt K R)) : iList K te σ H R := h
theorem rd_iT {R : It → Hp → Prop} (h : te σ H (TupIt K R)) : iTup K te σ H R := h
theorem rd_iS {R : It → Hp → Prop} (h : te σ H (StrIt R)) : iStr te σ H R := h
theorem rd_r1 {R : It → Hp → Prop} {j : Int} (h0 : -1000000 ≤ j) (h1 : j ≤ 1000000) (q : R (Itr 0 j.toNat) H) : Rng1K R [.int j] H := ⟨j, rfl, by omega, by omega, q⟩
theorem rd_r2 {R : It → Hp → Prop} {i j : Int} (h0 : -1000000000000 ≤ i ∧ i ≤ 1000000000000) (h1 : -1000000000000 ≤ j ∧ j ≤ 1000000000000) (q : R (Itr i (j - i).toNat) H) : Rng2K R [.int i, .int j] H := ⟨i, j, rfl, by omega, q⟩
theorem rd_il {R : It → Hp → Prop} {p : Addr} {xs : List V} (h : SqL K H p xs) (q : R (Itl K p) H) : LstIt K R (.ref p) H := ⟨p, rfl, ⟨xs, h⟩, q⟩
theorem rd_it {R : It → Hp → Prop} {p : Addr} {xs : List V} (h : SqT K H p xs) (q : R (Itt K p) H) : TupIt K R (.ref p) H := ⟨p, rfl, ⟨xs, h⟩, q⟩
theorem rd_is {R : It → Hp → Prop} {z : Str} (q : R (Its z) H) : StrIt R (.str z) H := ⟨z, rfl, q⟩
def LcGo (J : It) (g : TG) (tt : TT) (te : TE) (vs : List Nat) (σ : L2.St) (H1 : Hp) (Q : VK) : Prop := ∀ D, H1 D = none → ∃ W : Nat → Nat → Hp → Prop, (∃ m, W 0 m (upd H1 D (.lst []))) ∧ ∀ i m H, W i m H →
  (J.stop i H ∧ Q (.ref D) H) ∨ (J.go i H ∧ ∃ Nx : Hp → Prop, (∀ H', Nx H' → ∃ m', m' < m ∧ W (i + 1) m' H') ∧ ∀ x H', J.yld i H x H' → g x (wipe σ vs) H' fun σ2 H2 => wipe σ2 vs = wipe σ vs ∧ tt σ2 H2 fun b H3 =>
    if b = true then te σ2 H3 fun y H4 => ∃ acc, H4 D = some (.lst acc) ∧ acc.length < sizeLine ∧ Nx (upd H4 D (.lst (acc ++ [y]))) else Nx H3)
theorem rd_lc {wi : TI} {vs : List Nat} (h : wi σ H fun J H1 => LcGo J g tt te vs σ H1 Q) : tLc wi g tt te vs σ H Q := h
theorem lcgo {J : It} {n : Nat} {G : Hp → Prop} {Y : Nat → Hp → V → Hp → Prop} (w : Walk J n G Y) {vs : List Nat} {H1 : Hp} (Pv : Addr → Nat → List V → Hp → Prop) (h0 : ∀ D, H1 D = none → Pv D 0 [] (upd H1 D (.lst [])))
    (hG : ∀ D i acc H, H1 D = none → i ≤ n → Pv D i acc H → G H)
    (hs : ∀ D i x acc H H', H1 D = none → i < n → acc.length = i → H D = some (.lst acc) → Pv D i acc H → Y i H x H' → g x (wipe σ vs) H' fun σ2 H2 => wipe σ2 vs = wipe σ vs ∧ te σ2 H2 (LcK n D (Pv D) i))
    (hd : ∀ D acc H, H1 D = none → acc.length = n → H D = some (.lst acc) → Pv D n acc H → Q (.ref D) H) : LcGo J g tYes te vs σ H1 Q :=
  fun D hD => lc_yes w (Pv D) (h0 D hD) (fun i acc H a b => hG D i acc H hD a b) (fun i x acc H H' a b c d e => hs D i x acc H H' hD a b c d e) fun acc H a b c => hd D acc H hD a b c
def ForGo (J : It) (g : TG) (tb : TS) (D : Ends) (σ : L2.St) (H1 : Hp) : Prop := ∃ W : Nat → Nat → L2.St → Hp → Prop, (∃ m, W 0 m σ H1) ∧ ∀ i m σ H, W i m σ H →
  (J.stop i H ∧ D.nx σ H) ∨ (J.go i H ∧ ∃ N : L2.St → Hp → Prop, (∀ σ' H', N σ' H' → ∃ m', m' < m ∧ W (i + 1) m' σ' H') ∧ ∀ x H', J.yld i H x H' → g x σ H' fun σ2 H2 => tb { D with nx := N, ct := N, bk := D.nx } σ2 H2)
theorem rd_for {wi : TI} (h : wi σ H fun J H1 => ForGo J g t D σ H1) : tFor wi g t D σ H := h
theorem forgo {J : It} {n : Nat} {G : Hp → Prop} {Y : Nat → Hp → V → Hp → Prop} (w : Walk J n G Y) (Pv : Nat → L2.St → Hp → Prop) (h0 : Pv 0 σ H) (hG : ∀ i σ H, i ≤ n → Pv i σ H → G H)
    (hs : ∀ i x σ H H', i < n → Pv i σ H → Y i H x H' → g x σ H' fun σ2 H2 => t { D with nx := Pv (i + 1), ct := Pv (i + 1), bk := D.nx } σ2 H2) (hd : ∀ σ H, Pv n σ H → D.nx σ H) : ForGo J g t D σ H := for_it w Pv h0 hG hs hd
theorem rd_lstA {xs : List V} (hz : xs.length ≤ 100000) (q : ∀ p H', H p = none → Same H H' → H' p = some (.lst xs) → Q (.ref p) H') : LstK Q xs H :=
  ⟨Nat.le_trans hz (by decide), fun p hp => q p _ hp (fun b x e => by rw [upd_ne (ne_of_none e hp)]; exact e) upd_same⟩
theorem rd_tupA {xs : List V} (hz : xs.length ≤ 100000) (q : ∀ p H', H p = none → Same H H' → H' p = some (.tup xs) → Q (.ref p) H') : TupK Q xs H :=
  ⟨Nat.le_trans hz (by decide), fun p hp => q p _ hp (fun b x e => by rw [upd_ne (ne_of_none e hp)]; exact e) upd_same⟩
theorem len_le : ∀ {xs : List V} {n : Nat}, xs.length = n → n ≤ 100000 → xs.length ≤ 100000 := fun e h => e ▸ h
theorem rd_nx {a c d : L2.St → Hp → Prop} {b : VK} (h : a σ H) : Ends.nx ⟨a, b, c, d⟩ σ H := h
theorem rd_rt {a c d : L2.St → Hp → Prop} {b : VK} (h : b v H) : Ends.rt ⟨a, b, c, d⟩ v H := h
theorem rd_sl {rs : V → Option Int → Option Int → Hp → VK → Prop} {tl th : TO} (h : ta σ H fun x H1 => tl σ H1 fun lo H2 => th σ H2 fun hi H3 => rs x lo hi H3 Q) : tSl rs ta tl th σ H Q := h
theorem rd_nopart {P : Option Int → Hp → Prop} (h : P none H) : tNoPart σ H P := h
theorem rd_part {P : Option Int → Hp → Prop} (h : te σ H fun x H1 => ∃ i, x = .int i ∧ P (some i) H1) : tPart te σ H P := h
theorem rd_ex_int {P : Int → Prop} {b : Int} (h : P b) : ∃ k, V.int b = V.int k ∧ P k := ⟨b, rfl, h⟩
theorem rd_slS {z : Str} {lo hi : Option Int} (hz : z.length ≤ sizeLine) (h : Q (.str (cutS z lo hi)) H) : rSlS (.str z) lo hi H Q := ⟨z, rfl, hz, h⟩
theorem rd_addS {a b : Str} (hz : a.length + b.length ≤ 100000) (h : Q (.str (a ++ b)) H) : rAddSt (.str a) (.str b) H Q := ⟨a, b, rfl, rfl, Nat.le_trans hz (by decide), h⟩
theorem rd_repS {a : Str} {n : Int} (hm : MulOk a n) (h : Q (.str (Txt.mul a n)) H) : rRepS (.str a) (.int n) H Q := ⟨a, n, rfl, rfl, hm, h⟩
theorem rd_repr0 {t : Str} (h : shown0 v = some t) (q : Q (.str t) H) : rRepr0 [v] H Q := ⟨v, t, rfl, h, q⟩
def RevK (K : PySem.W.Frag) (Q : VK) : VK := fun x H1 => ∃ a xs, x = .ref a ∧ SqL K H1 a xs ∧ ∀ p, H1 p = none → Q (.ref p) (upd H1 p (.lst xs.reverse))
theorem rd_revL (h : te σ H (RevK K Q)) : tRevL K te σ H Q := h
theorem rd_revK {p : Addr} {xs : List V} (h : SqL K H p xs) (q : ∀ p H', H p = none → Same H H' → H' p = some (.lst xs.reverse) → Q (.ref p) H') : RevK K Q (.ref p) H :=
  ⟨p, xs, rfl, h, fun p hp => q p _ hp (fun b x e => by rw [upd_ne (ne_of_none e hp)]; exact e) upd_same⟩
theorem rd_cat {l b : Addr} {xs zs : List V} (h1 : H l = some (.lst xs)) (h2 : H b = some (.lst zs)) (hz : xs.length + zs.length ≤ 100000) (q : ∀ p H', H p = none → Same H H' → H' p = some (.lst (xs ++ zs)) → Q (.ref p) H') : rCat (.ref l) (.ref b) H Q :=
  ⟨l, b, xs, zs, rfl, rfl, h1, h2, Nat.le_trans hz (by decide), fun p hp => q p _ hp (fun b x e => by rw [upd_ne (ne_of_none e hp)]; exact e) upd_same⟩
theorem rd_dnew (q : ∀ p H', H p = none → Same H H' → H' p = some (.dK []) → Q (.ref p) H') : tDNewK σ H Q :=
  fun p hp => q p _ hp (fun b x e => by rw [upd_ne (ne_of_none e hp)]; exact e) upd_same
theorem atI_mem {xs : List V} {k : Int} (h0 : 0 ≤ k) (h1 : k < (xs.length : Int)) : ∃ v, v ∈ xs ∧ atI xs k = some v := by
  obtain ⟨j, rfl⟩ : ∃ j : Nat, k = (j : Int) := ⟨k.toNat, by omega⟩
  have hj : j < xs.length := by omega
  exact ⟨xs[j], List.getElem_mem hj, atI_nat (List.getElem?_eq_getElem hj)⟩
theorem rd_ixAny1 {xs : List V} {p : Addr} {k : Int} (h : SqL K H p xs) (h0 : 0 ≤ k) (h1 : k < (xs.length : Int)) (q : ∀ v, v ∈ xs → Q v H) : rIxL K (.ref p) (.int k) H Q := by
  obtain ⟨v, hv, ha⟩ := atI_mem h0 h1
  exact ⟨p, xs, k, v, rfl, rfl, h, ha, q v hv⟩
theorem rd_ixAny {xs : List V} {p : Addr} {k : Int} (h : SqL K H p xs) (h0 : 0 ≤ k) (h1 : k < (xs.length : Int)) (q : ∀ v, v ∈ xs → Q v H) : rIx K (.ref p) (.int k) H Q := .inl (rd_ixAny1 h h0 h1 q)
theorem rd_ixSany {z : Str} {k : Int} (hz : z.length ≤ 100000) (h0 : 0 ≤ k) (h1 : k < (z.length : Int)) (q : ∀ c, c ∈ z.cps.toList → Q (.str ⟨#[c]⟩) H) : rIxS (.str z) (.int k) H Q := by
  obtain ⟨j, rfl⟩ : ∃ j : Nat, k = (j : Int) := ⟨k.toNat, by omega⟩
  have hl : z.length = z.cps.toList.length := by simp [Str.length]
  have hj : j < z.cps.toList.length := by omega
  exact ⟨z, _, z.cps.toList[j], rfl, rfl, Nat.le_trans hz (by decide), atI_nat (List.getElem?_eq_getElem hj), q _ (List.getElem_mem hj)⟩
/-- a comprehension whose list is set aside while an element is evaluated -/
theorem lcgoF {J : It} {n k : Nat} {G : Hp → Prop} {Y : Nat → Hp → V → Hp → Prop} {te : TE} {vs : List Nat} {H1 : Hp} (w : Walk J n G Y) (hz : n ≤ 100000) (Yx : Nat → V → Prop) (hY : ∀ i H x H', i < n → G H → Y i H x H' → H' = H ∧ Yx i x)
    (hw : ∀ x, wipe ((wipe σ vs).set k (some x)) vs = wipe σ vs) (Pv : Nat → List V → Hp → Prop) (h0 : Pv 0 [] H1) (hG : ∀ i acc H D, i ≤ n → Pv i acc H → H D = none → G (upd H D (.lst acc)))
    (hs : ∀ i x acc H (Qc : VK), i < n → acc.length = i → Pv i acc H → Yx i x → (∀ y H', Pv (i + 1) (acc ++ [y]) H' → Qc y H') → te ((wipe σ vs).set k (some x)) H Qc)
    (hd : ∀ acc H D, acc.length = n → Pv n acc H → H D = none → Q (.ref D) (upd H D (.lst acc))) : LcGo J (gName k) tYes (tFrm te) vs σ H1 Q := by
  refine fun D hD => lc_yes w (fun i acc H => ∃ H0, H = upd H0 D (.lst acc) ∧ H0 D = none ∧ Pv i acc H0) ⟨H1, rfl, hD, h0⟩ (fun i acc H hi ⟨H0, e, hn, p⟩ => e ▸ hG i acc H0 D hi p hn) ?_ ?_
  · rintro i x acc H H' hi hla hDa ⟨H0, rfl, hn, p⟩ y
    obtain ⟨rfl, yx⟩ := hY i _ x H' hi (hG i acc H0 D (Nat.le_of_lt hi) p hn) y
    refine ⟨hw _, D, acc, upd_same, ?_⟩
    rw [wo_upd hn]
    exact hs i x acc H0 _ hi hla p yx fun y H' p' hD' => lcK (acc := acc) upd_same hla hi hz ⟨H', by rw [upd_upd], hD', p'⟩
  · rintro acc H hla hDa ⟨H0, rfl, hn, p⟩
    exact hd acc H0 D hla p hn
theorem walkR_Y {lo : Int} {i : Nat} {H : Hp} {x : V} {H' : Hp} (h : YFn (fun i => .int (lo + (i : Nat))) i H x H') : H' = H ∧ x = .int (lo + (i : Nat)) := h
/-- a comprehension over the signs of a text, its element a function of the sign -/
theorem lcgo_str {te : TE} {vs : List Nat} {k : Nat} {f : Nat → V} {z : Str} (hz : z.length ≤ 100000) (hw : ∀ x, wipe ((wipe σ vs).set k (some x)) vs = wipe σ vs)
    (he : ∀ (c : Nat) (H' : Hp) (Q' : VK), c ∈ z.cps.toList → Q' (f c) H' → te ((wipe σ vs).set k (some (.str ⟨#[c]⟩))) H' Q')
    (hq : ∀ D, H D = none → Q (.ref D) (upd H D (.lst (z.cps.toList.map f)))) : LcGo (Its z) (gName k) tYes (tFrm te) vs σ H Q := by
  have hl : z.cps.size = z.cps.toList.length := by simp
  refine lcgoF walk_str hz (fun i x => ∃ c, z.cps.toList[i]? = some c ∧ x = .str ⟨#[c]⟩) (fun i H x H' _ _ ⟨e, c, hc, hx⟩ => ⟨e, c, by simpa using hc, hx⟩) hw (fun i acc H' => H' = H ∧ acc = (z.cps.toList.take i).map f) ⟨rfl, rfl⟩ (fun _ _ _ _ _ _ _ => trivial) ?_ ?_
  · rintro i x acc H' Qc hin hla ⟨rfl, ha⟩ ⟨c, hc, rfl⟩ hq'
    refine he c _ _ (List.mem_of_getElem? hc) (hq' _ _ ⟨rfl, ?_⟩)
    rw [List.take_add_one, hc, List.map_append, ← ha]
    rfl
  · rintro acc H' D hla ⟨rfl, ha⟩ hD
    have e : z.cps.toList.take z.cps.size = z.cps.toList := List.take_of_length_le (by rw [← hl]; exact Nat.le_refl _)
    rw [e] at ha
    subst ha
    exact hq D hD
theorem rd_all {p : Addr} {bs : List Bool} (h : SqL K H p (bs.map V.bl)) (q : Q (.bl (bs.all id)) H) : rAll K [.ref p] H Q := ⟨p, bs, rfl, h, q⟩
theorem rd_intStr {z : Str} {n : Int} (h : PySem.intText? z = some n) (hz : z.length ≤ 640) (q : Q (.int n) H) : rIntS [.str z] H Q := ⟨z, n, rfl, h, hz, q⟩
theorem rd_strI {i : Int} (h : i.natAbs.log2 < 1920) (q : Q (.str (toString i)) H) : rStrI [.int i] H Q := ⟨i, rfl, h, q⟩
theorem atI0 {α : Type} {a : α} {l : List α} : atI (a :: l) (0 : Int) = some a := atI_nat (j := 0) rfl
theorem atI1 {α : Type} {a b : α} {l : List α} : atI (a :: b :: l) (1 : Int) = some b := atI_nat (j := 1) rfl
theorem atI2 {α : Type} {a b c : α} {l : List α} : atI (a :: b :: c :: l) (2 : Int) = some c := atI_nat (j := 2) rfl
theorem atI3 {α : Type} {a b c d : α} {l : List α} : atI (a :: b :: c :: d :: l) (3 : Int) = some d := atI_nat (j := 3) rfl
theorem atI4 {α : Type} {a b c d e : α} {l : List α} : atI (a :: b :: c :: d :: e :: l) (4 : Int) = some e := atI_nat (j := 4) rfl
theorem sqL_of {K : PySem.W.Frag} {H : Hp} {p : Addr} {xs : List V} (h : H p = some (.lst xs)) : SqL K H p xs := .inl (.inl h)
theorem sqT_of {K : PySem.W.Frag} {H : Hp} {p : Addr} {xs : List V} (h : H p = some (.tup xs)) : SqT K H p xs := .inl (.inl h)
end
end My
local macro_rules | `(tactic| walk_at "sql") => `(tactic| first | assumption | exact My.sqL_of L2.upd_same | (refine My.sqL_of ?_; assumption))
local macro_rules | `(tactic| walk_at "sz") => `(tactic| first | assumption | exact My.small_sz (by omega))
local macro_rules | `(tactic| walk_at "sqt") => `(tactic| first | assumption | exact My.sqT_of L2.upd_same | (refine My.sqT_of ?_; assumption))
local macro_rules | `(tactic| walk_at "ati") => `(tactic| first | exact My.atI0 | exact My.atI1 | exact My.atI2 | exact My.atI3 | exact My.atI4)
local macro_rules | `(tactic| walk_at "rd1") => `(tactic| first
  | (with_reducible refine My.rd_seq ?_)
  | (with_reducible refine My.rd_asg ?_)
  | ((with_reducible refine My.rd_var (v := ?vv) ?hvar ?_); (case hvar => exact rfl))
  | (with_reducible refine My.rd_c ?_)
  | (with_reducible refine My.rd_op ?_)
  | (with_reducible refine My.rd_I0 ?_)
  | (with_reducible refine My.rd_name ?_)
  | (with_reducible refine My.rd_next ?_)
  | (with_reducible refine My.rd_ret ?_)
  | (with_reducible refine My.rd_retN ?_)
  | (with_reducible refine My.rd_drop ?_)
  | (with_reducible refine My.rd_ifS ?_)
  | (with_reducible refine My.rd_if ?_)
  | (with_reducible refine My.rd_test ?_)
  | (with_reducible refine My.rd_B ?_)
  | (with_reducible refine My.rd_not ?_)
  | (with_reducible refine My.rd_and ?_)
  | (with_reducible refine My.rd_or ?_)
  | (with_reducible refine My.rd_nil ?_)
  | (with_reducible refine My.rd_cons ?_)
  | (with_reducible refine My.rd_cb ?_)
  | (with_reducible refine My.rd_call ?_)
  | (with_reducible refine My.rd_ex_bl ?_)
  | (with_reducible refine L2.iteT ?_)
  | (with_reducible refine L2.iteF ?_)
  | (with_reducible refine My.rd_iteN ?_)
  | (with_reducible refine My.rd_inS ?_)
  | (with_reducible refine My.rd_notInS ?_)
  | (with_reducible refine My.rd_find ?_)
  | (with_reducible refine My.rd_m1 ?_)
  | (with_reducible refine My.rd_exStr ?_)
  | ((with_reducible refine My.rd_lenS ?hsz ?_); (case hsz => walk_at "sz"))
  | ((with_reducible refine My.rd_lenL (xs := ?xx) ?hsql ?_); (case hsql => walk_at "sql"))
  | ((with_reducible refine My.rd_lenT (xs := ?xx) ?hsql ?_); (case hsql => walk_at "sqt"))
  | (with_reducible refine My.rd_nx ?_)
  | (with_reducible refine My.rd_rt ?_)
  | (with_reducible refine My.rd_lc ?_)
  | (with_reducible refine My.rd_for ?_)
  | (with_reducible refine My.rd_iR1 ?_)
  | (with_reducible refine My.rd_iR2 ?_)
  | (with_reducible refine My.rd_iL ?_)
  | (with_reducible refine My.rd_iT ?_)
  | (with_reducible refine My.rd_iS ?_)
  | (with_reducible refine My.rd_is ?_)
  | (with_reducible refine My.rd_sl ?_)
  | (with_reducible refine My.rd_revL ?_)
  | (with_reducible refine My.rd_nopart ?_)
  | (with_reducible refine My.rd_part ?_)
  | (with_reducible refine My.rd_ex_int ?_)
  | ((with_reducible refine My.rd_slS ?hsz ?_); (case hsz => walk_at "sz"))
  | (with_reducible refine My.rd_un ?_)
  | (with_reducible refine My.rd_U ?_)
  | (with_reducible refine My.rd_chain ?_)
  | (with_reducible refine My.rd_lst ?_)
  | (with_reducible refine My.rd_tup ?_)
  | (with_reducible refine My.rd_andV ?_)
  | (with_reducible refine My.rd_orV ?_)
  | (with_reducible refine My.rd_notV ?_)
  | (with_reducible refine My.rd_sub ?_)
  | ((with_reducible refine My.rd_ixL (v := ?vv) (xs := ?xx) ?hsql ?hati ?_); (case hsql => walk_at "sql"); (case hati => walk_at "ati"))
  | ((with_reducible refine My.rd_ixL1 (v := ?vv) (xs := ?xx) ?hsql ?hati ?_); (case hsql => walk_at "sql"); (case hati => walk_at "ati"))
  | ((with_reducible refine My.rd_ixT (v := ?vv) (xs := ?xx) ?hsql ?hati ?_); (case hsql => walk_at "sqt"); (case hati => walk_at "ati"))
  | ((with_reducible refine My.rd_ixT1 (v := ?vv) (xs := ?xx) ?hsql ?hati ?_); (case hsql => walk_at "sqt"); (case hati => walk_at "ati"))
  | ((with_reducible refine My.rd_eq ?hscal ?_); (case hscal => rfl))
  | ((with_reducible refine My.rd_ne ?hscal ?_); (case hscal => rfl)))
local macro_rules | `(tactic| walk_at "rd") => `(tactic| (repeat' walk_at "rd1"))

namespace My
open PySem PySem.Spec PyProof.Rows L2
/-! ### heaps: all but p stands; a draw's box -/
def KeepB (p : Addr) (H H' : Hp) : Prop := ∀ b o, H b = some o → b ≠ p → H' b = some o
theorem KeepB.refl (p : Addr) (H : Hp) : KeepB p H H := fun _ _ h _ => h
theorem KeepB.trans {p : Addr} {H H1 H2 : Hp} (a : KeepB p H H1) (b : KeepB p H1 H2) : KeepB p H H2 := fun c o h n => b c o (a c o h n) n
theorem Same.keepB {p : Addr} {H H' : Hp} (a : Same H H') : KeepB p H H' := fun c o h _ => a c o h
theorem KeepB.same {p : Addr} {H H1 H2 : Hp} (a : KeepB p H1 H2) (e : Same H H1) (hp : H p = none) : Same H H2 := fun c o h => a c o (e c o h) (ne_of_none h hp)
theorem same_new {H : Hp} {p : Addr} {o : HO} (h : H p = none) : Same H (upd H p o) := fun b x e => by
  rw [upd_ne (ne_of_none e h)]
  exact e
theorem keepB_upd {H : Hp} {p : Addr} {o : HO} : KeepB p H (upd H p o) := fun b x e n => by
  rw [upd_ne n]
  exact e
/-- a box: what is left of the cell, its seed, its count, at most n -/
def BoxAt (H : Hp) (p : Addr) (n : Nat) : Prop := ∃ a b c : Int, H p = some (.lst [.int a, .int b, .int c]) ∧ 0 ≤ a ∧ 0 ≤ b ∧ b < 2147483629 ∧ 0 ≤ c ∧ c ≤ (n : Int)
theorem BoxAt.mono {H : Hp} {p : Addr} {n m : Nat} (h : BoxAt H p n) (l : n ≤ m) : BoxAt H p m := by
  obtain ⟨a, b, c, e, h1, h2, h3, h4, h5⟩ := h
  exact ⟨a, b, c, e, h1, h2, h3, h4, by omega⟩
theorem BoxAt.keep {H H' : Hp} {p : Addr} {n : Nat} (h : BoxAt H p n) (s : Same H H') : BoxAt H' p n := by
  obtain ⟨a, b, c, e, r⟩ := h
  exact ⟨a, b, c, s _ _ e, r⟩
theorem BoxAt.ne {H : Hp} {p q : Addr} {n : Nat} (h : BoxAt H p n) (e : H q = none) : q ≠ p := by
  obtain ⟨a, b, c, e1, r⟩ := h
  exact (ne_of_none e1 e).symm
theorem log2_small {j : Int} (h0 : 0 < j) (h : j < 2 ^ 200) : j.natAbs.log2 < 9000 := by
  have : j.natAbs < 2 ^ 200 := by omega
  exact Nat.lt_of_lt_of_le (PySem.Flt.log2_lt_of (by decide) this) (by decide)
theorem KeepB.seqL {K : PySem.W.Frag} {H H' : Hp} {p a : Addr} {xs : List V} (e : KeepB p H H') (h : SqL K H a xs) (n : a ≠ p) : SqL K H' a xs := by
  rcases h with (h | ⟨o, h⟩) | h
  · exact .inl (.inl (e _ _ h n))
  · exact .inl (.inr ⟨o, e _ _ h n⟩)
  · exact .inr h
theorem BoxAt.new {H : Hp} {p q : Addr} {n : Nat} {o : HO} (h : BoxAt H p n) (e : p ≠ q) : BoxAt (upd H q o) p n := by
  obtain ⟨a, b, c, e1, r⟩ := h
  exact ⟨a, b, c, by rw [upd_ne e]; exact e1, r⟩
theorem KeepB.new {p q : Addr} {H H1 : Hp} {o : HO} (k : KeepB p H H1) (e : H q = none) : KeepB p H (upd H1 q o) := fun b x h n => by
  rw [upd_ne (ne_of_none h e)]
  exact k b x h n
/-- a word: a text, not long; or a thing of another kind -/
def WordAt (K : PySem.W.Frag) (H : Hp) (v : V) : Prop := (∃ z : Str, v = .str z ∧ z.length ≤ 1000) ∨ ∃ t : String, TyX K H v (.type t) ∧ kitB t "str" = some false
theorem tyx_keep {K : PySem.W.Frag} {H H' : Hp} {v : V} {t : Value} (h : TyX K H v t) (e : Same H H') : TyX K H' v t := by
  cases h with
  | base b =>
    refine .base ?_
    cases b with
    | non => exact .non
    | bl x => exact .bl x
    | int i => exact .int i
    | str x => exact .str x
    | flt x => exact .flt x
    | lst h => exact .lst (e _ _ h)
    | frz h => exact .frz (e _ _ h)
    | tup h => exact .tup (e _ _ h)
    | dK h => exact .dK (e _ _ h)
    | dT h => exact .dT (e _ _ h)
    | ins h a b c d m => exact .ins (e _ _ h) a b c d m
  | byt b => exact .byt b
  | set h => exact .set (e _ _ h)
  | kList a b => exact .kList a b
  | kTuple a b => exact .kTuple a b
  | kDict a b => exact .kDict a b
  | fTuple h => exact .fTuple (e _ _ h)
  | fDict h => exact .fDict (e _ _ h)
theorem WordAt.keep {K : PySem.W.Frag} {H H' : Hp} {v : V} (h : WordAt K H v) (e : Same H H') : WordAt K H' v := by
  rcases h with h | ⟨t, h, k⟩
  · exact .inl h
  · exact .inr ⟨t, tyx_keep h e, k⟩
/-! the number that a word writes -/
def isFig (c : Nat) : Bool := decide (48 ≤ c ∧ c ≤ 57)
def numOf (z : Str) : Option Int :=
  if 1 ≤ z.length ∧ z.length ≤ 12 ∧ z.cps.toList.all isFig = true ∧ ¬ (z.cps.toList.head? = some 48 ∧ z.length ≠ 1) then some ((PySem.NumText.digitsVal z.cps.toList : Nat) : Int) else none
def numV : Option Int → V
  | none => .non
  | some n => .int n
theorem figs : (Str.ofString "0123456789").cps.toList = [48, 49, 50, 51, 52, 53, 54, 55, 56, 57] := by decide +kernel
theorem isFig_in (c : Nat) : decide (c ∈ (Str.ofString "0123456789").cps.toList) = isFig c := by
  rw [figs]
  unfold isFig
  congr 1
  simp only [List.mem_cons, List.not_mem_nil, or_false, eq_iff_iff]
  omega
theorem sign_eq (c d : Nat) : ((⟨#[c]⟩ : Str) = ⟨#[d]⟩) ↔ c = d := ⟨fun h => by
  have h2 : (#[c] : Array Nat) = #[d] := congrArg Str.cps h
  simpa using h2, fun h => by rw [h]⟩
theorem zero_text : Str.ofString "0" = ⟨#[48]⟩ := by decide +kernel
theorem is_zero_text (z : Str) (h : z.cps.toList.head? = some 48) : (z = Str.ofString "0") ↔ z.length = 1 := by
  obtain ⟨⟨l⟩⟩ := z
  rw [zero_text]
  cases l with
  | nil => simp at h
  | cons a r =>
    have e : a = 48 := by simpa using h
    subst e
    constructor
    · intro z
      cases z
      rfl
    · intro z
      have z2 : r.length + 1 = 1 := z
      have z3 : r = [] := List.length_eq_zero_iff.mp (by omega)
      rw [z3]
theorem numOf_out {z : Str} (h : ¬ (1 ≤ z.length ∧ z.length ≤ 12)) : numOf z = none := by
  unfold numOf
  rw [if_neg]
  rintro ⟨a, b, _⟩
  exact h ⟨a, b⟩
theorem numOf_fig {z : Str} (h : ¬ z.cps.toList.all isFig = true) : numOf z = none := by
  unfold numOf
  rw [if_neg]
  rintro ⟨a, b, c, _⟩
  exact h c
theorem numOf_zero {z : Str} (h : z.cps.toList.head? = some 48) (h1 : z.length ≠ 1) : numOf z = none := by
  unfold numOf
  rw [if_neg]
  rintro ⟨a, b, c, d⟩
  exact d ⟨h, h1⟩
theorem numOf_some {z : Str} (h1 : 1 ≤ z.length) (h2 : z.length ≤ 12) (h3 : z.cps.toList.all isFig = true) (h4 : ¬ (z.cps.toList.head? = some 48 ∧ z.length ≠ 1)) : numOf z = some ((PySem.NumText.digitsVal z.cps.toList : Nat) : Int) := by
  unfold numOf
  rw [if_pos ⟨h1, h2, h3, h4⟩]
theorem head_at {z : Str} (h : 1 ≤ z.length) : ∃ c, z.cps.toList.head? = some c ∧ atI z.cps.toList (0 : Int) = some c := by
  obtain ⟨⟨l⟩⟩ := z
  cases l with
  | nil => exact absurd h (by decide)
  | cons a r => exact ⟨a, rfl, atI0⟩
theorem all_digits {l : List Nat} (h : l.all isFig = true) : PySem.NumText.AllDigits l := fun c hc => by
  have := List.all_eq_true.mp h c hc
  exact of_decide_eq_true this
/-! ### the text -/
def topS (i : Nat) : Stmt := PySem.Challenge.pw_iceopened_k02_numbers_written.main.body.getD i (.Pass ⟨0, 0, 0, 0⟩)
abbrev s_number_of : Stmt := (topS 3)
abbrev N_number_of : List Str := ["word", "sign"]
theorem sc_number_of : FnScope N_number_of ["word"] (defScope s_number_of) := ⟨rfl, rfl, rfl, by decide +kernel, rfl, by decide +kernel, by decide +kernel⟩
abbrev s_law_cell : Stmt := (topS 5)
abbrev N_law_cell : List Str := ["_law_script", "_law_k"]
theorem sc_law_cell : FnScope N_law_cell ["_law_script", "_law_k"] (defScope s_law_cell) := ⟨rfl, rfl, rfl, by decide +kernel, rfl, by decide +kernel, by decide +kernel⟩
abbrev s_law_box : Stmt := (topS 6)
abbrev N_law_box : List Str := ["_law_cell_here"]
theorem sc_law_box : FnScope N_law_box ["_law_cell_here"] (defScope s_law_box) := ⟨rfl, rfl, rfl, by decide +kernel, rfl, by decide +kernel, by decide +kernel⟩
abbrev s_law_take : Stmt := (topS 7)
abbrev N_law_take : List Str := ["_law_box_here", "_law_many", "_law_digit", "_law_one", "_law_other"]
theorem sc_law_take : FnScope N_law_take ["_law_box_here", "_law_many"] (defScope s_law_take) := ⟨rfl, rfl, rfl, by decide +kernel, rfl, by decide +kernel, by decide +kernel⟩
abbrev s_law_word : Stmt := (topS 8)
abbrev N_law_word : List Str := ["_law_box_here", "_law_signs", "_law_way", "_law_odd", "_law_size", "_law_word_here", "_law_at", "_law_sign", "_law_k"]
theorem sc_law_word : FnScope N_law_word ["_law_box_here"] (defScope s_law_word) := ⟨rfl, rfl, rfl, by decide +kernel, rfl, by decide +kernel, by decide +kernel⟩
abbrev s_law_due : Stmt := (topS 9)
abbrev N_law_due : List Str := ["_law_word_here", "_law_number", "_law_sign", "_law_digit"]
theorem sc_law_due : FnScope N_law_due ["_law_word_here"] (defScope s_law_due) := ⟨rfl, rfl, rfl, by decide +kernel, rfl, by decide +kernel, by decide +kernel⟩
abbrev s_law : Stmt := (topS 10)
abbrev N_law : List Str := ["_law_script", "_law_words", "_law_word_here", "_law_k"]
theorem sc_law : FnScope N_law ["_law_script"] (defScope s_law) := ⟨rfl, rfl, rfl, by decide +kernel, rfl, by decide +kernel, by decide +kernel⟩
/-- what the top has written -/
structure Tx (K : PySem.W.Frag) (mg : Str → Option Value) where
  a_number_of : Addr
  d_number_of : FuncData
  F_number_of : Fun K "number_of" "number_of" s_number_of a_number_of d_number_of
  g_number_of : mg "number_of" = some (.ref a_number_of)
  b_number_of : Binds K d_number_of ["word"] []
  a_law_cell : Addr
  d_law_cell : FuncData
  F_law_cell : Fun K "_law_cell" "_law_cell" s_law_cell a_law_cell d_law_cell
  g_law_cell : mg "_law_cell" = some (.ref a_law_cell)
  b_law_cell : Binds K d_law_cell ["_law_script", "_law_k"] []
  a_law_box : Addr
  d_law_box : FuncData
  F_law_box : Fun K "_law_box" "_law_box" s_law_box a_law_box d_law_box
  g_law_box : mg "_law_box" = some (.ref a_law_box)
  b_law_box : Binds K d_law_box ["_law_cell_here"] []
  a_law_take : Addr
  d_law_take : FuncData
  F_law_take : Fun K "_law_take" "_law_take" s_law_take a_law_take d_law_take
  g_law_take : mg "_law_take" = some (.ref a_law_take)
  b_law_take : Binds K d_law_take ["_law_box_here", "_law_many"] []
  a_law_word : Addr
  d_law_word : FuncData
  F_law_word : Fun K "_law_word" "_law_word" s_law_word a_law_word d_law_word
  g_law_word : mg "_law_word" = some (.ref a_law_word)
  b_law_word : Binds K d_law_word ["_law_box_here"] []
  a_law_due : Addr
  d_law_due : FuncData
  F_law_due : Fun K "_law_due" "_law_due" s_law_due a_law_due d_law_due
  g_law_due : mg "_law_due" = some (.ref a_law_due)
  b_law_due : Binds K d_law_due ["_law_word_here"] []
  a_law : Addr
  d_law : FuncData
  F_law : Fun K "law" "law" s_law a_law d_law
  g_law : mg "law" = some (.ref a_law)
  b_law : Binds K d_law ["_law_script"] []
  m_all : mg "all" = none
  m_int : mg "int" = none
  m_isinstance : mg "isinstance" = none
  m_len : mg "len" = none
  m_max : mg "max" = none
  m_min : mg "min" = none
  m_range : mg "range" = none
  m_repr : mg "repr" = none
  m_str : mg "str" = none
  c_FIGURES : ∃ u, mg "FIGURES" = some u ∧ RelV (.str "0123456789") u
  c_MOST_FIGURES : ∃ u, mg "MOST_FIGURES" = some u ∧ RelV (.int 12) u
section
variable {P : Program} {w : World} {K : PySem.W.Frag} {mg : Str → Option Value} {base : Heap}
def numW : V → V
  | .str z => numV (numOf z)
  | _ => .non
def sp_number_of (K : PySem.W.Frag) : Sp := fun vs H Q _ => ∃ v, vs = [v] ∧ WordAt K H v ∧ ∀ H', Same H H' → Q (numW v) H'
theorem int_of_word {z : Str} (h1 : 1 ≤ z.length) (h2 : z.length ≤ 12) (h3 : z.cps.toList.all isFig = true) : PySem.intText? z = some ((PySem.NumText.digitsVal z.cps.toList : Nat) : Int) :=
  PySem.intText_digits (all_digits h3) (by intro e; rw [Str.length, ← Array.length_toList, e] at h1; exact absurd h1 (by decide)) (by omega)
theorem ok_number_of (T : Tx K mg) : FnOk P w K mg base CX0 1 T.a_number_of T.d_number_of ["word"] (sp_number_of K) := by
  refine T.F_number_of.ok sc_number_of (fun vs H Q E h => ?_) (fun cdv A outer s H vs Q E hr h => ?_)
  · obtain ⟨v, rfl, _⟩ := h
    rfl
  · refine ⟨_, (pss_cons (ps_if (PW.pt (pw_or (pt_not (pt_val (pe_callB (isiK (K := K) rfl) (by rfl) T.m_isinstance (by decide +kernel) (pa_cons (pv 0) (pa_cons (pe_bltn (v := .ty "str") rfl T.m_str (by decide +kernel) rfl) pa_nil))))) (pw_or1 (pt_not (pt_chain op_le op_le pe_int (pe_callB (lenK (K := K) rfl) (by rfl) T.m_len (by decide +kernel) (pa_cons (pv 0) pa_nil)) (C8.pe_gc rfl T.c_MOST_FIGURES))))))
        (pss_one (ps_ret pe_non))
        pss_nil)
        (pss_cons (ps_if (PW.pt (pw_or (pt_not (pt_val (pe_callB (allK (K := K) rfl rfl) (by rfl) T.m_all (by decide +kernel) (pa_cons (pe_lc (own := [("sign", 1)]) (g := gName 1) (tt := tYes) rfl sc_number_of.nd (pi_str (pv 0)) (blkOk_by (own := [("sign", 1)]) (N := N_number_of) (sc := defScope s_number_of) (by decide +kernel)) (fun _ _ _ _ _ => (pg_name (i := 1) sc_number_of.nd rfl (Or.inl rfl))) (fun _ _ _ _ _ => pts_nil) (fun _ _ _ _ _ => (pe_frm (pe_cmpR inSg (pv 1) (C8.pe_gc rfl T.c_FIGURES) rfl)))) pa_nil)))) (pw_or1 (PW.pt (pw_and (pt_cmpR op_eq (pe_ix ix_str (pv 0) pe_int (fun _ _ => rfl)) pe_str (nomark _)) (pw_and1 (pt_cmpR op_ne (pv 0) pe_str (nomark _))))))))
        (pss_one (ps_ret pe_non))
        pss_nil)
        (pss_one (ps_ret (pe_callTy intS (by rfl) T.m_int (by decide +kernel) (pa_cons (pv 0) pa_nil)))))), ?_⟩
    obtain ⟨v, rfl, hw, q⟩ := h
    walk_at "rd"
    rcases hw with ⟨z, rfl, hz⟩ | ⟨t, ht, hk⟩
    · refine rd_isi (b := true) (.base (.str z)) (by decide +kernel) ?_
      walk_at "rd"
      refine rd_iteD (fun h1 => ?_) (fun h1 => ?_)
      · walk_at "rd"
        refine rd_iteD (fun h2 => ?_) (fun h2 => ?_)
        · walk_at "rd"
          refine lcgo_str (f := fun c => .bl (isFig c)) (by omega) (fun _ => rfl) (fun c H' Q' hc q' => ?_) (fun D hD => ?_)
          · walk_at "rd"
            rw [isFig_in]
            exact q'
          · walk_at "rd"
            refine rd_all (bs := z.cps.toList.map isFig) (sqL_of (by rw [upd_same, List.map_map]; rfl)) ?_
            walk_at "rd"
            have eall : (z.cps.toList.map isFig).all id = z.cps.toList.all isFig := by rw [List.all_map]; rfl
            rw [eall]
            have sm := same_new (o := .lst (z.cps.toList.map fun c => .bl (isFig c))) hD
            cases ha : z.cps.toList.all isFig with
            | false =>
              walk_at "rd"
              have := q _ sm
              rw [numW, numOf_fig (by rw [ha]; decide)] at this
              exact this
            | true =>
              walk_at "rd"
              obtain ⟨c, hc, hc2⟩ := head_at (z := z) (by omega)
              refine rd_ixS1 (small_sz (by omega)) hc2 ?_
              walk_at "rd"
              have fin : ¬ (z.cps.toList.head? = some 48 ∧ z.length ≠ 1) → rIntS [.str z] (upd H D (.lst (z.cps.toList.map fun c => .bl (isFig c)))) Q := fun h4 => by
                refine rd_intStr (int_of_word (by omega) (by omega) ha) (by omega) ?_
                have := q _ sm
                rw [numW, numOf_some (by omega) (by omega) ha h4] at this
                exact this
              refine rd_iteD (fun h3 => ?_) (fun h3 => ?_)
              · walk_at "rd"
                have h5 : c = 48 := by
                  rw [zero_text] at h3
                  exact (sign_eq _ _).mp (V.str.inj h3)
                rw [h5] at hc
                refine rd_iteD (fun h4 => ?_) (fun h4 => ?_)
                · walk_at "rd"
                  exact fin fun z1 => z1.2 ((is_zero_text z hc).mp (V.str.inj h4))
                · walk_at "rd"
                  have := q _ sm
                  rw [numW, numOf_zero hc fun z1 => h4 (congrArg V.str ((is_zero_text z hc).mpr z1))] at this
                  exact this
              · walk_at "rd"
                refine fin fun z1 => h3 ?_
                rw [hc] at z1
                rw [zero_text, Option.some.inj z1.1]
        · walk_at "rd"
          have := q H (Same.refl H)
          rw [numW, numOf_out (by omega)] at this
          exact this
      · walk_at "rd"
        have := q H (Same.refl H)
        rw [numW, numOf_out (by omega)] at this
        exact this
    · refine rd_isi (b := false) ht hk ?_
      walk_at "rd"
      have e : numW v = .non := by
        cases v with
        | str z =>
          cases ht with
          | base b =>
            cases b
            exact absurd hk (by decide +kernel)
        | _ => rfl
      have := q H (Same.refl H)
      rw [e] at this
      exact this
def sp_law_cell (K : PySem.W.Frag) : Sp := fun vs H Q _ => ∃ (l : Addr) (ns : List Int) (k : Nat), vs = [.ref l, .int (k : Int)] ∧ SqL K H l (ns.map V.int) ∧ ∀ z : Int, (z ∈ ns ∨ (0 ≤ z ∧ z ≤ 15485863 * (k : Int) + 29)) → Q (.int z) H
theorem ok_law_cell (T : Tx K mg) : FnOk P w K mg base CX0 1 T.a_law_cell T.d_law_cell ["_law_script", "_law_k"] (sp_law_cell K) := by
  refine T.F_law_cell.ok sc_law_cell (fun vs H Q E h => ?_) (fun cdv A outer s H vs Q E hr h => ?_)
  · obtain ⟨l, ns, k, rfl, _⟩ := h
    rfl
  · refine ⟨_, (pss_cons (ps_if (pt_cmpR op_lt (pv 1) (pe_callB (lenK (K := K) rfl) (by rfl) T.m_len (by decide +kernel) (pa_cons (pv 0) pa_nil)) (nomark _))
        (pss_one (ps_ret (pe_ix (ixK (K := K) rfl) (pv 0) (pv 1) (fun _ _ => rfl))))
        pss_nil)
        (pss_one (ps_ret (pe_op op_add (pe_op op_mul pe_int (pv 1)) pe_int)))), ?_⟩
    obtain ⟨l, ns, k, rfl, hS, q⟩ := h
    walk_at "rd"
    refine rd_iteD (fun hc => ?_) (fun hc => ?_)
    · rw [List.length_map] at hc
      have hk : k < ns.length := by omega
      walk_at "rd"
      refine rd_ixL hS (atI_nat (j := k) (v := .int ns[k]) ?_) ?_
      · rw [List.getElem?_map, List.getElem?_eq_getElem hk]
        rfl
      · exact q _ (.inl (List.getElem_mem hk))
    · walk_at "rd"
      refine rd_I (.inl ⟨by decide, by decide⟩) ?_
      walk_at "rd"
      exact q _ (.inr ⟨by omega, by omega⟩)
def sp_law_box (K : PySem.W.Frag) : Sp := fun vs H Q _ => ∃ z : Int, vs = [.int z] ∧ ∀ (p : Addr) (H' : Hp), H p = none → Same H H' → BoxAt H' p 0 → Q (.ref p) H'
theorem ok_law_box (T : Tx K mg) : FnOk P w K mg base CX0 1 T.a_law_box T.d_law_box ["_law_cell_here"] (sp_law_box K) := by
  refine T.F_law_box.ok sc_law_box (fun vs H Q E h => ?_) (fun cdv A outer s H vs Q E hr h => ?_)
  · obtain ⟨z, rfl, _⟩ := h
    rfl
  · refine ⟨_, (pss_one (ps_ret (pe_lst (pa_cons (pe_callB (max2 rfl) (by rfl) T.m_max (by decide +kernel) (pa_cons pe_int (pa_cons (pe_op op_sub (pv 0) (pe_op op_pow pe_int pe_int)) pa_nil))) (pa_cons (pe_op op_mod (pv 0) pe_int) (pa_cons pe_int pa_nil)))))), ?_⟩
    obtain ⟨z, rfl, q⟩ := h
    walk_at "rd"
    refine rd_I ⟨by decide, by decide, by decide⟩ ?_
    walk_at "rd"
    refine rd_max2 fun m hm => ?_
    walk_at "rd"
    refine rd_I (by decide) ?_
    walk_at "rd"
    refine rd_lstA (by simp) fun p H1 hp s1 e1 => ?_
    refine q p _ hp s1 ⟨_, _, _, e1, ?_, ?_, ?_, Int.le_refl _, Int.le_refl _⟩
    · omega
    · exact Int.emod_nonneg _ (by decide)
    · exact Int.emod_lt_of_pos _ (by decide)
theorem box_one (b c : Int) (h1 : 0 ≤ b) (h2 : b < 2147483629) (h3 : 0 ≤ c) (h4 : c ≤ 1000001) : (b + 7919 * c + 101).natAbs < 2 ^ 64 := by omega
theorem box_two (o c : Int) (h1 : 0 ≤ o) (h2 : o < 2147483647) (h3 : 0 ≤ c) (h4 : c ≤ 1000001) : (o / 8 + 104729 * c * c + 3).natAbs < 2 ^ 64 := by
  have h5 : 104729 * c * c ≤ 104729 * 1000001 * 1000001 := Int.mul_le_mul (by omega) h4 h3 (by decide)
  have h6 : 0 ≤ 104729 * c * c := Int.mul_nonneg (by omega) h3
  have h7 : (104729 : Int) * 1000001 * 1000001 = 104729209458104729 := by decide
  omega
theorem pow5 (x : Int) : CPow x 5 ↔ x.natAbs < 2 ^ 64 := ⟨fun h => h.2.2, fun h => ⟨by decide, by decide, h⟩⟩
theorem pow3 (x : Int) : CPow x 3 ↔ x.natAbs < 2 ^ 64 := ⟨fun h => h.2.2, fun h => ⟨by decide, by decide, h⟩⟩
def sp_law_take (K : PySem.W.Frag) : Sp := fun vs H Q _ => ∃ (p : Addr) (m : Int) (n : Nat), vs = [.ref p, .int m] ∧ BoxAt H p n ∧ 0 < m ∧ m < 2 ^ 200 ∧ n ≤ 1000000 ∧ ∀ (r : Int) (H' : Hp), 0 ≤ r → r < m → BoxAt H' p (n + 1) → KeepB p H H' → Q (.int r) H'
theorem rd_take {K : PySem.W.Frag} {H : Hp} {Q : VK} {E : XK} {p : Addr} {m : Int} {n : Nat} (hB : BoxAt H p n) (hm : 0 < m) (hm2 : m < 2 ^ 200) (hn : n ≤ 1000000) (q : ∀ (r : Int) (H' : Hp), 0 ≤ r → r < m → BoxAt H' p (n + 1) → KeepB p H H' → Q (.int r) H') :
    sp_law_take K [.ref p, .int m] H Q E := ⟨p, m, n, rfl, hB, hm, hm2, hn, q⟩
theorem ok_law_take (T : Tx K mg) : FnOk P w K mg base CX0 1 T.a_law_take T.d_law_take ["_law_box_here", "_law_many"] (sp_law_take K) := by
  refine T.F_law_take.ok sc_law_take (fun vs H Q E h => ?_) (fun cdv A outer s H vs Q E hr h => ?_)
  · obtain ⟨p, m, n, rfl, _⟩ := h
    rfl
  · refine ⟨_, (pss_cons (ps_if (pt_cmpR op_gt (pe_ix (ixK (K := K) rfl) (pv 0) pe_int (fun _ _ => rfl)) pe_int (nomark _))
        (pss_cons (ps_set (i := 2) sc_law_take.nd rfl (Or.inl rfl) (pe_op op_mod (pe_ix (ixK (K := K) rfl) (pv 0) pe_int (fun _ _ => rfl)) (pv 1)))
        (pss_cons (ps_asg (pe_op op_fdivW (pe_ix (ixK (K := K) rfl) (pv 0) pe_int (fun _ _ => rfl)) (pv 1)) (pg_sub (pv 0) pe_int set_list))
        (pss_one (ps_ret (pv 2)))))
        pss_nil)
        (pss_cons (ps_asg (pe_op op_add (pe_ix (ixK (K := K) rfl) (pv 0) pe_int (fun _ _ => rfl)) pe_int) (pg_sub (pv 0) pe_int set_list))
        (pss_cons (ps_set (i := 3) sc_law_take.nd rfl (Or.inl rfl) (pe_op op_mod (pe_op op_pow (pe_op op_add (pe_op op_add (pe_ix (ixK (K := K) rfl) (pv 0) pe_int (fun _ _ => rfl)) (pe_op op_mul pe_int (pe_ix (ixK (K := K) rfl) (pv 0) pe_int (fun _ _ => rfl)))) pe_int) pe_int) pe_int))
        (pss_cons (ps_set (i := 4) sc_law_take.nd rfl (Or.inl rfl) (pe_op op_mod (pe_op op_pow (pe_op op_add (pe_op op_add (pe_op op_fdivW (pv 3) pe_int) (pe_op op_mul (pe_op op_mul pe_int (pe_ix (ixK (K := K) rfl) (pv 0) pe_int (fun _ _ => rfl))) (pe_ix (ixK (K := K) rfl) (pv 0) pe_int (fun _ _ => rfl)))) pe_int) pe_int) pe_int))
        (pss_one (ps_ret (pe_op op_mod (pe_op op_add (pe_op op_fdivW (pv 3) pe_int) (pe_op op_mul pe_int (pe_op op_fdivW (pv 4) pe_int))) (pv 1)))))))), ?_⟩
    obtain ⟨p, m, n, rfl, ⟨a, b, c, hp, ha, hb, hb2, hc, hc2⟩, hm, hm2, hn, q⟩ := h
    walk_at "rd"
    refine rd_iteD (fun h0 => ?_) (fun h0 => ?_)
    · walk_at "rd"
      refine rd_I hm ?_
      walk_at "rd"
      refine rd_I ⟨hm, log2_small hm hm2⟩ ?_
      walk_at "rd"
      refine rd_setL hp (j := 0) rfl ?_
      walk_at "rd"
      refine q _ _ (Int.emod_nonneg _ (by omega)) (Int.emod_lt_of_pos _ hm) ⟨_, _, _, upd_same, Int.ediv_nonneg ha (by omega), hb, hb2, hc, by omega⟩ keepB_upd
    · walk_at "rd"
      refine rd_setL hp (j := 2) rfl ?_
      have hp2 : (upd H p (.lst ([V.int a, .int b, .int c].set 2 (.int (c + 1))))) p = some (.lst [V.int a, .int b, .int (c + 1)]) := upd_same
      have hk : KeepB p H (upd H p (.lst ([V.int a, .int b, .int c].set 2 (.int (c + 1))))) := keepB_upd
      generalize (upd H p (.lst ([V.int a, .int b, .int c].set 2 (.int (c + 1))))) = H2 at hp2 hk
      walk_at "rd"
      refine rd_I (.inl ⟨by decide, by decide⟩) ?_
      walk_at "rd"
      refine rd_I ((pow5 _).mpr (box_one _ _ hb hb2 (by omega) (by omega))) ?_
      walk_at "rd"
      refine rd_modA (by decide) fun one h1 h2 => ?_
      walk_at "rd"
      refine rd_I ⟨by decide, by decide⟩ ?_
      walk_at "rd"
      refine rd_I (.inl ⟨by decide, by decide⟩) ?_
      walk_at "rd"
      refine rd_I (.inr ⟨by omega, by omega⟩) ?_
      walk_at "rd"
      refine rd_I ((pow3 _).mpr (box_two _ _ h1 h2 (by omega) (by omega))) ?_
      walk_at "rd"
      refine rd_modA (by decide) fun other h3 h4 => ?_
      walk_at "rd"
      refine rd_I ⟨by decide, by decide⟩ ?_
      walk_at "rd"
      refine rd_I ⟨by decide, by decide⟩ ?_
      refine rd_I (.inl ⟨by decide, by decide⟩) ?_
      walk_at "rd"
      refine rd_modA hm fun r h5 h6 => ?_
      walk_at "rd"
      exact q r H2 h5 h6 ⟨_, _, _, hp2, ha, hb, hb2, by omega, by omega⟩ hk

def sp_law_word (K : PySem.W.Frag) : Sp := fun vs H Q _ => ∃ p, vs = [.ref p] ∧ BoxAt H p 0 ∧ ∀ v H', KeepB p H H' → WordAt K H' v → Q v H'
def signs : Str := Str.ofString " !\"#$&'()*+,-./:;<=>?@ABCDEFGHIJKLMNOPQRSTUVWXYZ[\\]^_`abcdefghijklmnopqrstuvwxyz{|}~\n"
theorem join_len {ys : List Str} (h : ∀ y ∈ ys, y.length = 1) : (Txt.join (Str.ofString "") ys).length ≤ ys.length ∧ (ys.map (·.length)).sum = ys.length := by
  have e : (ys.map (·.length)).sum = ys.length := by
    induction ys with
    | nil => rfl
    | cons a r ih =>
      rw [List.map_cons, List.sum_cons, ih fun y hy => h y (List.mem_cons_of_mem _ hy), h a List.mem_cons_self, List.length_cons]
      omega
  refine ⟨?_, e⟩
  have := size_glued (Str.ofString "") ys
  have e0 : (Str.ofString "").length = 0 := by decide +kernel
  rw [e0, Nat.mul_zero, Nat.add_zero, e] at this
  exact Nat.le_of_eq this
theorem figs10 : (Str.ofString "0123456789").length = 10 := by decide +kernel
theorem mul_zero_text {r : Int} (h0 : 0 ≤ r) (h1 : r < 2) : (Txt.mul (Str.ofString "0") (1 + r)).length ≤ 2 := by
  have h : r = 0 ∨ r = 1 := by omega
  rcases h with rfl | rfl <;> decide +kernel
theorem tyW {K : PySem.W.Frag} {H : Hp} {v : V} {t : String} (h : TyOf K H v (.type t)) (k : kitB t "str" = some false) : WordAt K H v := .inr ⟨t, .base h, k⟩
theorem strW {K : PySem.W.Frag} {H : Hp} {z : Str} (h : z.length ≤ 1000) : WordAt K H (.str z) := .inl ⟨z, rfl, h⟩
theorem ok_law_word (T : Tx K mg) : FnOk P w K mg base CX0 2 T.a_law_word T.d_law_word ["_law_box_here"] (sp_law_word K) := by
  refine T.F_law_word.ok sc_law_word (fun vs H Q E h => ?_) (fun cdv A outer s H vs Q E hr h => ?_)
  · obtain ⟨p, rfl, _⟩ := h
    rfl
  · refine ⟨_, (pss_cons (ps_set (i := 1) sc_law_word.nd rfl (Or.inl rfl) pe_str)
        (pss_cons (ps_set (i := 2) sc_law_word.nd rfl (Or.inl rfl) (pe_call (ok_law_take T) (hr.mono (by decide)) (by rfl) T.g_law_take T.F_law_take.kp T.b_law_take .nil pass0 (pa_cons (pv 0) (pa_cons pe_int pa_nil))))
        (pss_cons (ps_set (i := 3) sc_law_word.nd rfl (Or.inl rfl) (pe_call (ok_law_take T) (hr.mono (by decide)) (by rfl) T.g_law_take T.F_law_take.kp T.b_law_take .nil pass0 (pa_cons (pv 0) (pa_cons pe_int pa_nil))))
        (pss_cons (ps_set (i := 4) sc_law_word.nd rfl (Or.inl rfl) (pe_ix (ixLK (K := K) rfl) (pe_lst (pa_cons (pe_op op_add pe_int (pe_call (ok_law_take T) (hr.mono (by decide)) (by rfl) T.g_law_take T.F_law_take.kp T.b_law_take .nil pass0 (pa_cons (pv 0) (pa_cons pe_int pa_nil)))) (pa_cons (pe_op op_add pe_int (pe_call (ok_law_take T) (hr.mono (by decide)) (by rfl) T.g_law_take T.F_law_take.kp T.b_law_take .nil pass0 (pa_cons (pv 0) (pa_cons pe_int pa_nil)))) (pa_cons pe_int (pa_cons pe_int (pa_cons pe_int pa_nil)))))) (pe_call (ok_law_take T) (hr.mono (by decide)) (by rfl) T.g_law_take T.F_law_take.kp T.b_law_take .nil pass0 (pa_cons (pv 0) (pa_cons pe_int pa_nil))) (fun _ _ => rfl)))
        (pss_cons (ps_set (i := 5) sc_law_word.nd rfl (Or.inl rfl) (pe_joinK (K := K) rfl pe_str (pe_lc (own := [("_law_k", 8)]) (g := gName 8) (tt := tYes) rfl sc_law_word.nd (pi_range1 (by rfl) T.m_range (pa_cons (pv 4) pa_nil)) (blkOk_by (own := [("_law_k", 8)]) (N := N_law_word) (sc := defScope s_law_word) (by decide +kernel)) (fun _ _ _ _ _ => (pg_name (i := 8) sc_law_word.nd rfl (Or.inl rfl))) (fun _ _ _ _ _ => pts_nil) (fun _ _ _ _ _ => (pe_frm (pe_ix ix_str pe_str (pe_call (ok_law_take T) (hr.mono (by decide)) (by rfl) T.g_law_take T.F_law_take.kp T.b_law_take .nil pass0 (pa_cons (pv 0) (pa_cons pe_int pa_nil))) (fun _ _ => rfl)))))))
        (pss_cons (ps_if (pt_cmpR op_eq (pv 2) pe_int (nomark _))
        (pss_one (ps_ret (pe_ix (ixLK (K := K) rfl) (pe_lst (pa_cons pe_non (pa_cons pe_int (pa_cons pe_bl (pa_cons pe_int (pa_cons pe_str (pa_cons pe_str (pa_cons pe_str (pa_cons (pe_lst (pa_cons pe_str pa_nil)) (pa_cons (pe_tup (pa_cons pe_str pa_nil)) (pa_cons pe_dnewK pa_nil))))))))))) (pe_call (ok_law_take T) (hr.mono (by decide)) (by rfl) T.g_law_take T.F_law_take.kp T.b_law_take .nil pass0 (pa_cons (pv 0) (pa_cons pe_int pa_nil))) (fun _ _ => rfl))))
        pss_nil)
        (C8.pss_cut (ps_if (pt_cmpR op_eq (pv 2) pe_int (nomark _))
        (pss_one (ps_set (i := 5) sc_law_word.nd rfl (Or.inl rfl) (pe_op addS (pe_op op_repS pe_str (pe_op op_add pe_int (pe_call (ok_law_take T) (hr.mono (by decide)) (by rfl) T.g_law_take T.F_law_take.kp T.b_law_take .nil pass0 (pa_cons (pv 0) (pa_cons pe_int pa_nil))))) (pv 5))))
        pss_nil)
        (pss_cons (ps_set (i := 6) sc_law_word.nd rfl (Or.inl rfl) (pe_call (ok_law_take T) (hr.mono (by decide)) (by rfl) T.g_law_take T.F_law_take.kp T.b_law_take .nil pass0 (pa_cons (pv 0) (pa_cons (pe_op op_add (pe_callB (lenK (K := K) rfl) (by rfl) T.m_len (by decide +kernel) (pa_cons (pv 5) pa_nil)) pe_int) pa_nil))))
        (pss_cons (ps_set (i := 7) sc_law_word.nd rfl (Or.inl rfl) (pe_ix ix_str (pv 1) (pe_call (ok_law_take T) (hr.mono (by decide)) (by rfl) T.g_law_take T.F_law_take.kp T.b_law_take .nil pass0 (pa_cons (pv 0) (pa_cons (pe_callB (lenK (K := K) rfl) (by rfl) T.m_len (by decide +kernel) (pa_cons (pv 1) pa_nil)) pa_nil))) (fun _ _ => rfl)))
        (pss_cons (ps_if (pt_cmpR op_eq (pv 3) pe_int (nomark _))
        (pss_one (ps_ret (pe_op addS (pe_op addS (pe_slice sl_str (pv 5) po_none (po_some (pv 6))) (pv 7)) (pe_slice sl_str (pv 5) (po_some (pe_op op_add (pv 6) (pe_call (ok_law_take T) (hr.mono (by decide)) (by rfl) T.g_law_take T.F_law_take.kp T.b_law_take .nil pass0 (pa_cons (pv 0) (pa_cons pe_int pa_nil))))) po_none))))
        pss_nil)
        (pss_one (ps_ret (pv 5))))))))))))), ?_⟩
    obtain ⟨p, rfl, hB, q⟩ := h
    walk_at "rd"
    refine rd_take hB (by decide) (by decide) (by decide) fun way H1 w0 w1 hB1 k1 => ?_
    walk_at "rd"
    refine rd_take hB1 (by decide) (by decide) (by decide) fun odd H2 o0 o1 hB2 k2 => ?_
    walk_at "rd"
    refine rd_take hB2 (by decide) (by decide) (by decide) fun r1 H3 r10 r11 hB3 k3 => ?_
    walk_at "rd"
    refine rd_take hB3 (by decide) (by decide) (by decide) fun r2 H4 r20 r21 hB4 k4 => ?_
    walk_at "rd"
    refine rd_lstA (by simp) fun l H5 hl s5 el => ?_
    walk_at "rd"
    have hB5 := hB4.keep s5
    have nl := hB4.ne hl
    refine rd_take hB5 (by decide) (by decide) (by decide) fun r3 H6 r30 r31 hB6 k6 => ?_
    refine rd_ixAny1 (sqL_of (k6 _ _ el nl)) r30 (by simpa using r31) fun v hv => ?_
    obtain ⟨sz, rfl, z0, z1⟩ : ∃ sz : Int, v = .int sz ∧ 1 ≤ sz ∧ sz ≤ 14 := by
      simp only [List.mem_cons, List.not_mem_nil, or_false] at hv
      rcases hv with rfl | rfl | rfl | rfl | rfl <;> exact ⟨_, rfl, by omega, by omega⟩
    have k06 : KeepB p H H6 := ((((k1.trans k2).trans k3).trans k4).trans (Same.keepB s5)).trans k6
    clear hB1 hB2 hB3 hB4 hB5 el s5 k6 k1 k2 k3 k4 hv
    walk_at "rd"
    refine rd_r1 (by omega) (by omega) ?_
    refine lcgoF walk_range (by omega) (fun i x => True) (fun i H x H' _ _ y => ⟨y.1, trivial⟩) (fun _ => rfl) (fun i acc H' => BoxAt H' p (5 + i) ∧ KeepB p H6 H' ∧ ∃ ys : List Str, acc = ys.map V.str ∧ ∀ y ∈ ys, y.length = 1) ⟨hB6, KeepB.refl p H6, [], rfl, fun _ h => nomatch h⟩ (fun _ _ _ _ _ _ _ => trivial) ?_ ?_
    · rintro i x acc Ha Qc hi hla ⟨hBa, ka, ys, rfl, hys⟩ - hq
      walk_at "rd"
      refine rd_take hBa (by decide) (by decide) (by omega) fun r Hc r0 r1 hBc kc => ?_
      refine rd_ixSany (by decide +kernel) r0 (by simpa [figs10] using r1) fun c hc => ?_
      refine hq _ _ ⟨hBc, ka.trans kc, ys ++ [⟨#[c]⟩], by rw [List.map_append]; rfl, fun y hy => ?_⟩
      rcases List.mem_append.mp hy with hy | hy
      · exact hys y hy
      · rw [List.mem_singleton.mp hy]
        rfl
    rintro acc H7' D hla ⟨hB7, k7, ys, rfl, hys⟩ hD
    have hB7 := hB7.new (o := .lst (ys.map V.str)) (hB7.ne hD).symm
    have k7 : KeepB p H6 (upd H7' D (.lst (ys.map V.str))) := k7.trans (Same.keepB (same_new hD))
    have hD7 : (upd H7' D (.lst (ys.map V.str))) D = some (.lst (ys.map V.str)) := upd_same
    generalize upd H7' D (.lst (ys.map V.str)) = H7 at hB7 k7 hD7
    rw [List.length_map] at hla
    obtain ⟨j1, j2⟩ := join_len hys
    refine ⟨_, D, ys, rfl, rfl, .inl (sqL_of hD7), ?_, ?_⟩
    · have e0 : (Str.ofString "").length = 0 := by decide +kernel
      rw [j2, e0]
      omega
    walk_at "rd"
    have k07 : KeepB p H H7 := k06.trans k7
    have hz : (Txt.join (Str.ofString "") ys).length ≤ 14 := by omega
    generalize Txt.join (Str.ofString "") ys = z at hz
    clear hys j1 j2 hD7 k7 k06 hB6
    have hB7 : BoxAt H7 p 100 := hB7.mono (by omega)
    refine rd_iteD (fun h1 => ?_) (fun h1 => ?_)
    · walk_at "rd"
      refine rd_lstA (by simp) fun a1 H8 n8 s8 e8 => ?_
      walk_at "rd"
      refine rd_tupA (by simp) fun a2 H9 n9 s9 e9 => ?_
      walk_at "rd"
      refine rd_dnew fun a3 H10 n10 s10 e10 => ?_
      walk_at "rd"
      refine rd_lstA (by simp) fun a4 H11 n11 s11 e11 => ?_
      walk_at "rd"
      have hB8 := hB7.keep s8
      have hB9 := hB8.keep s9
      have hB10 := hB9.keep s10
      have hB11 := hB10.keep s11
      refine rd_take hB11 (by decide) (by decide) (by decide) fun r H12 r0 r1 hB12 k12 => ?_
      refine rd_ixAny1 (sqL_of (k12 _ _ e11 (hB10.ne n11))) r0 (by simpa using r1) fun v hv => ?_
      have f1 := k12 _ _ (s11 _ _ (s10 _ _ (s9 _ _ e8))) (hB7.ne n8)
      have f2 := k12 _ _ (s11 _ _ (s10 _ _ e9)) (hB8.ne n9)
      have f3 := k12 _ _ (s11 _ _ e10) (hB9.ne n10)
      refine q _ _ (((((k07.trans (Same.keepB s8)).trans (Same.keepB s9)).trans (Same.keepB s10)).trans (Same.keepB s11)).trans k12) ?_
      simp only [List.mem_cons, List.not_mem_nil, or_false] at hv
      rcases hv with rfl | rfl | rfl | rfl | rfl | rfl | rfl | rfl | rfl | rfl
      · exact tyW .non (by decide +kernel)
      · exact tyW (.int 7) (by decide +kernel)
      · exact tyW (.bl true) (by decide +kernel)
      · exact tyW (.int 0) (by decide +kernel)
      · exact strW (by decide +kernel)
      · exact strW (by decide +kernel)
      · exact strW (by decide +kernel)
      · exact tyW (.lst f1) (by decide +kernel)
      · exact tyW (.tup f2) (by decide +kernel)
      · exact tyW (.dK f3) (by decide +kernel)
    · walk_at "rd"
      refine ⟨fun σ' H' => ∃ z', z'.length ≤ 20 ∧ σ' = [some (.ref p), some (.str signs), some (.int way), some (.int odd), some (.int sz), some (.str z'), none, none, none] ∧ BoxAt H' p 200 ∧ KeepB p H H', ?_, ?_⟩
      · walk_at "rd"
        refine rd_iteD (fun h2 => ?_) (fun h2 => ?_)
        · walk_at "rd"
          refine rd_take hB7 (by decide) (by decide) (by decide) fun r H8 r0 r1 hB8 k8 => ?_
          walk_at "rd"
          have h3 := mul_zero_text r0 r1
          refine rd_repS (mulOk_of 1 2 (by decide +kernel) (by omega) (by omega) (by decide) (by decide)) ?_
          walk_at "rd"
          refine rd_addS (by omega) ?_
          walk_at "rd"
          exact ⟨_, by rw [PySem.Str.length_append]; omega, rfl, hB8.mono (by omega), k07.trans k8⟩
        · walk_at "rd"
          exact ⟨z, by omega, rfl, hB7.mono (by omega), k07⟩
      · rintro σ' H8 ⟨z', hz', rfl, hB8, k8⟩
        have hs : signs.length = 85 := by decide +kernel
        walk_at "rd"
        refine rd_take hB8 (by omega) (by omega) (by decide) fun at_ H9 a0 a1 hB9 k9 => ?_
        walk_at "rd"
        refine rd_take hB9 (by rw [hs]; decide) (by rw [hs]; decide) (by decide) fun r H10 r0 r1 hB10 k10 => ?_
        refine rd_ixSany (by rw [hs]; decide) r0 r1 fun c hc => ?_
        walk_at "rd"
        have k810 := (k8.trans k9).trans k10
        refine rd_iteD (fun h2 => ?_) (fun h2 => ?_)
        · walk_at "rd"
          have c1 := cutS_length z' none (some at_)
          refine rd_addS (by show (cutS z' none (some at_)).length + 1 ≤ 100000; omega) ?_
          walk_at "rd"
          refine rd_take hB10 (by decide) (by decide) (by decide) fun r5 H11 r50 r51 hB11 k11 => ?_
          walk_at "rd"
          have c2 := cutS_length z' (some (at_ + r5)) none
          have c3 : (cutS z' none (some at_) ++ (⟨#[c]⟩ : Str)).length = (cutS z' none (some at_)).length + 1 := PySem.Str.length_append _ _
          refine rd_addS (by omega) ?_
          walk_at "rd"
          exact q _ _ (k810.trans k11) (strW (by rw [PySem.Str.length_append]; omega))
        · walk_at "rd"
          exact q _ _ k810 (strW (by omega))
def sp_law_due (K : PySem.W.Frag) : Sp := fun vs H Q _ => ∃ v, vs = [v] ∧ WordAt K H v ∧ ∀ H', Same H H' → Q (numW v) H'
theorem find_fig (c : Nat) : Txt.find (Str.ofString "0123456789") ⟨#[c]⟩ = if isFig c = true then (c : Int) - 48 else -1 := by
  cases h : isFig c with
  | true =>
    have h2 : 48 ≤ c ∧ c ≤ 57 := of_decide_eq_true h
    have h3 : c = 48 ∨ c = 49 ∨ c = 50 ∨ c = 51 ∨ c = 52 ∨ c = 53 ∨ c = 54 ∨ c = 55 ∨ c = 56 ∨ c = 57 := by omega
    rcases h3 with rfl | rfl | rfl | rfl | rfl | rfl | rfl | rfl | rfl | rfl <;> decide +kernel
  | false =>
    have h2 := PySem.StrLaws.found_one (Str.ofString "0123456789") c
    rw [isFig_in, h] at h2
    unfold Txt.find
    cases ho : Builtin.Str.occurrences (Str.ofString "0123456789") ⟨#[c]⟩ 0 (Str.ofString "0123456789").length 1 with
    | nil => rfl
    | cons a r =>
      rw [ho] at h2
      cases h2
theorem dv_more {l : List Nat} {i c : Nat} (h : l[i]? = some c) : PySem.NumText.digitsVal (l.take (i + 1)) = PySem.NumText.digitsVal (l.take i) * 10 + (c - 48) := by
  rw [List.take_add_one, h]
  unfold PySem.NumText.digitsVal
  rw [List.foldl_append]
  rfl
theorem not_all {l : List Nat} {i c : Nat} (h : l[i]? = some c) (hc : isFig c = false) : ¬ l.all isFig = true := fun z => by
  have := List.all_eq_true.mp z c (List.mem_of_getElem? h)
  rw [hc] at this
  cases this
theorem empty_text (z : Str) : (z = Str.ofString "") ↔ z.length = 0 := by
  obtain ⟨⟨l⟩⟩ := z
  cases l with
  | nil => exact ⟨fun _ => rfl, fun _ => by decide +kernel⟩
  | cons a r => exact ⟨fun h => by have h2 := congrArg Str.length h; exact absurd h2 (by intro q; exact absurd (show r.length + 1 = 0 from q) (by omega)), fun h => absurd (show r.length + 1 = 0 from h) (by omega)⟩
theorem ok_law_due (T : Tx K mg) : FnOk P w K mg base CX0 1 T.a_law_due T.d_law_due ["_law_word_here"] (sp_law_due K) := by
  refine T.F_law_due.ok sc_law_due (fun vs H Q E h => ?_) (fun cdv A outer s H vs Q E hr h => ?_)
  · obtain ⟨v, rfl, _⟩ := h
    rfl
  · refine ⟨_, (pss_cons (ps_if (PW.pt (pw_or (pt_not (pt_val (pe_callB (isiK (K := K) rfl) (by rfl) T.m_isinstance (by decide +kernel) (pa_cons (pv 0) (pa_cons (pe_bltn (v := .ty "str") rfl T.m_str (by decide +kernel) rfl) pa_nil))))) (pw_or (pt_cmpR op_eq (pv 0) pe_str (nomark _)) (pw_or1 (pt_cmpR op_gt (pe_callB (lenK (K := K) rfl) (by rfl) T.m_len (by decide +kernel) (pa_cons (pv 0) pa_nil)) pe_int (nomark _))))))
        (pss_one (ps_ret pe_non))
        pss_nil)
        (C8.pss_cut (ps_if (PW.pt (pw_and (pt_cmpR op_gt (pe_callB (lenK (K := K) rfl) (by rfl) T.m_len (by decide +kernel) (pa_cons (pv 0) pa_nil)) pe_int (nomark _)) (pw_and1 (pt_cmpR op_eq (pe_ix ix_str (pv 0) pe_int (fun _ _ => rfl)) pe_str (nomark _)))))
        (pss_one (ps_ret pe_non))
        pss_nil)
        (pss_cons (ps_set (i := 1) sc_law_due.nd rfl (Or.inl rfl) pe_int)
        (pss_cons (ps_for PassesOwn.never rfl (pi_str (pv 0)) (pg_name (i := 2) sc_law_due.nd rfl (Or.inl rfl))
        (pss_cons (ps_set (i := 3) sc_law_due.nd rfl (Or.inl rfl) (pe_m1 PySem.F.slot_str_find PySem.F.type_str_find findS pe_str (pv 2)))
        (pss_cons (ps_if (pt_cmpR op_lt (pv 3) pe_int (nomark _))
        (pss_one (ps_ret pe_non))
        pss_nil)
        (pss_one (ps_set (i := 1) sc_law_due.nd rfl (Or.inl rfl) (pe_op op_add (pe_op op_mul pe_int (pv 1)) (pv 3)))))))
        (pss_one (ps_ret (pv 1))))))), ?_⟩
    obtain ⟨v, rfl, hw, q⟩ := h
    walk_at "rd"
    rcases hw with ⟨z, rfl, hz⟩ | ⟨t, ht, hk⟩
    · refine rd_isi (b := true) (.base (.str z)) (by decide +kernel) ?_
      walk_at "rd"
      refine rd_iteD (fun h1 => ?_) (fun h1 => ?_)
      · walk_at "rd"
        have := q H (Same.refl H)
        have h2 := (empty_text z).mp (V.str.inj h1)
        rw [numW, numOf_out (by omega)] at this
        exact this
      · walk_at "rd"
        have h2 : z.length ≠ 0 := fun e => h1 (congrArg V.str ((empty_text z).mpr e))
        refine rd_iteD (fun h3 => ?_) (fun h3 => ?_)
        · walk_at "rd"
          have := q H (Same.refl H)
          rw [numW, numOf_out (by omega)] at this
          exact this
        · walk_at "rd"
          obtain ⟨c, hc, hc2⟩ := head_at (z := z) (by omega)
          refine ⟨fun σ' H' => σ' = L2.start N_law_due [.str z] ∧ H' = H ∧ ¬ (z.cps.toList.head? = some 48 ∧ z.length ≠ 1), ?_, ?_⟩
          · walk_at "rd"
            refine rd_iteD (fun h4 => ?_) (fun h4 => ?_)
            · walk_at "rd"
              refine rd_ixS1 (small_sz (by omega)) hc2 ?_
              walk_at "rd"
              refine rd_iteD (fun h5 => ?_) (fun h5 => ?_)
              · walk_at "rd"
                have := q H (Same.refl H)
                have h6 : c = 48 := by
                  rw [zero_text] at h5
                  exact (sign_eq _ _).mp (V.str.inj h5)
                rw [h6] at hc
                rw [numW, numOf_zero hc (by omega)] at this
                exact this
              · walk_at "rd"
                refine ⟨rfl, rfl, fun z1 => h5 ?_⟩
                rw [hc] at z1
                rw [zero_text, Option.some.inj z1.1]
            · walk_at "rd"
              exact ⟨rfl, rfl, fun z1 => z1.2 (by omega)⟩
          · rintro σ' H' ⟨rfl, rfl, h4⟩
            walk_at "rd"
            have hl : z.cps.size = z.cps.toList.length := by simp
            have hl2 : z.length = z.cps.size := rfl
            refine forgo walk_str (fun i σ' H2 => H2 = H' ∧ (z.cps.toList.take i).all isFig = true ∧ ∃ x2 x3, σ' = [some (.str z), some (.int (PySem.NumText.digitsVal (z.cps.toList.take i) : Nat)), x2, x3]) ⟨rfl, rfl, none, none, rfl⟩ (fun _ _ _ _ _ => trivial) ?_ ?_
            · rintro i x σ2 H2 H3 hi ⟨rfl, hf, x2, x3, rfl⟩ ⟨rfl, c1, hc1, rfl⟩
              have hc1' : z.cps.toList[i]? = some c1 := by simpa using hc1
              walk_at "rd"
              rw [find_fig]
              walk_at "rd"
              cases hc3 : isFig c1 with
              | false =>
                refine rd_iteD (fun h5 => ?_) (fun h5 => absurd (show (-1 : Int) < 0 by decide) h5)
                walk_at "rd"
                have := q _ (Same.refl _)
                rw [numW, numOf_fig (not_all hc1' hc3)] at this
                exact this
              | true =>
                have h6 : 48 ≤ c1 ∧ c1 ≤ 57 := of_decide_eq_true hc3
                refine rd_iteD (fun h5 => absurd h5 ?_) (fun h5 => ?_)
                · rw [if_pos rfl]
                  omega
                · walk_at "rd"
                  refine rd_I (.inl ⟨by decide, by decide⟩) ?_
                  walk_at "rd"
                  refine ⟨rfl, ?_, some (.str ⟨#[c1]⟩), some (.int (if true = true then (c1 : Int) - 48 else -1)), ?_⟩
                  · rw [List.take_add_one, hc1', List.all_append, hf]
                    simp [hc3]
                  · have e : (10 * ((PySem.NumText.digitsVal (z.cps.toList.take i) : Nat) : Int) + (if true = true then (c1 : Int) - 48 else -1)) = ((PySem.NumText.digitsVal (z.cps.toList.take (i + 1)) : Nat) : Int) := by
                      rw [dv_more hc1', if_pos rfl]
                      omega
                    rw [← e]
                    rfl
            · rintro σ2 H2 ⟨rfl, hf, x2, x3, rfl⟩
              walk_at "rd"
              rw [hl, List.take_length] at hf ⊢
              have := q _ (Same.refl _)
              rw [numW, numOf_some (by omega) (by omega) hf h4] at this
              exact this
    · refine rd_isi (b := false) ht hk ?_
      walk_at "rd"
      have e : numW v = .non := by
        cases v with
        | str z =>
          cases ht with
          | base b =>
            cases b
            exact absurd hk (by decide +kernel)
        | _ => rfl
      have := q H (Same.refl H)
      rw [e] at this
      exact this
def sp_law (K : PySem.W.Frag) : Sp := fun vs H Q _ => ∃ (a : Addr) (ns : List Int), vs = [.ref a] ∧ SqL K H a (ns.map V.int) ∧ ns.length ≤ 63 ∧ ∀ H', Q (.bl true) H'
theorem dv_lt : ∀ (l : List Nat) (acc n : Nat), (∀ c ∈ l, isFig c = true) → acc < 10 ^ n → l.foldl (fun acc c => acc * 10 + (c - 48)) acc < 10 ^ (n + l.length)
  | [], acc, n, _, h => h
  | c :: r, acc, n, hf, h => by
    have hc : 48 ≤ c ∧ c ≤ 57 := of_decide_eq_true (hf c List.mem_cons_self)
    have e : 10 ^ (n + 1) = 10 ^ n * 10 := Nat.pow_succ ..
    have := dv_lt r (acc * 10 + (c - 48)) (n + 1) (fun d hd => hf d (List.mem_cons_of_mem _ hd)) (by omega)
    rw [List.foldl_cons, List.length_cons]
    rw [show n + (r.length + 1) = n + 1 + r.length by omega]
    exact this
theorem shown_num (v : V) : ∃ t, shown0 (numW v) = some t := by
  cases v with
  | str z =>
    show ∃ t, shown0 (numV (numOf z)) = some t
    by_cases h : 1 ≤ z.length ∧ z.length ≤ 12 ∧ z.cps.toList.all isFig = true ∧ ¬ (z.cps.toList.head? = some 48 ∧ z.length ≠ 1)
    · rw [numOf_some h.1 h.2.1 h.2.2.1 h.2.2.2]
      have hl : z.cps.toList.length = z.length := by simp [Str.length]
      have h1 : PySem.NumText.digitsVal z.cps.toList < 10 ^ 12 := by
        have := dv_lt z.cps.toList 0 0 (fun c hc => List.all_eq_true.mp h.2.2.1 c hc) (by decide)
        rw [Nat.zero_add, hl] at this
        exact Nat.lt_of_lt_of_le this (Nat.pow_le_pow_right (by decide) h.2.1)
      have h2 : ((PySem.NumText.digitsVal z.cps.toList : Nat) : Int).natAbs.log2 < 1920 := Nat.lt_of_lt_of_le (PySem.Flt.log2_lt_of (k := 64) (by decide) (by rw [Int.natAbs_natCast]; exact Nat.lt_trans h1 (by decide))) (by decide)
      exact ⟨_, if_pos h2⟩
    · unfold numOf
      rw [if_neg h]
      exact ⟨_, rfl⟩
  | _ => exact ⟨_, rfl⟩
theorem ok_law (T : Tx K mg) : FnOk P w K mg base CX0 3 T.a_law T.d_law ["_law_script"] (sp_law K) := by
  refine T.F_law.ok sc_law (fun vs H Q E h => ?_) (fun cdv A outer s H vs Q E hr h => ?_)
  · obtain ⟨a, ns, rfl, _⟩ := h
    rfl
  · refine ⟨_, (pss_cons (ps_setLc (i := 1) (own := [("_law_k", 3)]) (g := gName 3) (tt := tYes) rfl sc_law.nd rfl rfl (sw_true rfl rfl rfl (by decide +kernel)) (pi_range1 (by rfl) T.m_range (pa_cons (pe_callB (max2 rfl) (by rfl) T.m_max (by decide +kernel) (pa_cons pe_int (pa_cons (pe_callB (min2 rfl) (by rfl) T.m_min (by decide +kernel) (pa_cons pe_int (pa_cons (pe_callB (lenK (K := K) rfl) (by rfl) T.m_len (by decide +kernel) (pa_cons (pv 0) pa_nil)) pa_nil))) pa_nil))) pa_nil)) (blkOk_by (own := [("_law_k", 3)]) (N := N_law) (sc := defScope s_law) (by decide +kernel)) (fun _ _ _ _ _ => (pg_name (i := 3) sc_law.nd rfl (Or.inl rfl))) (fun _ _ _ _ _ => pts_nil) (fun _ _ _ _ _ => (pe_frm (pe_call (ok_law_word T) (hr.mono (by decide)) (by rfl) T.g_law_word T.F_law_word.kp T.b_law_word .nil pass0 (pa_cons (pe_call (ok_law_box T) (hr.mono (by decide)) (by rfl) T.g_law_box T.F_law_box.kp T.b_law_box .nil pass0 (pa_cons (pe_call (ok_law_cell T) (hr.mono (by decide)) (by rfl) T.g_law_cell T.F_law_cell.kp T.b_law_cell .nil pass0 (pa_cons (pv 0) (pa_cons (pv 3) pa_nil))) pa_nil)) pa_nil)))))
        (pss_cons (ps_for PassesOwn.never rfl (pi_listK (K := K) rfl (pe_op op_cat (pv 1) (pe_revLK (K := K) rfl (pv 1)))) (pg_name (i := 2) sc_law.nd rfl (Or.inl rfl))
        (pss_one (ps_if (pt_cmpR op_ne (pe_callB call_repr0 (by rfl) T.m_repr (by decide +kernel) (pa_cons (pe_call (ok_number_of T) (hr.mono (by decide)) (by rfl) T.g_number_of T.F_number_of.kp T.b_number_of .nil pass0 (pa_cons (pv 2) pa_nil)) pa_nil)) (pe_callB call_repr0 (by rfl) T.m_repr (by decide +kernel) (pa_cons (pe_call (ok_law_due T) (hr.mono (by decide)) (by rfl) T.g_law_due T.F_law_due.kp T.b_law_due .nil pass0 (pa_cons (pv 2) pa_nil)) pa_nil)) (nomark _))
        (pss_one (ps_ret pe_bl))
        pss_nil)))
        (pss_one (ps_ret pe_bl)))), ?_⟩
    obtain ⟨a, ns, rfl, hS, hlen, q⟩ := h
    walk_at "rd"
    refine rd_min2 fun m hm => ?_
    walk_at "rd"
    refine rd_max2 fun m2 hm2 => ?_
    rw [List.length_map] at hm
    walk_at "rd"
    refine rd_r1 (by omega) (by omega) ?_
    refine lcgoF walk_range (by omega) (fun i x => x = .int (0 + (i : Nat))) (fun i H x H' _ _ y => y) (fun _ => rfl) (fun i acc H' => Same H H' ∧ ∀ v ∈ acc, WordAt K H' v) ⟨Same.refl _, fun _ h => nomatch h⟩ (fun _ _ _ _ _ _ _ => trivial) ?_ ?_
    · rintro i x acc Ha Qc hi hla ⟨sa, hws⟩ rfl hq
      walk_at "rd"
      refine ⟨a, ns, i, by simp, sa.seq hS, fun z hz => ?_⟩
      walk_at "rd"
      refine ⟨z, rfl, fun p Hc hp sc hB => ?_⟩
      walk_at "rd"
      refine ⟨p, rfl, hB, fun v Hd kd hv => ?_⟩
      have sd : Same _ Hd := kd.same sc hp
      refine hq _ _ ⟨sa.trans sd, fun w hw => ?_⟩
      rcases List.mem_append.mp hw with hw | hw
      · exact (hws w hw).keep sd
      · rw [List.mem_singleton.mp hw]
        exact hv
    · rintro acc Hb0 D hla ⟨sa, hws⟩ hD
      have hDa : (upd Hb0 D (.lst acc)) D = some (.lst acc) := upd_same
      have sa : Same H (upd Hb0 D (.lst acc)) := sa.trans (same_new hD)
      have hws : ∀ v ∈ acc, WordAt K (upd Hb0 D (.lst acc)) v := fun v hv => (hws v hv).keep (same_new hD)
      generalize upd Hb0 D (.lst acc) = Ha at hDa sa hws
      walk_at "rd"
      refine rd_revK (sqL_of hDa) fun r Hb hr sb er => ?_
      refine rd_cat (sb _ _ hDa) er (by rw [List.length_reverse]; omega) fun l Hc hl sc el => ?_
      refine rd_il (sqL_of el) ?_
      refine forgo walk_list (fun i σ' H' => Same Hc H' ∧ ∃ x, σ' = [some (.ref a), some (.ref D), x, none]) ⟨Same.refl _, none, rfl⟩ (fun i σ' H' _ p => sqL_of (p.1 _ _ el)) ?_ ?_
      · rintro i x σ' Hd He hi ⟨sd, x2, rfl⟩ ⟨e0, hx⟩
        subst e0
        have hxa : x ∈ acc := by
          have := List.mem_of_getElem? hx
          rcases List.mem_append.mp this with h | h
          · exact h
          · exact List.mem_reverse.mp h
        have hw : WordAt K He x := (((hws x hxa).keep sb).keep sc).keep sd
        obtain ⟨t, ht⟩ := shown_num x
        walk_at "rd"
        refine ⟨x, rfl, hw, fun Hf sf => ?_⟩
        walk_at "rd"
        refine rd_repr0 ht ?_
        walk_at "rd"
        refine ⟨x, rfl, hw.keep sf, fun Hg sg => ?_⟩
        walk_at "rd"
        refine rd_repr0 ht ?_
        walk_at "rd"
        refine rd_iteD (fun _ => ?_) (fun h => absurd rfl h)
        walk_at "rd"
        exact ⟨(sd.trans sf).trans sg, some x, rfl⟩
      · rintro σ' Hd ⟨sd, x2, rfl⟩
        walk_at "rd"
        exact q _

end
theorem all_mk {l : PySem.W.OpenLaw} {w : World} {K : PySem.W.Frag} {h : Heap} {mg : Str → Option Value} {fa : Addr} (X : K.In h) (G : h.Ns mainGlobals mg) (hfa : mg "law" = some (.ref fa))
    {f0 : Addr} {oc0 kV0 dc0 pm0 cd0 ct0 : Value} {od0 an0 : Option Addr} {sl0 : Array (Option Value)}
    (a0 : PySem.W.nsIn K mainGlobals "number_of" = some (some (.ref f0))) (l0 : K.lookup f0 = some ⟨oc0, od0, .func (PySem.W.fnOf "number_of" "number_of" (defArgs s_number_of) (defBody s_number_of) (defScope s_number_of) .none kV0 dc0 pm0 an0 cd0 ct0), sl0⟩) (c0 : PySem.W.codeIn K cd0 "number_of" = true) (k0 : PySem.W.keepIn K (.ref f0) = true)
    {f1 : Addr} {oc1 kV1 dc1 pm1 cd1 ct1 : Value} {od1 an1 : Option Addr} {sl1 : Array (Option Value)}
    (a1 : PySem.W.nsIn K mainGlobals "_law_cell" = some (some (.ref f1))) (l1 : K.lookup f1 = some ⟨oc1, od1, .func (PySem.W.fnOf "_law_cell" "_law_cell" (defArgs s_law_cell) (defBody s_law_cell) (defScope s_law_cell) .none kV1 dc1 pm1 an1 cd1 ct1), sl1⟩) (c1 : PySem.W.codeIn K cd1 "_law_cell" = true) (k1 : PySem.W.keepIn K (.ref f1) = true)
    {f2 : Addr} {oc2 kV2 dc2 pm2 cd2 ct2 : Value} {od2 an2 : Option Addr} {sl2 : Array (Option Value)}
    (a2 : PySem.W.nsIn K mainGlobals "_law_box" = some (some (.ref f2))) (l2 : K.lookup f2 = some ⟨oc2, od2, .func (PySem.W.fnOf "_law_box" "_law_box" (defArgs s_law_box) (defBody s_law_box) (defScope s_law_box) .none kV2 dc2 pm2 an2 cd2 ct2), sl2⟩) (c2 : PySem.W.codeIn K cd2 "_law_box" = true) (k2 : PySem.W.keepIn K (.ref f2) = true)
    {f3 : Addr} {oc3 kV3 dc3 pm3 cd3 ct3 : Value} {od3 an3 : Option Addr} {sl3 : Array (Option Value)}
    (a3 : PySem.W.nsIn K mainGlobals "_law_take" = some (some (.ref f3))) (l3 : K.lookup f3 = some ⟨oc3, od3, .func (PySem.W.fnOf "_law_take" "_law_take" (defArgs s_law_take) (defBody s_law_take) (defScope s_law_take) .none kV3 dc3 pm3 an3 cd3 ct3), sl3⟩) (c3 : PySem.W.codeIn K cd3 "_law_take" = true) (k3 : PySem.W.keepIn K (.ref f3) = true)
    {f4 : Addr} {oc4 kV4 dc4 pm4 cd4 ct4 : Value} {od4 an4 : Option Addr} {sl4 : Array (Option Value)}
    (a4 : PySem.W.nsIn K mainGlobals "_law_word" = some (some (.ref f4))) (l4 : K.lookup f4 = some ⟨oc4, od4, .func (PySem.W.fnOf "_law_word" "_law_word" (defArgs s_law_word) (defBody s_law_word) (defScope s_law_word) .none kV4 dc4 pm4 an4 cd4 ct4), sl4⟩) (c4 : PySem.W.codeIn K cd4 "_law_word" = true) (k4 : PySem.W.keepIn K (.ref f4) = true)
    {f5 : Addr} {oc5 kV5 dc5 pm5 cd5 ct5 : Value} {od5 an5 : Option Addr} {sl5 : Array (Option Value)}
    (a5 : PySem.W.nsIn K mainGlobals "_law_due" = some (some (.ref f5))) (l5 : K.lookup f5 = some ⟨oc5, od5, .func (PySem.W.fnOf "_law_due" "_law_due" (defArgs s_law_due) (defBody s_law_due) (defScope s_law_due) .none kV5 dc5 pm5 an5 cd5 ct5), sl5⟩) (c5 : PySem.W.codeIn K cd5 "_law_due" = true) (k5 : PySem.W.keepIn K (.ref f5) = true)
    {f6 : Addr} {oc6 kV6 dc6 pm6 cd6 ct6 : Value} {od6 an6 : Option Addr} {sl6 : Array (Option Value)}
    (a6 : PySem.W.nsIn K mainGlobals "law" = some (some (.ref f6))) (l6 : K.lookup f6 = some ⟨oc6, od6, .func (PySem.W.fnOf "law" "law" (defArgs s_law) (defBody s_law) (defScope s_law) .none kV6 dc6 pm6 an6 cd6 ct6), sl6⟩) (c6 : PySem.W.codeIn K cd6 "law" = true) (k6 : PySem.W.keepIn K (.ref f6) = true)
    (z_all : PySem.W.nsIn K mainGlobals "all" = some none)
    (z_int : PySem.W.nsIn K mainGlobals "int" = some none)
    (z_isinstance : PySem.W.nsIn K mainGlobals "isinstance" = some none)
    (z_len : PySem.W.nsIn K mainGlobals "len" = some none)
    (z_max : PySem.W.nsIn K mainGlobals "max" = some none)
    (z_min : PySem.W.nsIn K mainGlobals "min" = some none)
    (z_range : PySem.W.nsIn K mainGlobals "range" = some none)
    (z_repr : PySem.W.nsIn K mainGlobals "repr" = some none)
    (z_str : PySem.W.nsIn K mainGlobals "str" = some none)
    {t_FIGURES : Tok} (y_FIGURES : PySem.W.nsIn K mainGlobals "FIGURES" = some (some (.str "0123456789" t_FIGURES)))
    {t_MOST_FIGURES : Tok} (y_MOST_FIGURES : PySem.W.nsIn K mainGlobals "MOST_FIGURES" = some (some (.int 12 t_MOST_FIGURES)))
    : ∃ fd : FuncData, (∀ (s : Shared) (v : Value), BindsTo s fd ⟨[v], []⟩ [("_law_script", v)]) ∧ ∀ base : Heap, K.In base → base.Ns mainGlobals mg → FnOk l.prog w K mg base CX0 3 fa fd ["_law_script"] (sp_law K) := by
  have e := hfa.symm.trans (PySem.W.mg_of X G a6)
  cases e
  have F0 := fun_mk (st := s_number_of) l0 c0 k0
  have b0 := F0.binds (ps := ["word"]) fun _ _ _ _ _ _ us hl => match us, hl with | [_], _ => rfl
  have F1 := fun_mk (st := s_law_cell) l1 c1 k1
  have b1 := F1.binds (ps := ["_law_script", "_law_k"]) fun _ _ _ _ _ _ us hl => match us, hl with | [_, _], _ => rfl
  have F2 := fun_mk (st := s_law_box) l2 c2 k2
  have b2 := F2.binds (ps := ["_law_cell_here"]) fun _ _ _ _ _ _ us hl => match us, hl with | [_], _ => rfl
  have F3 := fun_mk (st := s_law_take) l3 c3 k3
  have b3 := F3.binds (ps := ["_law_box_here", "_law_many"]) fun _ _ _ _ _ _ us hl => match us, hl with | [_, _], _ => rfl
  have F4 := fun_mk (st := s_law_word) l4 c4 k4
  have b4 := F4.binds (ps := ["_law_box_here"]) fun _ _ _ _ _ _ us hl => match us, hl with | [_], _ => rfl
  have F5 := fun_mk (st := s_law_due) l5 c5 k5
  have b5 := F5.binds (ps := ["_law_word_here"]) fun _ _ _ _ _ _ us hl => match us, hl with | [_], _ => rfl
  have F6 := fun_mk (st := s_law) l6 c6 k6
  have b6 := F6.binds (ps := ["_law_script"]) fun _ _ _ _ _ _ us hl => match us, hl with | [_], _ => rfl
  exact ⟨_, fun s v => .of_eq rfl, fun base _ _ => ok_law (T := { a_number_of := f0, d_number_of := _, F_number_of := F0, g_number_of := PySem.W.mg_of X G a0, b_number_of := b0, a_law_cell := f1, d_law_cell := _, F_law_cell := F1, g_law_cell := PySem.W.mg_of X G a1, b_law_cell := b1, a_law_box := f2, d_law_box := _, F_law_box := F2, g_law_box := PySem.W.mg_of X G a2, b_law_box := b2, a_law_take := f3, d_law_take := _, F_law_take := F3, g_law_take := PySem.W.mg_of X G a3, b_law_take := b3, a_law_word := f4, d_law_word := _, F_law_word := F4, g_law_word := PySem.W.mg_of X G a4, b_law_word := b4, a_law_due := f5, d_law_due := _, F_law_due := F5, g_law_due := PySem.W.mg_of X G a5, b_law_due := b5, a_law := fa, d_law := _, F_law := F6, g_law := PySem.W.mg_of X G a6, b_law := b6, m_all := PySem.W.mg_none_of X G z_all, m_int := PySem.W.mg_none_of X G z_int, m_isinstance := PySem.W.mg_none_of X G z_isinstance, m_len := PySem.W.mg_none_of X G z_len, m_max := PySem.W.mg_none_of X G z_max, m_min := PySem.W.mg_none_of X G z_min, m_range := PySem.W.mg_none_of X G z_range, m_repr := PySem.W.mg_none_of X G z_repr, m_str := PySem.W.mg_none_of X G z_str, c_FIGURES := ⟨_, PySem.W.mg_of X G y_FIGURES, ⟨_, rfl⟩⟩, c_MOST_FIGURES := ⟨_, PySem.W.mg_of X G y_MOST_FIGURES, ⟨_, rfl⟩⟩ })⟩
end My
open PySem PySem.W PyProof.Rows
set_option maxHeartbeats 0 in
theorem PySem.Challenge.cw_iceopened_k02_numbers_written_holds : PySem.Challenge.rw_iceopened_k02_numbers_written.Holds := by
  w_on; o_law; k_head; (case hw => w_witness2)
  k_fill
  refine L2.walk_of (l := PySem.Challenge.rw_iceopened_k02_numbers_written) (n := 63) (k := 3) (x := "_law_script") (CX := fun _ => L2.CX0) (sp := fun w => My.sp_law _) rfl (by decide) rfl ⟨rfl, by decide, by decide⟩ (fun w h Y => PySem.W.kIn_of Y) ?F (fun _ _ a ns hl _ hS => ⟨a, ns, rfl, hS, hl, fun _ => rfl⟩) (fun _ _ _ _ _ h => h)
  case F =>
    intro w mg fa h KX G hmg
    refine' My.all_mk KX G hmg ?a0 ?l0 ?c0 ?k0 ?a1 ?l1 ?c1 ?k1 ?a2 ?l2 ?c2 ?k2 ?a3 ?l3 ?c3 ?k3 ?a4 ?l4 ?c4 ?k4 ?a5 ?l5 ?c5 ?k5 ?a6 ?l6 ?c6 ?k6 ?z_all ?z_int ?z_isinstance ?z_len ?z_max ?z_min ?z_range ?z_repr ?z_str ?y_FIGURES ?y_MOST_FIGURES
    (case a0 => k_is); (case l0 => k_is); (case c0 => k_is); (case k0 => k_is); (case a1 => k_is); (case l1 => k_is); (case c1 => k_is); (case k1 => k_is)
    (case a2 => k_is); (case l2 => k_is); (case c2 => k_is); (case k2 => k_is); (case a3 => k_is); (case l3 => k_is); (case c3 => k_is); (case k3 => k_is)
    (case a4 => k_is); (case l4 => k_is); (case c4 => k_is); (case k4 => k_is); (case a5 => k_is); (case l5 => k_is); (case c5 => k_is); (case k5 => k_is)
    (case a6 => k_is); (case l6 => k_is); (case c6 => k_is); (case k6 => k_is); (case z_all => k_is); (case z_int => k_is); (case z_isinstance => k_is); (case z_len => k_is)
    (case z_max => k_is); (case z_min => k_is); (case z_range => k_is); (case z_repr => k_is); (case z_str => k_is); (case y_FIGURES => k_is); (case y_MOST_FIGURES => k_is)
